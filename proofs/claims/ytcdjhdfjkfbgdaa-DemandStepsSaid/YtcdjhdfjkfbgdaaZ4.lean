/- Words, contracts and plain laws for this claim, part 4. -/
import Derived.Test.YtcdjhdfjkfbgdaaZ3
set_option linter.unusedVariables false
set_option linter.unusedSimpArgs false
namespace Go.Proofs.Ytcdjhdfjkfbgdaa.PD56
open Go.RowKit Go.Proofs.YtcdjhdfjkfbgdaaW.PrintWords Go.Proofs.YtcdjhdfjkfbgdaaW.PrintLast Go.Proofs.YtcdjhdfjkfbgdaaW.PrintMore
attribute [local go_sem] max2_int min2_int max_two min_two max_three min_three max_four min_four
mutual
def plenumref56_Order.l0 : Nat → List (S43) → List Int → Int → Option (List Int)
 | 0,_,_,_ => none
 | k + 1,x0,x3,x4 => if x4 < (x0.length : Int) then (plenumref56_Order.l1 k x0 x3 x4 0) else (some x3)
def plenumref56_Order.l1 : Nat → List (S43) → List Int → Int → Int → Option (List Int)
 | 0,_,_,_,_ => none
 | k + 1,x0,x3,x4,x5 => if x5 < (x3.length : Int) then (if 0 ≤ x5 then (if 0 ≤ (rd x3 x5) then (if (rd x3 x5) < (x0.length : Int) then (if 0 ≤ x4 then (if x4 < (x0.length : Int) then ((plenumref56_before.f ((rd_T43 x0 (rd x3 x5)).f0) ((rd_T43 x0 (rd x3 x5)).f1) ((rd_T43 x0 (rd x3 x5)).f2) ((rd_T43 x0 (rd x3 x5)).f3) ((rd_T43 x0 (rd x3 x5)).f4) ((rd_T43 x0 x4).f0) ((rd_T43 x0 x4).f1) ((rd_T43 x0 x4).f2) ((rd_T43 x0 x4).f3) ((rd_T43 x0 x4).f4)).bind fun t314 => (if t314 = true then (plenumref56_Order.l1 k x0 x3 x4 (wrap64 (x5 + 1))) else ((some (([] : List Int) : List Int)).bind fun y315 => (if x5 ≤ (x3.length : Int) then ((some (x3.take (x5 : Int).toNat : List Int)).bind fun y318 => (if y315.length + y318.length < 17592186044416 then ((some (y315 ++ y318 : List Int)).bind fun y322 => ((some (([x4] : List Int) : List Int)).bind fun y325 => (if y322.length + y325.length < 17592186044416 then ((some (y322 ++ y325 : List Int)).bind fun y328 => ((some (x3.drop (x5 : Int).toNat : List Int)).bind fun y331 => (if y328.length + y331.length < 17592186044416 then (plenumref56_Order.l0 k x0 (y328 ++ y331) (wrap64 (x4 + 1))) else (none)))) else (none)))) else (none))) else (none))))) else (none)) else (none)) else (none)) else (none)) else (none)) else ((some (([] : List Int) : List Int)).bind fun y338 => (if 0 ≤ x5 then (if x5 ≤ (x3.length : Int) then ((some (x3.take (x5 : Int).toNat : List Int)).bind fun y341 => (if y338.length + y341.length < 17592186044416 then ((some (y338 ++ y341 : List Int)).bind fun y345 => ((some (([x4] : List Int) : List Int)).bind fun y348 => (if y345.length + y348.length < 17592186044416 then ((some (y345 ++ y348 : List Int)).bind fun y351 => ((some (x3.drop (x5 : Int).toNat : List Int)).bind fun y354 => (if y351.length + y354.length < 17592186044416 then (plenumref56_Order.l0 k x0 (y351 ++ y354) (wrap64 (x4 + 1))) else (none)))) else (none)))) else (none))) else (none)) else (none)))
end
def plenumref56_Order.f (k : Nat) (l0 : List (S43)) : Option (List Int) := plenumref56_Order.l0 k l0 (([] : List Int)) 0
theorem plenumref56_Order.mono_l : ∀ k,(∀ y0 y1 y2,LeO (plenumref56_Order.l0 k y0 y1 y2) (plenumref56_Order.l0 (k + 1) y0 y1 y2)) ∧ (∀ y0 y1 y2 y3,LeO (plenumref56_Order.l1 k y0 y1 y2 y3) (plenumref56_Order.l1 (k + 1) y0 y1 y2 y3))
 | 0 => ⟨fun _ _ _ r h => by simp [plenumref56_Order.l0] at h,fun _ _ _ _ r h => by simp [plenumref56_Order.l1] at h⟩
 | k + 1 => by
  obtain ⟨ih0,ih1⟩ := plenumref56_Order.mono_l k
  refine ⟨?_,?_⟩
  ·intro y0 y1 y2
   unfold plenumref56_Order.l0
   repeat' first
   | (with_reducible exact ih0 _ _ _)
   | (with_reducible exact ih1 _ _ _ _)
   | (with_reducible exact LeO.refl _)
   | (with_reducible exact LeO.none _)
   | (with_reducible refine LeO.ite ?_ ?_)
   | (with_reducible refine LeO.bind ?_ (fun _ => ?_))
   | exact ih0 _ _ _
   | exact ih1 _ _ _ _
   | exact LeO.none _
   | refine LeO.ite ?_ ?_
   | refine LeO.bind ?_ (fun _ => ?_)
  ·intro y0 y1 y2 y3
   unfold plenumref56_Order.l1
   repeat' first
   | (with_reducible exact ih0 _ _ _)
   | (with_reducible exact ih1 _ _ _ _)
   | (with_reducible exact LeO.refl _)
   | (with_reducible exact LeO.none _)
   | (with_reducible refine LeO.ite ?_ ?_)
   | (with_reducible refine LeO.bind ?_ (fun _ => ?_))
   | exact ih0 _ _ _
   | exact ih1 _ _ _ _
   | exact LeO.none _
   | refine LeO.ite ?_ ?_
   | refine LeO.bind ?_ (fun _ => ?_)
theorem plenumref56_Order.mono : ∀ a0 k,LeO (plenumref56_Order.f k a0) (plenumref56_Order.f (k + 1) a0) := by
 intro a0 k
 obtain ⟨ih0,ih1⟩ := plenumref56_Order.mono_l k
 unfold plenumref56_Order.f
 repeat' first
   | (with_reducible exact ih0 _ _ _)
   | (with_reducible exact ih1 _ _ _ _)
   | (with_reducible exact LeO.refl _)
   | (with_reducible exact LeO.none _)
   | (with_reducible refine LeO.ite ?_ ?_)
   | (with_reducible refine LeO.bind ?_ (fun _ => ?_))
   | exact ih0 _ _ _
   | exact ih1 _ _ _ _
   | exact LeO.none _
   | refine LeO.ite ?_ ?_
   | refine LeO.bind ?_ (fun _ => ?_)
def plenumref56_Order.T6 : Bool × List (List Nat × List Nat) := (true,[([],[]),([],[]),([1],[1]),([0,2],[0,2]),([3],[3]),([4],[4]),([4],[4]),([4],[4]),([6,7,4],[4,6,7]),([8,4],[4,8]),([5,9,4],[4,5,9]),([10,4],[4,10]),([4],[4]),([4],[4]),([12,13,4],[4,12,13]),([14,4],[4,14]),([11,15,4,4],[4,11,15]),([4,16],[4,16])])
def plenumref56_Order.B6 : List Nat := [0,0,2,7,15,31,31,31,223,479,1023,2047,31,31,12319,28703,65535,131071]
theorem plenumref56_Order.tab6 : rtab .any (opsOf Try.f30 6) = plenumref56_Order.T6 := by kernel_rfl
theorem plenumref56_Order.bits6 : waitsOk plenumref56_Order.T6.2 plenumref56_Order.B6 = true := by kernel_rfl
def plenumref56_Order.T8 : Bool × List (List Nat × List Nat) := (true,[([],[]),([],[]),([],[]),([1,2],[1,2]),([0,3],[0,3]),([],[]),([5],[5]),([4,6,4],[4,6]),([],[]),([],[]),([8,9],[8,9]),([7,10,7],[7,10]),([11,11,0,1,2,3,4,5,6,7,8,9,10,11],[1,8,11])])
def plenumref56_Order.B8 : List Nat := [0,0,0,6,15,0,32,127,0,0,768,2047,4095]
theorem plenumref56_Order.tab8 : rtab .any (opsOf Try.f30 8) = plenumref56_Order.T8 := by kernel_rfl
theorem plenumref56_Order.bits8 : waitsOk plenumref56_Order.T8.2 plenumref56_Order.B8 = true := by kernel_rfl
set_option maxHeartbeats 100000000 in
set_option maxRecDepth 100000 in
theorem plenumref56_Order.calls (k : Nat) (A0 : Option Addr) (c0 : Nat) (l0 : List (S43)) (r : List Int) (w : World) (hr0 : Kd.C k43 w A0 l0.length l0) (hc0 : l0.length ≤ c0) (h : plenumref56_Order.f k l0 = some r) :
  Calls Try.prog 30 #[.slice A0 l0.length c0] w fun e w' => ∃ v0_ : Value,e = .returned (v0_) ∧ Kd.R (Kd.int .i64) 3 w' w.heap.size (fun _ => True) v0_ r ∧ Below w.heap.size w w' := by
 have hu43 := Try.underlying43
 have HR0 := Yd hr0
 have HC0 := Yd hc0
 clear hr0 hc0
 have HB := Yd (Below.refl w.heap.size w)
 have H : (plenumref56_Order.l0 k l0 (([] : List Int)) 0) = some r := h
 clear h
 obtain ⟨y308,hy308⟩ : ∃ y_ : List Int,y_ = (([] : List Int)) := ⟨_,rfl⟩
 replace H : (plenumref56_Order.l0 k l0 y308 0) = some r := by first | (rw [hy308];with_reducible exact H) | (have H2_ := (Option.bind_some _ _).symm.trans H;rw [hy308];with_reducible exact H2_) | (have H2_ := (Option.bind_some _ _).symm.trans H;with_reducible exact H2_) | with_reducible exact H | (rw [hy308];exact H) | exact H
 have Ny308 := Yd hy308
 clear hy308
 have H' := Yd H
 clear H
 go_enter Try.func30,Try.ntmps30
 go_wp2_with (first | ((with_reducible refine gate_dst (N := 6) rfl ?_);refine Kd.R_lit (Kd.int .i64) _ 3 ?hg (N := 6) ?hd (xs := ([] : List Int)) (inner := []) (ok := fun _ => True) (okp := fun _ => True) ?hr ?hp (fun _ hk => hk) trivial (Below.refl _ _) (Nat.le_refl _) (by simp) ?_;(case hd => rfl);(case hg => rfl);(case hr => first | (go_simp;done) | (go_simp;rfl));(case hp => exact (Reps.none _ _));intro v309 w2 ho3 hb hg_ hnew_;clear hg_ hnew_;(first | rw [← Ny308.out] at ho3 | (simp only [Int.reduceToNat] at ho3;rw [← Ny308.out] at ho3));have n0_ := Yd (Kd.R_lower ho3 (below_size (Y3 HB.out)));have n1_ := Yd (below_step (Y3 HB.out) hb);clear HB;have HO310 := n0_;have HB := n1_;clear n0_ n1_;clear hb ho3))
 go_loopg [3,4] k (fun kq v3 v4 w' => ∃ (x3_1 : List Int) (x4_1 : Int),v4 = .int .i64 x4_1 ∧ Aside0 (plenumref56_Order.l0 kq l0 x3_1 x4_1 = some r) ∧ Aside0 (kq ≤ k) ∧ Aside0 (Kd.R (Kd.int .i64) 3 w' w.heap.size (fun _ => True) v3 x3_1) ∧ Aside0 (Below w.heap.size w w'))
 case atStart => exact ⟨(y308),(0),Y12,H',⟨Nat.le_refl _⟩,⟨Y5 HO310.out⟩,⟨Y3 HB.out⟩⟩
 case round =>
  clear H'
  try clear p2
  try clear c3
  obtain ⟨x3_1,x4_1,rfl,HA,HK1,HO_3,HB⟩ := hrel
  cases gk with
  | zero => exact absurd HA.out (by simp [plenumref56_Order.l0])
  | succ k1 =>
   have H := HA.out
   clear HA
   simp only [plenumref56_Order.l0] at H
   by_cases c4 : x4_1 < (l0.length : Int)
   ·rw [if_pos c4] at H
    have c4b0 : decide (x4_1 < (l0.length : Int)) = true := decide_eq_true c4
    clear c4
    have H' := Yd H
    clear H
    go_wp2
    go_loopg [5] k1 (fun kq v5 w' => ∃ (x5_2 : Int),v5 = .int .i64 x5_2 ∧ Aside0 (plenumref56_Order.l1 kq l0 x3_1 x4_1 x5_2 = some r) ∧ Aside0 (kq ≤ k1) ∧ Aside0 (Kd.R (Kd.int .i64) 3 w' w.heap.size (fun _ => True) u3 x3_1) ∧ Aside0 (Below w.heap.size w w'))
    case atStart => exact ⟨(0),Y12,H',⟨Nat.le_refl _⟩,⟨Y5 HO_3.out⟩,⟨Y3 HB.out⟩⟩
    case round =>
     clear H'
     try clear p2
     try clear c3
     try clear c4
     try clear c4b0
     try clear p2
     obtain ⟨x5_2,rfl,HA,HK2,HO_3,HB⟩ := hrel
     cases gk with
     | zero => exact absurd HA.out (by simp [plenumref56_Order.l1])
     | succ k2 =>
      have H := HA.out
      clear HA
      simp only [plenumref56_Order.l1] at H
      by_cases c5 : x5_2 < (x3_1.length : Int)
      ·rw [if_pos c5] at H
       have c5b0 : decide (x5_2 < (x3_1.length : Int)) = true := decide_eq_true c5
       clear c5
       by_cases c6 : 0 ≤ x5_2
       case neg => rw [if_neg c6] at H;exact absurd H (by simp)
       rw [if_pos c6] at H
       have c6b0 : decide (0 ≤ x5_2) = true := decide_eq_true c6
       clear c6
       by_cases c7 : 0 ≤ (rd x3_1 x5_2)
       case neg => rw [if_neg c7] at H;exact absurd H (by simp)
       rw [if_pos c7] at H
       have c7b0 : decide (0 ≤ (rd x3_1 x5_2)) = true := decide_eq_true c7
       clear c7
       by_cases c8 : (rd x3_1 x5_2) < (l0.length : Int)
       case neg => rw [if_neg c8] at H;exact absurd H (by simp)
       rw [if_pos c8] at H
       have c8b0 : decide ((rd x3_1 x5_2) < (l0.length : Int)) = true := decide_eq_true c8
       clear c8
       by_cases c9 : 0 ≤ x4_1
       case neg => rw [if_neg c9] at H;exact absurd H (by simp)
       rw [if_pos c9] at H
       have c9b0 : decide (0 ≤ x4_1) = true := decide_eq_true c9
       clear c9
       by_cases c10 : x4_1 < (l0.length : Int)
       case neg => rw [if_neg c10] at H;exact absurd H (by simp)
       rw [if_pos c10] at H
       have c10b0 : decide (x4_1 < (l0.length : Int)) = true := decide_eq_true c10
       clear c10
       replace H := Option.bind_eq_some_iff.mp H
       obtain ⟨t314,A110,H⟩ := H
       replace H : (if t314 = true then (plenumref56_Order.l1 k2 l0 x3_1 x4_1 (wrap64 (x5_2 + 1))) else ((some (([] : List Int) : List Int)).bind fun y315 => (if x5_2 ≤ (x3_1.length : Int) then ((some (x3_1.take (x5_2 : Int).toNat : List Int)).bind fun y318 => (if y315.length + y318.length < 17592186044416 then ((some (y315 ++ y318 : List Int)).bind fun y322 => ((some (([x4_1] : List Int) : List Int)).bind fun y325 => (if y322.length + y325.length < 17592186044416 then ((some (y322 ++ y325 : List Int)).bind fun y328 => ((some (x3_1.drop (x5_2 : Int).toNat : List Int)).bind fun y331 => (if y328.length + y331.length < 17592186044416 then (plenumref56_Order.l0 k2 l0 (y328 ++ y331) (wrap64 (x4_1 + 1))) else (none)))) else (none)))) else (none))) else (none)))) = some r := H
       have A11 := Yd A110
       clear A110
       by_cases c12 : t314 = true
       ·subst c12
        have H1 : (plenumref56_Order.l1 k2 l0 x3_1 x4_1 (wrap64 (x5_2 + 1))) = some r := by rw [if_pos rfl] at H;exact H
        clear H
        have H := H1
        clear H1
        have H' := Yd H
        clear H
        try go_wp2
        have n0_ := Yd (Kd.R_drew HO_3.out)
        have n1_ := Yd (below_drew1 HB.out)
        clear HO_3
        clear HB
        have HO_3 := n0_
        have HB := n1_
        clear n0_ n1_
        obtain ⟨Ao14,co14,eo14⟩ := Kd.R_slice HO_3.out
        (first | subst eo14 | (injection eo14 with f1_ f2_ f3_;have f4_ := f1_.symm;have f5_ := f3_.symm;clear f1_ f2_ f3_;subst f4_;subst f5_))
        have p311 : 0 ≤ (x5_2 : Int) := Y9
        have q311 : x5_2 < (x3_1.length : Int) := Y9
        obtain ⟨ad311,e311,hx311_0⟩ := Kd.at_int (Kd.R_reads' HO_3.out).2.2 x5_2 p311 q311
        cases e311
        replace p311 := eq_true p311
        replace q311 := eq_true q311
        have p312 : 0 ≤ ((rd x3_1 x5_2) : Int) := Y9
        have q312 : (rd x3_1 x5_2) < (l0.length : Int) := Y9
        obtain ⟨ad312,e312,hx312_0,hx312_1,hx312_2,hx312_3,hx312_4⟩ := at_T43 HR0.out (rd x3_1 x5_2) p312 q312
        have hw312_4 := hx312_4
        have hw312_3 := hx312_3
        have hw312_2 := hx312_2
        have hw312_1 := hx312_1
        have hw312_0 := hx312_0
        cases e312
        replace hx312_0 := Y10 HB.out hx312_0
        replace hx312_1 := Y10 HB.out hx312_1
        replace hx312_2 := Y10 HB.out hx312_2
        replace hx312_3 := Y10 HB.out hx312_3
        replace hx312_4 := Y10 HB.out hx312_4
        replace p312 := eq_true p312
        replace q312 := eq_true q312
        have p313 : 0 ≤ (x4_1 : Int) := Y9
        have q313 : x4_1 < (l0.length : Int) := Y9
        obtain ⟨ad313,e313,hx313_0,hx313_1,hx313_2,hx313_3,hx313_4⟩ := at_T43 HR0.out x4_1 p313 q313
        have hw313_4 := hx313_4
        have hw313_3 := hx313_3
        have hw313_2 := hx313_2
        have hw313_1 := hx313_1
        have hw313_0 := hx313_0
        obtain rfl : ad312 = ad313 := (by injection e313)
        replace hx313_0 := Y10 HB.out hx313_0
        replace hx313_1 := Y10 HB.out hx313_1
        replace hx313_2 := Y10 HB.out hx313_2
        replace hx313_3 := Y10 HB.out hx313_3
        replace hx313_4 := Y10 HB.out hx313_4
        replace p313 := eq_true p313
        replace q313 := eq_true q313
        refine start_ (n := 18) (S := fun w' => w'.cell? (ad311.add (x5_2).toNat) = some (.int .i64 (rd x3_1 x5_2)) ∧ w'.cell? (ad312.add (((rd x3_1 x5_2)).toNat * 5)) = some (.string ((rd_T43 l0 (rd x3_1 x5_2)).f0)) ∧ w'.cell? ⟨(ad312.add (((rd x3_1 x5_2)).toNat * 5)).block,(ad312.add (((rd x3_1 x5_2)).toNat * 5)).off + 1,none⟩ = some (.int .i64 ((rd_T43 l0 (rd x3_1 x5_2)).f1)) ∧ w'.cell? ⟨(ad312.add (((rd x3_1 x5_2)).toNat * 5)).block,(ad312.add (((rd x3_1 x5_2)).toNat * 5)).off + 2,none⟩ = some (.int .i64 ((rd_T43 l0 (rd x3_1 x5_2)).f2)) ∧ w'.cell? ⟨(ad312.add (((rd x3_1 x5_2)).toNat * 5)).block,(ad312.add (((rd x3_1 x5_2)).toNat * 5)).off + 3,none⟩ = some (.int .i64 ((rd_T43 l0 (rd x3_1 x5_2)).f3)) ∧ w'.cell? ⟨(ad312.add (((rd x3_1 x5_2)).toNat * 5)).block,(ad312.add (((rd x3_1 x5_2)).toNat * 5)).off + 4,none⟩ = some (.int .i64 ((rd_T43 l0 (rd x3_1 x5_2)).f4)) ∧ w'.cell? (ad312.add ((x4_1).toNat * 5)) = some (.string ((rd_T43 l0 x4_1).f0)) ∧ w'.cell? ⟨(ad312.add ((x4_1).toNat * 5)).block,(ad312.add ((x4_1).toNat * 5)).off + 1,none⟩ = some (.int .i64 ((rd_T43 l0 x4_1).f1)) ∧ w'.cell? ⟨(ad312.add ((x4_1).toNat * 5)).block,(ad312.add ((x4_1).toNat * 5)).off + 2,none⟩ = some (.int .i64 ((rd_T43 l0 x4_1).f2)) ∧ w'.cell? ⟨(ad312.add ((x4_1).toNat * 5)).block,(ad312.add ((x4_1).toNat * 5)).off + 3,none⟩ = some (.int .i64 ((rd_T43 l0 x4_1).f3)) ∧ w'.cell? ⟨(ad312.add ((x4_1).toNat * 5)).block,(ad312.add ((x4_1).toNat * 5)).off + 4,none⟩ = some (.int .i64 ((rd_T43 l0 x4_1).f4))) (ds := []) #[YF,YF,YF,YF,YF,YF,YF,YF,YF,YF,YF,YF,YF,YF,YF,YF,YF,YF] (by kernel_rfl) rfl rfl ⟨hx311_0,(Y10 HB.out hw312_0 :),(Y10 HB.out hw312_1 :),(Y10 HB.out hw312_2 :),(Y10 HB.out hw312_3 :),(Y10 HB.out hw312_4 :),(Y10 HB.out hw313_0 :),(Y10 HB.out hw313_1 :),(Y10 HB.out hw313_2 :),(Y10 HB.out hw313_3 :),(Y10 HB.out hw313_4 :)⟩ (fun hHeld => ?_);refine with_tabW plenumref56_Order.tab6 plenumref56_Order.bits6 (fun HT_ HW_ => ?_)
        generalize wr.drew = w13 at HO_3 HB hx311_0 hx312_0 hx312_1 hx312_2 hx312_3 hx312_4 hx313_0 hx313_1 hx313_2 hx313_3 hx313_4 hHeld ⊢
        refine pure_ (i := 0) (N := some 13) (v := ?_) (a' := ?_) #[YT,YF,YF,YF,YF,YF,YF,YF,YF,YF,YF,YF,YF,YF,YF,YF,YF,YF] rfl rfl (any_of HT_.out (by kernel_rfl)) (fun _ _ _ h => h) (Or.inl ⟨by rfl,?_⟩) ?_ ?_
        rotate_left
        ·intro w'
         go_simp
         with_reducible rfl
        rotate_left
        ·simp only [Act.put,Ya,Yb,Yc,i64_w,i32_w]
         rfl
        refine pure_ (i := 1) (N := some 14) (v := ?_) (a' := ?_) #[YT,YT,YF,YF,YF,YF,YF,YF,YF,YF,YF,YF,YF,YF,YF,YF,YF,YF] rfl rfl (any_of HT_.out (by kernel_rfl)) (fun _ _ _ h => h) (Or.inl ⟨by rfl,?_⟩) ?_ ?_
        rotate_left
        ·intro w'
         go_simp
         with_reducible rfl
        rotate_left
        ·simp only [Act.put,Ya,Yb,Yc,i64_w,i32_w]
         rfl
        refine pure_ (i := 2) (N := some 15) (v := ?_) (a' := ?_) #[YT,YT,YT,YF,YF,YF,YF,YF,YF,YF,YF,YF,YF,YF,YF,YF,YF,YF] rfl rfl (any_of HT_.out (by kernel_rfl)) (fun _ _ _ h => h) (Or.inl ⟨by rfl,?_⟩) ?_ ?_
        rotate_left
        ·intro w'
         go_simp
         with_reducible rfl
        rotate_left
        ·simp only [Act.put,Ya,Yb,Yc,i64_w,i32_w]
         rfl
        refine pure_ (i := 3) (N := some 16) (v := ?_) (a' := ?_) #[YT,YT,YT,YT,YF,YF,YF,YF,YF,YF,YF,YF,YF,YF,YF,YF,YF,YF] rfl rfl (any_of HT_.out (by kernel_rfl)) (fun _ _ _ h => h) (Or.inl ⟨by rfl,?_⟩) ?_ ?_
        rotate_left
        ·intro w'
         go_simp
         with_reducible rfl
        rotate_left
        ·simp only [Act.put,Ya,Yb,Yc,i64_w,i32_w]
         rfl
        refine pure_ (i := 4) (N := some 17) (v := ?_) (a' := ?_) #[YT,YT,YT,YT,YT,YF,YF,YF,YF,YF,YF,YF,YF,YF,YF,YF,YF,YF] rfl rfl (any_of HT_.out (by kernel_rfl)) (fun _ _ _ h => h) (Or.inl ⟨by rfl,?_⟩) ?_ ?_
        rotate_left
        ·intro w'
         go_simp
         with_reducible rfl
        rotate_left
        ·simp only [Act.put,Ya,Yb,Yc,i64_w,i32_w]
         rfl
        refine pure_ (i := 5) (N := some 18) (v := ?_) (a' := ?_) #[YT,YT,YT,YT,YT,YT,YF,YF,YF,YF,YF,YF,YF,YF,YF,YF,YF,YF] rfl rfl (any_of HT_.out (by kernel_rfl)) (fun _ _ _ h => h) (Or.inl ⟨by rfl,?_⟩) ?_ ?_
        rotate_left
        ·intro w'
         go_simp
         with_reducible rfl
        rotate_left
        ·simp only [Act.put,Ya,Yb,Yc,i64_w,i32_w]
         rfl
        refine pure_ (i := 6) (N := some 19) (v := ?_) (a' := ?_) #[YT,YT,YT,YT,YT,YT,YT,YF,YF,YF,YF,YF,YF,YF,YF,YF,YF,YF] rfl rfl (any_of HT_.out (by kernel_rfl)) (fun _ _ _ h => h) (Or.inl ⟨by rfl,?_⟩) ?_ ?_
        rotate_left
        ·intro w'
         go_simp
         with_reducible rfl
        rotate_left
        ·simp only [Act.put,Ya,Yb,Yc,i64_w,i32_w]
         rfl
        refine pure_ (i := 7) (N := some 20) (v := ?_) (a' := ?_) #[YT,YT,YT,YT,YT,YT,YT,YT,YF,YF,YF,YF,YF,YF,YF,YF,YF,YF] rfl rfl (any_of HT_.out (by kernel_rfl)) (fun _ _ _ h => h) (Or.inl ⟨by rfl,?_⟩) ?_ ?_
        rotate_left
        ·intro w'
         go_simp
         with_reducible rfl
        rotate_left
        ·simp only [Act.put,Ya,Yb,Yc,i64_w,i32_w]
         rfl
        refine pure_ (i := 8) (N := some 21) (v := ?_) (a' := ?_) #[YT,YT,YT,YT,YT,YT,YT,YT,YT,YF,YF,YF,YF,YF,YF,YF,YF,YF] rfl rfl (any_of HT_.out (by kernel_rfl)) (fun _ _ _ h => h) (Or.inl ⟨by rfl,?_⟩) ?_ ?_
        rotate_left
        ·intro w'
         go_simp
         with_reducible rfl
        rotate_left
        ·simp only [Act.put,Ya,Yb,Yc,i64_w,i32_w]
         rfl
        refine pure_ (i := 12) (N := some 25) (v := ?_) (a' := ?_) #[YT,YT,YT,YT,YT,YT,YT,YT,YT,YF,YF,YF,YT,YF,YF,YF,YF,YF] rfl rfl (any_of HT_.out (by kernel_rfl)) (fun _ _ _ h => h) (Or.inl ⟨by rfl,?_⟩) ?_ ?_
        rotate_left
        ·intro w'
         go_simp
         with_reducible rfl
        rotate_left
        ·simp only [Act.put,Ya,Yb,Yc,i64_w,i32_w]
         rfl
        refine pure_ (i := 13) (N := some 26) (v := ?_) (a' := ?_) #[YT,YT,YT,YT,YT,YT,YT,YT,YT,YF,YF,YF,YT,YT,YF,YF,YF,YF] rfl rfl (any_of HT_.out (by kernel_rfl)) (fun _ _ _ h => h) (Or.inl ⟨by rfl,?_⟩) ?_ ?_
        rotate_left
        ·intro w'
         go_simp
         with_reducible rfl
        rotate_left
        ·simp only [Act.put,Ya,Yb,Yc,i64_w,i32_w]
         rfl
        refine pure_ (i := 14) (N := some 27) (v := ?_) (a' := ?_) #[YT,YT,YT,YT,YT,YT,YT,YT,YT,YF,YF,YF,YT,YT,YT,YF,YF,YF] rfl rfl (any_of HT_.out (by kernel_rfl)) (fun _ _ _ h => h) (Or.inl ⟨by rfl,?_⟩) ?_ ?_
        rotate_left
        ·intro w'
         go_simp
         with_reducible rfl
        rotate_left
        ·simp only [Act.put,Ya,Yb,Yc,i64_w,i32_w]
         rfl
        refine take_ (i := 9) (N := some 22) (v := ?_) (a' := ?_) #[YT,YT,YT,YT,YT,YT,YT,YT,YT,YT,YF,YF,YT,YT,YT,YF,YF,YF] rfl rfl (take_ofW HT_.out HW_.out (by kernel_rfl)) (fun _ _ _ h => h) (Or.inl ⟨by rfl,?_⟩) hHeld ?_ ?_
        rotate_left
        ·rintro w' ⟨s0,s1,s2,s3,s4,s5,s6,s7,s8,s9,s10⟩
         go_simp
         with_reducible rfl
        rotate_left
        ·simp only [Act.put,Ya,Yb,Yc,i64_w,i32_w]
         rfl
        refine pure_ (i := 10) (N := some 23) (v := ?_) (a' := ?_) #[YT,YT,YT,YT,YT,YT,YT,YT,YT,YT,YT,YF,YT,YT,YT,YF,YF,YF] rfl rfl (any_of HT_.out (by kernel_rfl)) (fun _ _ _ h => h) (Or.inl ⟨by rfl,?_⟩) ?_ ?_
        rotate_left
        ·intro w'
         go_simp
         with_reducible rfl
        rotate_left
        ·simp only [Act.put,Ya,Yb,Yc,i64_w,i32_w]
         rfl
        refine take_ (i := 11) (N := some 24) (v := ?_) (a' := ?_) #[YT,YT,YT,YT,YT,YT,YT,YT,YT,YT,YT,YT,YT,YT,YT,YF,YF,YF] rfl rfl (take_ofW HT_.out HW_.out (by kernel_rfl)) (fun _ _ _ h => h) (Or.inl ⟨by rfl,?_⟩) hHeld ?_ ?_
        rotate_left
        ·rintro w' ⟨s0,s1,s2,s3,s4,s5,s6,s7,s8,s9,s10⟩
         go_simp
         with_reducible rfl
        rotate_left
        ·simp only [Act.put,Ya,Yb,Yc,i64_w,i32_w]
         rfl
        refine take_ (i := 15) (N := some 28) (v := ?_) (a' := ?_) #[YT,YT,YT,YT,YT,YT,YT,YT,YT,YT,YT,YT,YT,YT,YT,YT,YF,YF] rfl rfl (take_ofW HT_.out HW_.out (by kernel_rfl)) (fun _ _ _ h => h) (Or.inl ⟨by rfl,?_⟩) hHeld ?_ ?_
        rotate_left
        ·rintro w' ⟨s0,s1,s2,s3,s4,s5,s6,s7,s8,s9,s10⟩
         go_simp
         with_reducible rfl
        rotate_left
        ·simp only [Act.put,Ya,Yb,Yc,i64_w,i32_w]
         rfl
        refine one_ (i := 16) (N := some 29) #[YT,YT,YT,YT,YT,YT,YT,YT,YT,YT,YT,YT,YT,YT,YT,YT,YT,YF] rfl rfl (one_of HT_.out (by kernel_rfl)) (by decide) (fun K hK => ?_)
        refine goes_ Try.func50 (by kernel_rfl) rfl #[.agg #[.string ((rd_T43 l0 (rd x3_1 x5_2)).f0),.int .i64 ((rd_T43 l0 (rd x3_1 x5_2)).f1),.int .i64 ((rd_T43 l0 (rd x3_1 x5_2)).f2),.int .i64 ((rd_T43 l0 (rd x3_1 x5_2)).f3),.int .i64 ((rd_T43 l0 (rd x3_1 x5_2)).f4)],.agg #[.string ((rd_T43 l0 x4_1).f0),.int .i64 ((rd_T43 l0 x4_1).f1),.int .i64 ((rd_T43 l0 x4_1).f2),.int .i64 ((rd_T43 l0 x4_1).f3),.int .i64 ((rd_T43 l0 x4_1).f4)]] (by rfl) rfl rfl Y8 ?_
        with_reducible refine (plenumref56_before.calls ((rd_T43 l0 (rd x3_1 x5_2)).f0) ((rd_T43 l0 (rd x3_1 x5_2)).f1) ((rd_T43 l0 (rd x3_1 x5_2)).f2) ((rd_T43 l0 (rd x3_1 x5_2)).f3) ((rd_T43 l0 (rd x3_1 x5_2)).f4) ((rd_T43 l0 x4_1).f0) ((rd_T43 l0 x4_1).f1) ((rd_T43 l0 x4_1).f2) ((rd_T43 l0 x4_1).f3) ((rd_T43 l0 x4_1).f4) true _ A11.out).mono ?_
        rintro e w15 ⟨rfl,hb⟩
        have HS0_ := (hb.cell (Y13 _ _ (hHeld.1))).trans (hHeld.1)
        refine ⟨_,rfl,?_⟩
        have n0_ := Yd (Kd.R_below (Y5 HO_3.out) hb)
        have n1_ := Yd (below_step (Y3 HB.out) hb)
        clear HO_3
        clear HB
        have HO_3 := n0_
        have HB := n1_
        clear n0_ n1_
        (try clear hb)
        (try clear hb2)
        (try clear hk)
        (try clear hi)
        refine hK.out _ _ ⟨HS0_,(Y10 HB.out hw312_0 :),(Y10 HB.out hw312_1 :),(Y10 HB.out hw312_2 :),(Y10 HB.out hw312_3 :),(Y10 HB.out hw312_4 :),(Y10 HB.out hw313_0 :),(Y10 HB.out hw313_1 :),(Y10 HB.out hw313_2 :),(Y10 HB.out hw313_3 :),(Y10 HB.out hw313_4 :)⟩ (fun hHeld => ?_)
        clear hK K
        refine norm_ (a' := ?_) ?_ ?_
        rotate_left
        ·show Act.put _ (some 29) _ = _
         simp only [Act.put,Ya,Yb,Yc,i64_w,i32_w]
         rfl
        refine pure_ (i := 17) (N := some 30) (v := ?_) (a' := ?_) #[YT,YT,YT,YT,YT,YT,YT,YT,YT,YT,YT,YT,YT,YT,YT,YT,YT,YT] rfl rfl (any_of HT_.out (by kernel_rfl)) (fun _ _ _ h => h) (Or.inl ⟨by rfl,?_⟩) ?_ ?_
        rotate_left
        ·intro w'
         go_simp
         with_reducible rfl
        rotate_left
        ·simp only [Act.put,Ya,Yb,Yc,i64_w,i32_w]
         rfl
        refine done_ (done_of HT_.out (by kernel_rfl)) ?_
        try go_wp2
        go_roundg k2
        case measure => have := HK1.out;have := HK2.out;omega
        case rel => exact ⟨(wrap64 (x5_2 + 1)),Y12,H',⟨by have := HK1.out;have := HK2.out;omega⟩,⟨Y5 HO_3.out⟩,⟨Y3 HB.out⟩⟩
       ·replace c12 := Bool.eq_false_iff.mpr c12
        subst c12
        have H1 : ((some (([] : List Int) : List Int)).bind fun y315 => (if x5_2 ≤ (x3_1.length : Int) then ((some (x3_1.take (x5_2 : Int).toNat : List Int)).bind fun y318 => (if y315.length + y318.length < 17592186044416 then ((some (y315 ++ y318 : List Int)).bind fun y322 => ((some (([x4_1] : List Int) : List Int)).bind fun y325 => (if y322.length + y325.length < 17592186044416 then ((some (y322 ++ y325 : List Int)).bind fun y328 => ((some (x3_1.drop (x5_2 : Int).toNat : List Int)).bind fun y331 => (if y328.length + y331.length < 17592186044416 then (plenumref56_Order.l0 k2 l0 (y328 ++ y331) (wrap64 (x4_1 + 1))) else (none)))) else (none)))) else (none))) else (none))) = some r := by rw [if_neg (show ¬ (false = true) by decide)] at H;exact H
        clear H
        have H := H1
        clear H1
        obtain ⟨y315,hy315⟩ : ∃ y_ : List Int,y_ = (([] : List Int)) := ⟨_,rfl⟩
        replace H : (if x5_2 ≤ (x3_1.length : Int) then ((some (x3_1.take (x5_2 : Int).toNat : List Int)).bind fun y318 => (if y315.length + y318.length < 17592186044416 then ((some (y315 ++ y318 : List Int)).bind fun y322 => ((some (([x4_1] : List Int) : List Int)).bind fun y325 => (if y322.length + y325.length < 17592186044416 then ((some (y322 ++ y325 : List Int)).bind fun y328 => ((some (x3_1.drop (x5_2 : Int).toNat : List Int)).bind fun y331 => (if y328.length + y331.length < 17592186044416 then (plenumref56_Order.l0 k2 l0 (y328 ++ y331) (wrap64 (x4_1 + 1))) else (none)))) else (none)))) else (none))) else (none)) = some r := by first | (rw [hy315];with_reducible exact H) | (have H2_ := (Option.bind_some _ _).symm.trans H;rw [hy315];with_reducible exact H2_) | (have H2_ := (Option.bind_some _ _).symm.trans H;with_reducible exact H2_) | with_reducible exact H | (rw [hy315];exact H) | exact H
        have Ny315 := Yd hy315
        clear hy315
        have c16b0 := eq_true (Y9 : 0 ≤ x5_2)
        by_cases c17 : x5_2 ≤ (x3_1.length : Int)
        case neg => rw [if_neg c17] at H;exact absurd H (by simp)
        rw [if_pos c17] at H
        have c17b0 := eq_true c17
        have c17b1 : decide (x5_2 ≤ (x3_1.length : Int)) = true := decide_eq_true c17
        clear c17
        obtain ⟨y318,hy318⟩ : ∃ y_ : List Int,y_ = (x3_1.take (x5_2 : Int).toNat) := ⟨_,rfl⟩
        replace H : (if y315.length + y318.length < 17592186044416 then ((some (y315 ++ y318 : List Int)).bind fun y322 => ((some (([x4_1] : List Int) : List Int)).bind fun y325 => (if y322.length + y325.length < 17592186044416 then ((some (y322 ++ y325 : List Int)).bind fun y328 => ((some (x3_1.drop (x5_2 : Int).toNat : List Int)).bind fun y331 => (if y328.length + y331.length < 17592186044416 then (plenumref56_Order.l0 k2 l0 (y328 ++ y331) (wrap64 (x4_1 + 1))) else (none)))) else (none)))) else (none)) = some r := by first | (rw [hy318];with_reducible exact H) | (have H2_ := (Option.bind_some _ _).symm.trans H;rw [hy318];with_reducible exact H2_) | (have H2_ := (Option.bind_some _ _).symm.trans H;with_reducible exact H2_) | with_reducible exact H | (rw [hy318];exact H) | exact H
        have Ny318 := Yd hy318
        clear hy318
        by_cases c18 : y315.length + y318.length < 17592186044416
        case neg => rw [if_neg c18] at H;exact absurd H (by simp)
        rw [if_pos c18] at H
        have LMc18 := Yd c18
        clear c18
        obtain ⟨y322,hy322⟩ : ∃ y_ : List Int,y_ = (y315 ++ y318) := ⟨_,rfl⟩
        replace H : ((some (([x4_1] : List Int) : List Int)).bind fun y325 => (if y322.length + y325.length < 17592186044416 then ((some (y322 ++ y325 : List Int)).bind fun y328 => ((some (x3_1.drop (x5_2 : Int).toNat : List Int)).bind fun y331 => (if y328.length + y331.length < 17592186044416 then (plenumref56_Order.l0 k2 l0 (y328 ++ y331) (wrap64 (x4_1 + 1))) else (none)))) else (none))) = some r := by first | (rw [hy322];with_reducible exact H) | (have H2_ := (Option.bind_some _ _).symm.trans H;rw [hy322];with_reducible exact H2_) | (have H2_ := (Option.bind_some _ _).symm.trans H;with_reducible exact H2_) | with_reducible exact H | (rw [hy322];exact H) | exact H
        have Ny322 := Yd hy322
        clear hy322
        obtain ⟨y325,hy325⟩ : ∃ y_ : List Int,y_ = (([x4_1] : List Int)) := ⟨_,rfl⟩
        replace H : (if y322.length + y325.length < 17592186044416 then ((some (y322 ++ y325 : List Int)).bind fun y328 => ((some (x3_1.drop (x5_2 : Int).toNat : List Int)).bind fun y331 => (if y328.length + y331.length < 17592186044416 then (plenumref56_Order.l0 k2 l0 (y328 ++ y331) (wrap64 (x4_1 + 1))) else (none)))) else (none)) = some r := by first | (rw [hy325];with_reducible exact H) | (have H2_ := (Option.bind_some _ _).symm.trans H;rw [hy325];with_reducible exact H2_) | (have H2_ := (Option.bind_some _ _).symm.trans H;with_reducible exact H2_) | with_reducible exact H | (rw [hy325];exact H) | exact H
        have Ny325 := Yd hy325
        clear hy325
        by_cases c19 : y322.length + y325.length < 17592186044416
        case neg => rw [if_neg c19] at H;exact absurd H (by simp)
        rw [if_pos c19] at H
        have LMc19 := Yd c19
        clear c19
        obtain ⟨y328,hy328⟩ : ∃ y_ : List Int,y_ = (y322 ++ y325) := ⟨_,rfl⟩
        replace H : ((some (x3_1.drop (x5_2 : Int).toNat : List Int)).bind fun y331 => (if y328.length + y331.length < 17592186044416 then (plenumref56_Order.l0 k2 l0 (y328 ++ y331) (wrap64 (x4_1 + 1))) else (none))) = some r := by first | (rw [hy328];with_reducible exact H) | (have H2_ := (Option.bind_some _ _).symm.trans H;rw [hy328];with_reducible exact H2_) | (have H2_ := (Option.bind_some _ _).symm.trans H;with_reducible exact H2_) | with_reducible exact H | (rw [hy328];exact H) | exact H
        have Ny328 := Yd hy328
        clear hy328
        have c20b0 := eq_true (Y9 : 0 ≤ x5_2)
        have c21b0 := eq_true (Y9 : x5_2 ≤ (x3_1.length : Int))
        obtain ⟨y331,hy331⟩ : ∃ y_ : List Int,y_ = (x3_1.drop (x5_2 : Int).toNat) := ⟨_,rfl⟩
        replace H : (if y328.length + y331.length < 17592186044416 then (plenumref56_Order.l0 k2 l0 (y328 ++ y331) (wrap64 (x4_1 + 1))) else (none)) = some r := by first | (rw [hy331];with_reducible exact H) | (have H2_ := (Option.bind_some _ _).symm.trans H;rw [hy331];with_reducible exact H2_) | (have H2_ := (Option.bind_some _ _).symm.trans H;with_reducible exact H2_) | with_reducible exact H | (rw [hy331];exact H) | exact H
        have Ny331 := Yd hy331
        clear hy331
        by_cases c22 : y328.length + y331.length < 17592186044416
        case neg => rw [if_neg c22] at H;exact absurd H (by simp)
        rw [if_pos c22] at H
        have LMc22 := Yd c22
        clear c22
        obtain ⟨y335,hy335⟩ : ∃ y_ : List Int,y_ = (y328 ++ y331) := ⟨_,rfl⟩
        replace H : (plenumref56_Order.l0 k2 l0 y335 (wrap64 (x4_1 + 1))) = some r := by first | (rw [hy335];with_reducible exact H) | (have H2_ := (Option.bind_some _ _).symm.trans H;rw [hy335];with_reducible exact H2_) | (have H2_ := (Option.bind_some _ _).symm.trans H;with_reducible exact H2_) | with_reducible exact H | (rw [hy335];exact H) | exact H
        have Ny335 := Yd hy335
        clear hy335
        have H' := Yd H
        clear H
        try go_wp2
        have n0_ := Yd (Kd.R_drew HO_3.out)
        have n1_ := Yd (below_drew1 HB.out)
        clear HO_3
        clear HB
        have HO_3 := n0_
        have HB := n1_
        clear n0_ n1_
        obtain ⟨Ao24,co24,eo24⟩ := Kd.R_slice HO_3.out
        (first | subst eo24 | (injection eo24 with f1_ f2_ f3_;have f4_ := f1_.symm;have f5_ := f3_.symm;clear f1_ f2_ f3_;subst f4_;subst f5_))
        have p311 : 0 ≤ (x5_2 : Int) := Y9
        have q311 : x5_2 < (x3_1.length : Int) := Y9
        obtain ⟨ad311,e311,hx311_0⟩ := Kd.at_int (Kd.R_reads' HO_3.out).2.2 x5_2 p311 q311
        cases e311
        replace p311 := eq_true p311
        replace q311 := eq_true q311
        have p312 : 0 ≤ ((rd x3_1 x5_2) : Int) := Y9
        have q312 : (rd x3_1 x5_2) < (l0.length : Int) := Y9
        obtain ⟨ad312,e312,hx312_0,hx312_1,hx312_2,hx312_3,hx312_4⟩ := at_T43 HR0.out (rd x3_1 x5_2) p312 q312
        have hw312_4 := hx312_4
        have hw312_3 := hx312_3
        have hw312_2 := hx312_2
        have hw312_1 := hx312_1
        have hw312_0 := hx312_0
        cases e312
        replace hx312_0 := Y10 HB.out hx312_0
        replace hx312_1 := Y10 HB.out hx312_1
        replace hx312_2 := Y10 HB.out hx312_2
        replace hx312_3 := Y10 HB.out hx312_3
        replace hx312_4 := Y10 HB.out hx312_4
        replace p312 := eq_true p312
        replace q312 := eq_true q312
        have p313 : 0 ≤ (x4_1 : Int) := Y9
        have q313 : x4_1 < (l0.length : Int) := Y9
        obtain ⟨ad313,e313,hx313_0,hx313_1,hx313_2,hx313_3,hx313_4⟩ := at_T43 HR0.out x4_1 p313 q313
        have hw313_4 := hx313_4
        have hw313_3 := hx313_3
        have hw313_2 := hx313_2
        have hw313_1 := hx313_1
        have hw313_0 := hx313_0
        obtain rfl : ad312 = ad313 := (by injection e313)
        replace hx313_0 := Y10 HB.out hx313_0
        replace hx313_1 := Y10 HB.out hx313_1
        replace hx313_2 := Y10 HB.out hx313_2
        replace hx313_3 := Y10 HB.out hx313_3
        replace hx313_4 := Y10 HB.out hx313_4
        replace p313 := eq_true p313
        replace q313 := eq_true q313
        refine start_ (n := 18) (S := fun w' => w'.cell? (ad311.add (x5_2).toNat) = some (.int .i64 (rd x3_1 x5_2)) ∧ w'.cell? (ad312.add (((rd x3_1 x5_2)).toNat * 5)) = some (.string ((rd_T43 l0 (rd x3_1 x5_2)).f0)) ∧ w'.cell? ⟨(ad312.add (((rd x3_1 x5_2)).toNat * 5)).block,(ad312.add (((rd x3_1 x5_2)).toNat * 5)).off + 1,none⟩ = some (.int .i64 ((rd_T43 l0 (rd x3_1 x5_2)).f1)) ∧ w'.cell? ⟨(ad312.add (((rd x3_1 x5_2)).toNat * 5)).block,(ad312.add (((rd x3_1 x5_2)).toNat * 5)).off + 2,none⟩ = some (.int .i64 ((rd_T43 l0 (rd x3_1 x5_2)).f2)) ∧ w'.cell? ⟨(ad312.add (((rd x3_1 x5_2)).toNat * 5)).block,(ad312.add (((rd x3_1 x5_2)).toNat * 5)).off + 3,none⟩ = some (.int .i64 ((rd_T43 l0 (rd x3_1 x5_2)).f3)) ∧ w'.cell? ⟨(ad312.add (((rd x3_1 x5_2)).toNat * 5)).block,(ad312.add (((rd x3_1 x5_2)).toNat * 5)).off + 4,none⟩ = some (.int .i64 ((rd_T43 l0 (rd x3_1 x5_2)).f4)) ∧ w'.cell? (ad312.add ((x4_1).toNat * 5)) = some (.string ((rd_T43 l0 x4_1).f0)) ∧ w'.cell? ⟨(ad312.add ((x4_1).toNat * 5)).block,(ad312.add ((x4_1).toNat * 5)).off + 1,none⟩ = some (.int .i64 ((rd_T43 l0 x4_1).f1)) ∧ w'.cell? ⟨(ad312.add ((x4_1).toNat * 5)).block,(ad312.add ((x4_1).toNat * 5)).off + 2,none⟩ = some (.int .i64 ((rd_T43 l0 x4_1).f2)) ∧ w'.cell? ⟨(ad312.add ((x4_1).toNat * 5)).block,(ad312.add ((x4_1).toNat * 5)).off + 3,none⟩ = some (.int .i64 ((rd_T43 l0 x4_1).f3)) ∧ w'.cell? ⟨(ad312.add ((x4_1).toNat * 5)).block,(ad312.add ((x4_1).toNat * 5)).off + 4,none⟩ = some (.int .i64 ((rd_T43 l0 x4_1).f4))) (ds := []) #[YF,YF,YF,YF,YF,YF,YF,YF,YF,YF,YF,YF,YF,YF,YF,YF,YF,YF] (by kernel_rfl) rfl rfl ⟨hx311_0,(Y10 HB.out hw312_0 :),(Y10 HB.out hw312_1 :),(Y10 HB.out hw312_2 :),(Y10 HB.out hw312_3 :),(Y10 HB.out hw312_4 :),(Y10 HB.out hw313_0 :),(Y10 HB.out hw313_1 :),(Y10 HB.out hw313_2 :),(Y10 HB.out hw313_3 :),(Y10 HB.out hw313_4 :)⟩ (fun hHeld => ?_);refine with_tabW plenumref56_Order.tab6 plenumref56_Order.bits6 (fun HT_ HW_ => ?_)
        generalize wr.drew = w23 at HO_3 HB hx311_0 hx312_0 hx312_1 hx312_2 hx312_3 hx312_4 hx313_0 hx313_1 hx313_2 hx313_3 hx313_4 hHeld ⊢
        refine pure_ (i := 0) (N := some 13) (v := ?_) (a' := ?_) #[YT,YF,YF,YF,YF,YF,YF,YF,YF,YF,YF,YF,YF,YF,YF,YF,YF,YF] rfl rfl (any_of HT_.out (by kernel_rfl)) (fun _ _ _ h => h) (Or.inl ⟨by rfl,?_⟩) ?_ ?_
        rotate_left
        ·intro w'
         go_simp
         with_reducible rfl
        rotate_left
        ·simp only [Act.put,Ya,Yb,Yc,i64_w,i32_w]
         rfl
        refine pure_ (i := 1) (N := some 14) (v := ?_) (a' := ?_) #[YT,YT,YF,YF,YF,YF,YF,YF,YF,YF,YF,YF,YF,YF,YF,YF,YF,YF] rfl rfl (any_of HT_.out (by kernel_rfl)) (fun _ _ _ h => h) (Or.inl ⟨by rfl,?_⟩) ?_ ?_
        rotate_left
        ·intro w'
         go_simp
         with_reducible rfl
        rotate_left
        ·simp only [Act.put,Ya,Yb,Yc,i64_w,i32_w]
         rfl
        refine pure_ (i := 2) (N := some 15) (v := ?_) (a' := ?_) #[YT,YT,YT,YF,YF,YF,YF,YF,YF,YF,YF,YF,YF,YF,YF,YF,YF,YF] rfl rfl (any_of HT_.out (by kernel_rfl)) (fun _ _ _ h => h) (Or.inl ⟨by rfl,?_⟩) ?_ ?_
        rotate_left
        ·intro w'
         go_simp
         with_reducible rfl
        rotate_left
        ·simp only [Act.put,Ya,Yb,Yc,i64_w,i32_w]
         rfl
        refine pure_ (i := 3) (N := some 16) (v := ?_) (a' := ?_) #[YT,YT,YT,YT,YF,YF,YF,YF,YF,YF,YF,YF,YF,YF,YF,YF,YF,YF] rfl rfl (any_of HT_.out (by kernel_rfl)) (fun _ _ _ h => h) (Or.inl ⟨by rfl,?_⟩) ?_ ?_
        rotate_left
        ·intro w'
         go_simp
         with_reducible rfl
        rotate_left
        ·simp only [Act.put,Ya,Yb,Yc,i64_w,i32_w]
         rfl
        refine pure_ (i := 4) (N := some 17) (v := ?_) (a' := ?_) #[YT,YT,YT,YT,YT,YF,YF,YF,YF,YF,YF,YF,YF,YF,YF,YF,YF,YF] rfl rfl (any_of HT_.out (by kernel_rfl)) (fun _ _ _ h => h) (Or.inl ⟨by rfl,?_⟩) ?_ ?_
        rotate_left
        ·intro w'
         go_simp
         with_reducible rfl
        rotate_left
        ·simp only [Act.put,Ya,Yb,Yc,i64_w,i32_w]
         rfl
        refine pure_ (i := 5) (N := some 18) (v := ?_) (a' := ?_) #[YT,YT,YT,YT,YT,YT,YF,YF,YF,YF,YF,YF,YF,YF,YF,YF,YF,YF] rfl rfl (any_of HT_.out (by kernel_rfl)) (fun _ _ _ h => h) (Or.inl ⟨by rfl,?_⟩) ?_ ?_
        rotate_left
        ·intro w'
         go_simp
         with_reducible rfl
        rotate_left
        ·simp only [Act.put,Ya,Yb,Yc,i64_w,i32_w]
         rfl
        refine pure_ (i := 6) (N := some 19) (v := ?_) (a' := ?_) #[YT,YT,YT,YT,YT,YT,YT,YF,YF,YF,YF,YF,YF,YF,YF,YF,YF,YF] rfl rfl (any_of HT_.out (by kernel_rfl)) (fun _ _ _ h => h) (Or.inl ⟨by rfl,?_⟩) ?_ ?_
        rotate_left
        ·intro w'
         go_simp
         with_reducible rfl
        rotate_left
        ·simp only [Act.put,Ya,Yb,Yc,i64_w,i32_w]
         rfl
        refine pure_ (i := 7) (N := some 20) (v := ?_) (a' := ?_) #[YT,YT,YT,YT,YT,YT,YT,YT,YF,YF,YF,YF,YF,YF,YF,YF,YF,YF] rfl rfl (any_of HT_.out (by kernel_rfl)) (fun _ _ _ h => h) (Or.inl ⟨by rfl,?_⟩) ?_ ?_
        rotate_left
        ·intro w'
         go_simp
         with_reducible rfl
        rotate_left
        ·simp only [Act.put,Ya,Yb,Yc,i64_w,i32_w]
         rfl
        refine pure_ (i := 8) (N := some 21) (v := ?_) (a' := ?_) #[YT,YT,YT,YT,YT,YT,YT,YT,YT,YF,YF,YF,YF,YF,YF,YF,YF,YF] rfl rfl (any_of HT_.out (by kernel_rfl)) (fun _ _ _ h => h) (Or.inl ⟨by rfl,?_⟩) ?_ ?_
        rotate_left
        ·intro w'
         go_simp
         with_reducible rfl
        rotate_left
        ·simp only [Act.put,Ya,Yb,Yc,i64_w,i32_w]
         rfl
        refine pure_ (i := 12) (N := some 25) (v := ?_) (a' := ?_) #[YT,YT,YT,YT,YT,YT,YT,YT,YT,YF,YF,YF,YT,YF,YF,YF,YF,YF] rfl rfl (any_of HT_.out (by kernel_rfl)) (fun _ _ _ h => h) (Or.inl ⟨by rfl,?_⟩) ?_ ?_
        rotate_left
        ·intro w'
         go_simp
         with_reducible rfl
        rotate_left
        ·simp only [Act.put,Ya,Yb,Yc,i64_w,i32_w]
         rfl
        refine pure_ (i := 13) (N := some 26) (v := ?_) (a' := ?_) #[YT,YT,YT,YT,YT,YT,YT,YT,YT,YF,YF,YF,YT,YT,YF,YF,YF,YF] rfl rfl (any_of HT_.out (by kernel_rfl)) (fun _ _ _ h => h) (Or.inl ⟨by rfl,?_⟩) ?_ ?_
        rotate_left
        ·intro w'
         go_simp
         with_reducible rfl
        rotate_left
        ·simp only [Act.put,Ya,Yb,Yc,i64_w,i32_w]
         rfl
        refine pure_ (i := 14) (N := some 27) (v := ?_) (a' := ?_) #[YT,YT,YT,YT,YT,YT,YT,YT,YT,YF,YF,YF,YT,YT,YT,YF,YF,YF] rfl rfl (any_of HT_.out (by kernel_rfl)) (fun _ _ _ h => h) (Or.inl ⟨by rfl,?_⟩) ?_ ?_
        rotate_left
        ·intro w'
         go_simp
         with_reducible rfl
        rotate_left
        ·simp only [Act.put,Ya,Yb,Yc,i64_w,i32_w]
         rfl
        refine take_ (i := 9) (N := some 22) (v := ?_) (a' := ?_) #[YT,YT,YT,YT,YT,YT,YT,YT,YT,YT,YF,YF,YT,YT,YT,YF,YF,YF] rfl rfl (take_ofW HT_.out HW_.out (by kernel_rfl)) (fun _ _ _ h => h) (Or.inl ⟨by rfl,?_⟩) hHeld ?_ ?_
        rotate_left
        ·rintro w' ⟨s0,s1,s2,s3,s4,s5,s6,s7,s8,s9,s10⟩
         go_simp
         with_reducible rfl
        rotate_left
        ·simp only [Act.put,Ya,Yb,Yc,i64_w,i32_w]
         rfl
        refine pure_ (i := 10) (N := some 23) (v := ?_) (a' := ?_) #[YT,YT,YT,YT,YT,YT,YT,YT,YT,YT,YT,YF,YT,YT,YT,YF,YF,YF] rfl rfl (any_of HT_.out (by kernel_rfl)) (fun _ _ _ h => h) (Or.inl ⟨by rfl,?_⟩) ?_ ?_
        rotate_left
        ·intro w'
         go_simp
         with_reducible rfl
        rotate_left
        ·simp only [Act.put,Ya,Yb,Yc,i64_w,i32_w]
         rfl
        refine take_ (i := 11) (N := some 24) (v := ?_) (a' := ?_) #[YT,YT,YT,YT,YT,YT,YT,YT,YT,YT,YT,YT,YT,YT,YT,YF,YF,YF] rfl rfl (take_ofW HT_.out HW_.out (by kernel_rfl)) (fun _ _ _ h => h) (Or.inl ⟨by rfl,?_⟩) hHeld ?_ ?_
        rotate_left
        ·rintro w' ⟨s0,s1,s2,s3,s4,s5,s6,s7,s8,s9,s10⟩
         go_simp
         with_reducible rfl
        rotate_left
        ·simp only [Act.put,Ya,Yb,Yc,i64_w,i32_w]
         rfl
        refine take_ (i := 15) (N := some 28) (v := ?_) (a' := ?_) #[YT,YT,YT,YT,YT,YT,YT,YT,YT,YT,YT,YT,YT,YT,YT,YT,YF,YF] rfl rfl (take_ofW HT_.out HW_.out (by kernel_rfl)) (fun _ _ _ h => h) (Or.inl ⟨by rfl,?_⟩) hHeld ?_ ?_
        rotate_left
        ·rintro w' ⟨s0,s1,s2,s3,s4,s5,s6,s7,s8,s9,s10⟩
         go_simp
         with_reducible rfl
        rotate_left
        ·simp only [Act.put,Ya,Yb,Yc,i64_w,i32_w]
         rfl
        refine one_ (i := 16) (N := some 29) #[YT,YT,YT,YT,YT,YT,YT,YT,YT,YT,YT,YT,YT,YT,YT,YT,YT,YF] rfl rfl (one_of HT_.out (by kernel_rfl)) (by decide) (fun K hK => ?_)
        refine goes_ Try.func50 (by kernel_rfl) rfl #[.agg #[.string ((rd_T43 l0 (rd x3_1 x5_2)).f0),.int .i64 ((rd_T43 l0 (rd x3_1 x5_2)).f1),.int .i64 ((rd_T43 l0 (rd x3_1 x5_2)).f2),.int .i64 ((rd_T43 l0 (rd x3_1 x5_2)).f3),.int .i64 ((rd_T43 l0 (rd x3_1 x5_2)).f4)],.agg #[.string ((rd_T43 l0 x4_1).f0),.int .i64 ((rd_T43 l0 x4_1).f1),.int .i64 ((rd_T43 l0 x4_1).f2),.int .i64 ((rd_T43 l0 x4_1).f3),.int .i64 ((rd_T43 l0 x4_1).f4)]] (by rfl) rfl rfl Y8 ?_
        with_reducible refine (plenumref56_before.calls ((rd_T43 l0 (rd x3_1 x5_2)).f0) ((rd_T43 l0 (rd x3_1 x5_2)).f1) ((rd_T43 l0 (rd x3_1 x5_2)).f2) ((rd_T43 l0 (rd x3_1 x5_2)).f3) ((rd_T43 l0 (rd x3_1 x5_2)).f4) ((rd_T43 l0 x4_1).f0) ((rd_T43 l0 x4_1).f1) ((rd_T43 l0 x4_1).f2) ((rd_T43 l0 x4_1).f3) ((rd_T43 l0 x4_1).f4) false _ A11.out).mono ?_
        rintro e w25 ⟨rfl,hb⟩
        have HS0_ := (hb.cell (Y13 _ _ (hHeld.1))).trans (hHeld.1)
        refine ⟨_,rfl,?_⟩
        have n0_ := Yd (Kd.R_below (Y5 HO_3.out) hb)
        have n1_ := Yd (below_step (Y3 HB.out) hb)
        clear HO_3
        clear HB
        have HO_3 := n0_
        have HB := n1_
        clear n0_ n1_
        (try clear hb)
        (try clear hb2)
        (try clear hk)
        (try clear hi)
        refine hK.out _ _ ⟨HS0_,(Y10 HB.out hw312_0 :),(Y10 HB.out hw312_1 :),(Y10 HB.out hw312_2 :),(Y10 HB.out hw312_3 :),(Y10 HB.out hw312_4 :),(Y10 HB.out hw313_0 :),(Y10 HB.out hw313_1 :),(Y10 HB.out hw313_2 :),(Y10 HB.out hw313_3 :),(Y10 HB.out hw313_4 :)⟩ (fun hHeld => ?_)
        clear hK K
        refine norm_ (a' := ?_) ?_ ?_
        rotate_left
        ·show Act.put _ (some 29) _ = _
         simp only [Act.put,Ya,Yb,Yc,i64_w,i32_w]
         rfl
        refine pure_ (i := 17) (N := some 30) (v := ?_) (a' := ?_) #[YT,YT,YT,YT,YT,YT,YT,YT,YT,YT,YT,YT,YT,YT,YT,YT,YT,YT] rfl rfl (any_of HT_.out (by kernel_rfl)) (fun _ _ _ h => h) (Or.inl ⟨by rfl,?_⟩) ?_ ?_
        rotate_left
        ·intro w'
         go_simp
         with_reducible rfl
        rotate_left
        ·simp only [Act.put,Ya,Yb,Yc,i64_w,i32_w]
         rfl
        refine done_ (done_of HT_.out (by kernel_rfl)) ?_
        try go_wp2
        have n0_ := Yd (Kd.R_drew HO_3.out)
        have n1_ := Yd (below_drew1 HB.out)
        clear HO_3
        clear HB
        have HO_3 := n0_
        have HB := n1_
        clear n0_ n1_
        have q27 : (x5_2 : Int) ≤ ((x3_1.length : Int) : Int) := Y9
        obtain ⟨i027,hi027,_,hsz27,_⟩ := info_parts info3
        have hroom27 : x3_1.length ≤ co24 := (Kd.R_reads' HO_3.out).2.1
        have hC27 : Kd.C (Kd.int .i64) _ (some ad311) x3_1.length x3_1 := (Kd.R_reads' HO_3.out).2.2
        have hcut27 := cut_to (P := Try.prog) 44 3 .i64 Try.underlying44 hi027 (some ad311) x3_1.length co24 x5_2 (Y9) q27 hroom27
        have hr27 := Kd.C_take (m := (x5_2 : Int).toNat) hC27 (by omega)
        have hy27 : y318.length = (x5_2 : Int).toNat := (by rw [Ny318.out,List.length_take];omega)
        rw [← Ny318.out] at hr27
        rw [← hy27] at hcut27
        have HR321 := Yd hr27
        have HC321 := Yd (show y318.length ≤ co24 from by omega)
        clear hr27 hC27 hroom27 hi027 hsz27
        have KY27 := Yd hy27
        clear hy27
        have KL27 := Yd (show (x5_2 : Int).toNat ≤ x3_1.length from by omega)
        replace q27 := eq_true q27
        have q28 : (x5_2 : Int) ≤ ((x3_1.length : Int) : Int) := Y9
        obtain ⟨i028,hi028,_,hsz28,_⟩ := info_parts info3
        have hroom28 : x3_1.length ≤ co24 := (Kd.R_reads' HO_3.out).2.1
        have hC28 : Kd.C (Kd.int .i64) _ (some ad311) x3_1.length x3_1 := (Kd.R_reads' HO_3.out).2.2
        have q028 : (0 : Int) ≤ (x5_2 : Int) := Y9
        have hcut28 := cut_from (P := Try.prog) 44 3 .i64 Try.underlying44 hi028 1 hsz28 (some ad311) x3_1.length co24 x5_2 q028 q28
        have hr28 := Kd.C_drop (m := (x5_2 : Int).toNat) (c := co24) hC28 (by omega) hroom28
        obtain ⟨A28,hA28⟩ : ∃ A1,A1 = (if co24 = (x5_2 : Int).toNat then (some ad311) else ((some ad311) : Option Addr).map (·.add ((x5_2 : Int).toNat * 1))) := ⟨_,rfl⟩
        obtain ⟨c28,hc28⟩ : ∃ c1,c1 = co24 - (x5_2 : Int).toNat := ⟨_,rfl⟩
        have hy28 : y331.length = x3_1.length - (x5_2 : Int).toNat := (by rw [Ny331.out,List.length_drop] <;> omega)
        rw [show (x3_1).drop (x5_2 : Int).toNat = y331 from Ny331.out.symm] at hr28
        replace hr28 : Kd.C (Kd.int .i64) _ A28 y331.length y331 := (by rw [hA28];exact hr28)
        rw [← hy28,← hA28,← hc28] at hcut28
        have HR334 := Yd hr28
        have HC334 := Yd (show y331.length ≤ c28 from by rw [hy28,hc28];exact Nat.sub_le_sub_right hroom28 _)
        clear hr28 hC28 hroom28 hi028 hsz28 hc28
        have KY28 := Yd hy28
        have KA28 := Yd hA28
        clear hy28 hA28
        have KL28 := Yd (show (x5_2 : Int).toNat ≤ x3_1.length from by omega)
        replace q28 := eq_true q28
        refine start_ (n := 13) (S := fun w' => True) (ds := []) #[YF,YF,YF,YF,YF,YF,YF,YF,YF,YF,YF,YF,YF] (by kernel_rfl) rfl rfl trivial (fun hHeld => ?_);refine with_tabW plenumref56_Order.tab8 plenumref56_Order.bits8 (fun HT_ HW_ => ?_)
        generalize w25.drew = w26 at HO_3 HB HR321 HR334 hHeld ⊢
        refine pure_ (i := 1) (N := some 34) (v := ?_) (a' := ?_) #[YF,YT,YF,YF,YF,YF,YF,YF,YF,YF,YF,YF,YF] rfl rfl (any_of HT_.out (by kernel_rfl)) (fun _ _ _ h => h) (Or.inl ⟨by rfl,?_⟩) ?_ ?_
        rotate_left
        ·intro w'
         go_simp
         with_reducible rfl
        rotate_left
        ·simp only [Act.put,Ya,Yb,Yc,i64_w,i32_w]
         rfl
        refine pure_ (i := 2) (N := some 35) (v := ?_) (a' := ?_) #[YF,YT,YT,YF,YF,YF,YF,YF,YF,YF,YF,YF,YF] rfl rfl (any_of HT_.out (by kernel_rfl)) (fun _ _ _ h => h) (Or.inl ⟨by rfl,?_⟩) ?_ ?_
        rotate_left
        ·intro w'
         go_simp
         with_reducible rfl
        rotate_left
        ·simp only [Act.put,Ya,Yb,Yc,i64_w,i32_w]
         rfl
        refine pure_ (i := 3) (N := some 36) (v := ?_) (a' := ?_) #[YF,YT,YT,YT,YF,YF,YF,YF,YF,YF,YF,YF,YF] rfl rfl (any_of HT_.out (by kernel_rfl)) (fun _ _ _ h => h) (Or.inl ⟨by rfl,?_⟩) ?_ ?_
        rotate_left
        ·intro w'
         go_simp
         with_reducible rfl
        rotate_left
        ·simp only [Act.put,Ya,Yb,Yc,i64_w,i32_w]
         rfl
        refine pure_ (i := 5) (N := some 38) (v := ?_) (a' := ?_) #[YF,YT,YT,YT,YF,YT,YF,YF,YF,YF,YF,YF,YF] rfl rfl (any_of HT_.out (by kernel_rfl)) (fun _ _ _ h => h) (Or.inl ⟨by rfl,?_⟩) ?_ ?_
        rotate_left
        ·intro w'
         go_simp
         with_reducible rfl
        rotate_left
        ·simp only [Act.put,Ya,Yb,Yc,i64_w,i32_w]
         rfl
        refine pure_ (i := 8) (N := some 41) (v := ?_) (a' := ?_) #[YF,YT,YT,YT,YF,YT,YF,YF,YT,YF,YF,YF,YF] rfl rfl (any_of HT_.out (by kernel_rfl)) (fun _ _ _ h => h) (Or.inl ⟨by rfl,?_⟩) ?_ ?_
        rotate_left
        ·intro w'
         go_simp
         with_reducible rfl
        rotate_left
        ·simp only [Act.put,Ya,Yb,Yc,i64_w,i32_w]
         rfl
        refine pure_ (i := 9) (N := some 42) (v := ?_) (a' := ?_) #[YF,YT,YT,YT,YF,YT,YF,YF,YT,YT,YF,YF,YF] rfl rfl (any_of HT_.out (by kernel_rfl)) (fun _ _ _ h => h) (Or.inl ⟨by rfl,?_⟩) ?_ ?_
        rotate_left
        ·intro w'
         go_simp
         with_reducible rfl
        rotate_left
        ·simp only [Act.put,Ya,Yb,Yc,i64_w,i32_w]
         rfl
        refine pure_ (i := 10) (N := some 43) (v := ?_) (a' := ?_) #[YF,YT,YT,YT,YF,YT,YF,YF,YT,YT,YT,YF,YF] rfl rfl (any_of HT_.out (by kernel_rfl)) (fun _ _ _ h => h) (Or.inl ⟨by rfl,?_⟩) ?_ ?_
        rotate_left
        ·intro w'
         go_simp
         with_reducible rfl
        rotate_left
        ·simp only [Act.put,Ya,Yb,Yc,i64_w,i32_w]
         rfl
        refine join_ (σ := Value × Value × Value) 3 #[YT,YT,YT,YT,YT,YT,YT,YF,YT,YT,YT,YF,YF] (fun s_ => [(33,s_.1),(37,s_.2.1),(39,s_.2.2)]) (fun s_ w' => (Kd.R (Kd.int .i64) 3 w' w.heap.size (fun k_ => some k_ ≠ (s_.2.2 : Value).ownBlock ∧ some k_ ≠ (.slice (some ad311) x3_1.length co24 : Value).ownBlock) s_.2.1 y322) ∧ (Kd.R (Kd.int .i64) 3 w' w.heap.size (fun k_ => some k_ ≠ (s_.2.1 : Value).ownBlock ∧ some k_ ≠ (.slice (some ad311) x3_1.length co24 : Value).ownBlock) s_.2.2 y325) ∧ (Kd.R (Kd.int .i64) 3 w' w.heap.size (fun k_ => some k_ ≠ (s_.2.1 : Value).ownBlock ∧ some k_ ≠ (s_.2.2 : Value).ownBlock) (.slice (some ad311) x3_1.length co24) x3_1) ∧ (Below w.heap.size w w')) ?_ ?_
        rotate_left
        ·intro hCont
         refine two_ (i := 0) (j := 6) (Ni := some 33) (Nj := some 39) #[YT,YT,YT,YT,YF,YT,YF,YF,YT,YT,YT,YF,YF] #[YF,YT,YT,YT,YF,YT,YT,YF,YT,YT,YT,YF,YF] rfl rfl rfl rfl (two_of HT_.out (by kernel_rfl)) (by decide) (by decide) (fun K hK => ?_) (fun K hK => ?_)
         ·skip
          refine Kd.R_lit_step (Kd.int .i64) _ 3 ?hg (N := 33) ?hd (xs := ([] : List Int)) (inner := []) (ok := fun _ => True) (okp := fun _ => True) ?hr ?hp (fun _ hk => hk) trivial (Below.refl _ _) (Nat.le_refl _) (by simp) ?_;(case hd => rfl);(case hg => rfl);(case hr => first | (go_simp;done) | (go_simp;rfl));(case hp => exact (Reps.none _ _))
          intro v316 w29 ho30 hb hg_ hnew_
          clear hg_ hnew_
          (first | rw [← Ny315.out] at ho30 | (simp only [Int.reduceToNat] at ho30;rw [← Ny315.out] at ho30))
          have n0_ := Yd (Kd.R_elder' (Y5 HO_3.out) (Kd.R_base ho30) hb)
          have n1_ := Yd (Kd.R_lower (Kd.R_new' ho30 (Kd.R_lt (Y5 HO_3.out))) (below_size (Y3 HB.out)))
          have n2_ := Yd (Kd.C_below (by repeat (first | (with_reducible exact HR321.out) | (with_reducible refine Kd.C_alloc ?_ _) | (with_reducible refine Kd.C_drewN ?_ _) | (with_reducible refine Kd.C_drew ?_) | exact HR321.out)) hb)
          have n3_ := Yd (Kd.C_below (by repeat (first | (with_reducible exact HR334.out) | (with_reducible refine Kd.C_alloc ?_ _) | (with_reducible refine Kd.C_drewN ?_ _) | (with_reducible refine Kd.C_drew ?_) | exact HR334.out)) hb)
          have n4_ := Yd (below_step (Y3 HB.out) hb)
          clear HO_3
          clear HR321
          clear HR334
          clear HB
          have HO_3 := n0_
          have HO317 := n1_
          have HR321 := n2_
          have HR334 := n3_
          have HB := n4_
          clear n0_ n1_ n2_ n3_ n4_
          clear hb ho30
          refine hK.out _ _ trivial (fun hHeld => ?_)
          clear hK K
          refine norm_ (a' := ?_) ?_ ?_
          rotate_left
          ·show Act.put _ (some 33) _ = _
           simp only [Act.put,Ya,Yb,Yc,i64_w,i32_w]
           rfl
          refine two_ (i := 4) (j := 6) (Ni := some 37) (Nj := some 39) #[YT,YT,YT,YT,YT,YT,YF,YF,YT,YT,YT,YF,YF] #[YT,YT,YT,YT,YF,YT,YT,YF,YT,YT,YT,YF,YF] rfl rfl rfl rfl (two_of HT_.out (by kernel_rfl)) (by decide) (by decide) (fun K hK => ?_) (fun K hK => ?_)
          ·skip
           refine Kd.R_append_rows_step (Kd.int .i64) (w0 := w) w.heap.size (by rfl) (.tmp 33) (.tmp 36) 44 3 (.int .i64 0) 8 rfl Try.underlying44 info3 rfl (by decide) (by omega) v316 y315 y318 _ _ _ (fun k_ => some k_ ≠ (.slice (some ad311) x3_1.length co24 : Value).ownBlock) (fun _ => False) rfl rfl ?aO ?aR (fun _ _ h => h) (fun _ h => h.elim) ?aF ?aB ?aS ?aL ?_
           (case aR => repeat (first | exact (by repeat (first | (with_reducible exact HR321.out) | (with_reducible refine Kd.C_alloc ?_ _) | (with_reducible refine Kd.C_drewN ?_ _) | (with_reducible refine Kd.C_drew ?_) | exact HR321.out)) | (with_reducible refine Kd.C_alloc ?_ _) | (with_reducible refine Kd.C_drewN ?_ _) | (with_reducible refine Kd.C_drew ?_)))
           (case aB => exact (Y3 HB.out))
           (case aF => exact (fun k_ hk => Kd.fresh' (Kd.R_lt (Y5 HO_3.out)) k_ hk))
           (case aO => exact (by (with_reducible repeat (first | apply Kd.R_alloc | apply Kd.R_drewN | apply Kd.R_drew));exact Kd.R_mono HO317.out (fun _ hk => hk.2)))
           (case aS => exact (below_size (Y3 HB.out)))
           (case aL => have := LMc18.out;omega)
           intro v323 w31 ho hb hg hat
           rw [← Ny322.out] at ho
           have n0_ := Yd (Kd.R_after (ok := (fun _ => True)) (Y5 HO_3.out) hg hat)
           have n1_ := Yd (hb)
           have n2_ := Yd ((show Kd.C (Kd.int .i64) w31 (some ad311) y318.length y318 from by rw [Ny318.out];exact Kd.C_take (m := (x5_2 : Int).toNat) ((Kd.R_reads' (Kd.R_after (ok := (fun _ => True)) (Y5 HO_3.out) hg hat)).2.2) KL27.out))
           have n3_ := Yd ((show Kd.C (Kd.int .i64) w31 A28 y331.length y331 from by rw [Ny331.out,KA28.out];exact Kd.C_drop (m := (x5_2 : Int).toNat) (c := co24) ((Kd.R_reads' (Kd.R_after (ok := (fun _ => True)) (Y5 HO_3.out) hg hat)).2.2) KL28.out ((Kd.R_reads' (Kd.R_after (ok := (fun _ => True)) (Y5 HO_3.out) hg hat)).2.1)))
           have n4_ := Yd (ho)
           clear HO_3
           clear HB
           clear HR321
           clear HR334
           clear HO317
           have HO_3 := n0_
           have HB := n1_
           have HR321 := n2_
           have HR334 := n3_
           have HO324 := n4_
           clear n0_ n1_ n2_ n3_ n4_
           clear ho hb hg hat
           refine hK.out _ _ trivial (fun hHeld => ?_)
           clear hK K
           refine norm_ (a' := ?_) ?_ ?_
           rotate_left
           ·show Act.put _ (some 37) _ = _
            simp only [Act.put,Ya,Yb,Yc,i64_w,i32_w]
            rfl
           refine one_ (i := 6) (N := some 39) #[YT,YT,YT,YT,YT,YT,YT,YF,YT,YT,YT,YF,YF] rfl rfl (one_of HT_.out (by kernel_rfl)) (by decide) (fun K hK => ?_)
           refine Kd.R_lit_step (Kd.int .i64) _ 3 ?hg (N := 39) ?hd (xs := ([x4_1] : List Int)) (inner := [.int .i64 x4_1]) (ok := fun _ => True) (okp := fun _ => True) ?hr ?hp (fun _ hk => hk) trivial (Below.refl _ _) (Nat.le_refl _) (by simp) ?_;(case hd => rfl);(case hg => rfl);(case hr => first | (go_simp;done) | (go_simp;rfl));(case hp => exact (Reps.one (show Kd.M (Kd.int .i64) _ _ _ x4_1 [.int .i64 x4_1] from rfl) (Reps.none _ _)))
           intro v326 w32 ho33 hb hg_ hnew_
           clear hg_ hnew_
           (first | rw [← Ny325.out] at ho33 | (simp only [Int.reduceToNat] at ho33;rw [← Ny325.out] at ho33))
           have n0_ := Yd (Kd.R_elder' (Y5 HO_3.out) (Kd.R_base ho33) hb)
           have n1_ := Yd (Kd.R_elder' (Y5 HO324.out) (Kd.R_base ho33) hb)
           have n2_ := Yd (Kd.R_lower (Kd.R_new' (Kd.R_new' ho33 (Kd.R_lt (Y5 HO_3.out))) (Kd.R_lt (Y5 HO324.out))) (below_size (Y3 HB.out)))
           have n3_ := Yd (Kd.C_below (by repeat (first | (with_reducible exact HR321.out) | (with_reducible refine Kd.C_alloc ?_ _) | (with_reducible refine Kd.C_drewN ?_ _) | (with_reducible refine Kd.C_drew ?_) | exact HR321.out)) hb)
           have n4_ := Yd (Kd.C_below (by repeat (first | (with_reducible exact HR334.out) | (with_reducible refine Kd.C_alloc ?_ _) | (with_reducible refine Kd.C_drewN ?_ _) | (with_reducible refine Kd.C_drew ?_) | exact HR334.out)) hb)
           have n5_ := Yd (below_step (Y3 HB.out) hb)
           clear HO_3
           clear HO324
           clear HR321
           clear HR334
           clear HB
           have HO_3 := n0_
           have HO324 := n1_
           have HO327 := n2_
           have HR321 := n3_
           have HR334 := n4_
           have HB := n5_
           clear n0_ n1_ n2_ n3_ n4_ n5_
           clear hb ho33
           refine hK.out _ _ trivial (fun hHeld => ?_)
           clear hK K
           refine norm_ (a' := ?_) ?_ ?_
           rotate_left
           ·show Act.put _ (some 39) _ = _
            simp only [Act.put,Ya,Yb,Yc,i64_w,i32_w]
            rfl
           exact norm_ (by simp only [putAll,Act.put,List.setIfInBounds_toArray,List.set_cons_zero,List.set_cons_succ]) (hCont (v316,v323,v326) _ ⟨(by (with_reducible repeat (first | apply Kd.R_alloc | apply Kd.R_drewN | apply Kd.R_drew));exact Kd.R_mono HO324.out (fun _ hk => ⟨hk.2,hk.1⟩)),(by (with_reducible repeat (first | apply Kd.R_alloc | apply Kd.R_drewN | apply Kd.R_drew));exact Kd.R_mono HO327.out (fun _ hk => ⟨hk.2,hk.1.2⟩)),(by (with_reducible repeat (first | apply Kd.R_alloc | apply Kd.R_drewN | apply Kd.R_drew));exact Kd.R_mono HO_3.out (fun _ hk => ⟨hk.1.2,hk.2⟩)),(Y3 HB.out)⟩)
          ·skip
           refine Kd.R_lit_step (Kd.int .i64) _ 3 ?hg (N := 39) ?hd (xs := ([x4_1] : List Int)) (inner := [.int .i64 x4_1]) (ok := fun _ => True) (okp := fun _ => True) ?hr ?hp (fun _ hk => hk) trivial (Below.refl _ _) (Nat.le_refl _) (by simp) ?_;(case hd => rfl);(case hg => rfl);(case hr => first | (go_simp;done) | (go_simp;rfl));(case hp => exact (Reps.one (show Kd.M (Kd.int .i64) _ _ _ x4_1 [.int .i64 x4_1] from rfl) (Reps.none _ _)))
           intro v326 w31 ho32 hb hg_ hnew_
           clear hg_ hnew_
           (first | rw [← Ny325.out] at ho32 | (simp only [Int.reduceToNat] at ho32;rw [← Ny325.out] at ho32))
           have n0_ := Yd (Kd.R_elder' (Y5 HO_3.out) (Kd.R_base ho32) hb)
           have n1_ := Yd (Kd.R_elder' (Y5 HO317.out) (Kd.R_base ho32) hb)
           have n2_ := Yd (Kd.R_lower (Kd.R_new' (Kd.R_new' ho32 (Kd.R_lt (Y5 HO_3.out))) (Kd.R_lt (Y5 HO317.out))) (below_size (Y3 HB.out)))
           have n3_ := Yd (Kd.C_below (by repeat (first | (with_reducible exact HR321.out) | (with_reducible refine Kd.C_alloc ?_ _) | (with_reducible refine Kd.C_drewN ?_ _) | (with_reducible refine Kd.C_drew ?_) | exact HR321.out)) hb)
           have n4_ := Yd (Kd.C_below (by repeat (first | (with_reducible exact HR334.out) | (with_reducible refine Kd.C_alloc ?_ _) | (with_reducible refine Kd.C_drewN ?_ _) | (with_reducible refine Kd.C_drew ?_) | exact HR334.out)) hb)
           have n5_ := Yd (below_step (Y3 HB.out) hb)
           clear HO_3
           clear HO317
           clear HR321
           clear HR334
           clear HB
           have HO_3 := n0_
           have HO317 := n1_
           have HO327 := n2_
           have HR321 := n3_
           have HR334 := n4_
           have HB := n5_
           clear n0_ n1_ n2_ n3_ n4_ n5_
           clear hb ho32
           refine hK.out _ _ trivial (fun hHeld => ?_)
           clear hK K
           refine norm_ (a' := ?_) ?_ ?_
           rotate_left
           ·show Act.put _ (some 39) _ = _
            simp only [Act.put,Ya,Yb,Yc,i64_w,i32_w]
            rfl
           refine one_ (i := 4) (N := some 37) #[YT,YT,YT,YT,YT,YT,YT,YF,YT,YT,YT,YF,YF] rfl rfl (one_of HT_.out (by kernel_rfl)) (by decide) (fun K hK => ?_)
           refine Kd.R_append_rows_step (Kd.int .i64) (w0 := w) w.heap.size (by rfl) (.tmp 33) (.tmp 36) 44 3 (.int .i64 0) 8 rfl Try.underlying44 info3 rfl (by decide) (by omega) v316 y315 y318 _ _ _ (fun k_ => some k_ ≠ (.slice (some ad311) x3_1.length co24 : Value).ownBlock ∧ some k_ ≠ (v326 : Value).ownBlock) (fun _ => False) rfl rfl ?aO ?aR (fun _ _ h => h) (fun _ h => h.elim) ?aF ?aB ?aS ?aL ?_
           (case aR => repeat (first | exact (by repeat (first | (with_reducible exact HR321.out) | (with_reducible refine Kd.C_alloc ?_ _) | (with_reducible refine Kd.C_drewN ?_ _) | (with_reducible refine Kd.C_drew ?_) | exact HR321.out)) | (with_reducible refine Kd.C_alloc ?_ _) | (with_reducible refine Kd.C_drewN ?_ _) | (with_reducible refine Kd.C_drew ?_)))
           (case aB => exact (Y3 HB.out))
           (case aF => exact (fun k_ hk => ⟨Kd.fresh' (Kd.R_lt (Y5 HO_3.out)) k_ hk,Kd.fresh' (Kd.R_lt (Y5 HO327.out)) k_ hk⟩))
           (case aO => exact (by (with_reducible repeat (first | apply Kd.R_alloc | apply Kd.R_drewN | apply Kd.R_drew));exact Kd.R_mono HO317.out (fun _ hk => ⟨hk.1.2,hk.2⟩)))
           (case aS => exact (below_size (Y3 HB.out)))
           (case aL => have := LMc18.out;omega)
           intro v323 w33 ho hb hg hat
           rw [← Ny322.out] at ho
           have n0_ := Yd (Kd.R_after (ok := (fun k_ => some k_ ≠ (v326 : Value).ownBlock)) (by (with_reducible repeat (first | apply Kd.R_alloc | apply Kd.R_drewN | apply Kd.R_drew));exact Kd.R_mono HO_3.out (fun _ hk => ⟨hk.2,hk.1.2⟩)) hg hat)
           have n1_ := Yd (Kd.R_after (ok := (fun k_ => some k_ ≠ (.slice (some ad311) x3_1.length co24 : Value).ownBlock)) (by (with_reducible repeat (first | apply Kd.R_alloc | apply Kd.R_drewN | apply Kd.R_drew));exact Kd.R_mono HO327.out (fun _ hk => ⟨hk.1.2,hk.2⟩)) hg hat)
           have n2_ := Yd (hb)
           have n3_ := Yd ((show Kd.C (Kd.int .i64) w33 (some ad311) y318.length y318 from by rw [Ny318.out];exact Kd.C_take (m := (x5_2 : Int).toNat) ((Kd.R_reads' (Kd.R_after (ok := (fun k_ => some k_ ≠ (v326 : Value).ownBlock)) (by (with_reducible repeat (first | apply Kd.R_alloc | apply Kd.R_drewN | apply Kd.R_drew));exact Kd.R_mono HO_3.out (fun _ hk => ⟨hk.2,hk.1.2⟩)) hg hat)).2.2) KL27.out))
           have n4_ := Yd ((show Kd.C (Kd.int .i64) w33 A28 y331.length y331 from by rw [Ny331.out,KA28.out];exact Kd.C_drop (m := (x5_2 : Int).toNat) (c := co24) ((Kd.R_reads' (Kd.R_after (ok := (fun k_ => some k_ ≠ (v326 : Value).ownBlock)) (by (with_reducible repeat (first | apply Kd.R_alloc | apply Kd.R_drewN | apply Kd.R_drew));exact Kd.R_mono HO_3.out (fun _ hk => ⟨hk.2,hk.1.2⟩)) hg hat)).2.2) KL28.out ((Kd.R_reads' (Kd.R_after (ok := (fun k_ => some k_ ≠ (v326 : Value).ownBlock)) (by (with_reducible repeat (first | apply Kd.R_alloc | apply Kd.R_drewN | apply Kd.R_drew));exact Kd.R_mono HO_3.out (fun _ hk => ⟨hk.2,hk.1.2⟩)) hg hat)).2.1)))
           have n5_ := Yd (ho)
           clear HO_3
           clear HO327
           clear HB
           clear HR321
           clear HR334
           clear HO317
           have HO_3 := n0_
           have HO327 := n1_
           have HB := n2_
           have HR321 := n3_
           have HR334 := n4_
           have HO324 := n5_
           clear n0_ n1_ n2_ n3_ n4_ n5_
           clear ho hb hg hat
           refine hK.out _ _ trivial (fun hHeld => ?_)
           clear hK K
           refine norm_ (a' := ?_) ?_ ?_
           rotate_left
           ·show Act.put _ (some 37) _ = _
            simp only [Act.put,Ya,Yb,Yc,i64_w,i32_w]
            rfl
           exact norm_ (by simp only [putAll,Act.put,List.setIfInBounds_toArray,List.set_cons_zero,List.set_cons_succ]) (hCont (v316,v323,v326) _ ⟨(by (with_reducible repeat (first | apply Kd.R_alloc | apply Kd.R_drewN | apply Kd.R_drew));exact Kd.R_mono HO324.out (fun _ hk => ⟨hk.2,hk.1⟩)),(by (with_reducible repeat (first | apply Kd.R_alloc | apply Kd.R_drewN | apply Kd.R_drew));exact Kd.R_mono HO327.out (fun _ hk => ⟨hk.2,hk.1⟩)),(by (with_reducible repeat (first | apply Kd.R_alloc | apply Kd.R_drewN | apply Kd.R_drew));exact Kd.R_mono HO_3.out (fun _ hk => ⟨hk.2,hk.1⟩)),(Y3 HB.out)⟩)
         ·skip
          refine Kd.R_lit_step (Kd.int .i64) _ 3 ?hg (N := 39) ?hd (xs := ([x4_1] : List Int)) (inner := [.int .i64 x4_1]) (ok := fun _ => True) (okp := fun _ => True) ?hr ?hp (fun _ hk => hk) trivial (Below.refl _ _) (Nat.le_refl _) (by simp) ?_;(case hd => rfl);(case hg => rfl);(case hr => first | (go_simp;done) | (go_simp;rfl));(case hp => exact (Reps.one (show Kd.M (Kd.int .i64) _ _ _ x4_1 [.int .i64 x4_1] from rfl) (Reps.none _ _)))
          intro v326 w29 ho30 hb hg_ hnew_
          clear hg_ hnew_
          (first | rw [← Ny325.out] at ho30 | (simp only [Int.reduceToNat] at ho30;rw [← Ny325.out] at ho30))
          have n0_ := Yd (Kd.R_elder' (Y5 HO_3.out) (Kd.R_base ho30) hb)
          have n1_ := Yd (Kd.R_lower (Kd.R_new' ho30 (Kd.R_lt (Y5 HO_3.out))) (below_size (Y3 HB.out)))
          have n2_ := Yd (Kd.C_below (by repeat (first | (with_reducible exact HR321.out) | (with_reducible refine Kd.C_alloc ?_ _) | (with_reducible refine Kd.C_drewN ?_ _) | (with_reducible refine Kd.C_drew ?_) | exact HR321.out)) hb)
          have n3_ := Yd (Kd.C_below (by repeat (first | (with_reducible exact HR334.out) | (with_reducible refine Kd.C_alloc ?_ _) | (with_reducible refine Kd.C_drewN ?_ _) | (with_reducible refine Kd.C_drew ?_) | exact HR334.out)) hb)
          have n4_ := Yd (below_step (Y3 HB.out) hb)
          clear HO_3
          clear HR321
          clear HR334
          clear HB
          have HO_3 := n0_
          have HO327 := n1_
          have HR321 := n2_
          have HR334 := n3_
          have HB := n4_
          clear n0_ n1_ n2_ n3_ n4_
          clear hb ho30
          refine hK.out _ _ trivial (fun hHeld => ?_)
          clear hK K
          refine norm_ (a' := ?_) ?_ ?_
          rotate_left
          ·show Act.put _ (some 39) _ = _
           simp only [Act.put,Ya,Yb,Yc,i64_w,i32_w]
           rfl
          refine one_ (i := 0) (N := some 33) #[YT,YT,YT,YT,YF,YT,YT,YF,YT,YT,YT,YF,YF] rfl rfl (one_of HT_.out (by kernel_rfl)) (by decide) (fun K hK => ?_)
          refine Kd.R_lit_step (Kd.int .i64) _ 3 ?hg (N := 33) ?hd (xs := ([] : List Int)) (inner := []) (ok := fun _ => True) (okp := fun _ => True) ?hr ?hp (fun _ hk => hk) trivial (Below.refl _ _) (Nat.le_refl _) (by simp) ?_;(case hd => rfl);(case hg => rfl);(case hr => first | (go_simp;done) | (go_simp;rfl));(case hp => exact (Reps.none _ _))
          intro v316 w31 ho32 hb hg_ hnew_
          clear hg_ hnew_
          (first | rw [← Ny315.out] at ho32 | (simp only [Int.reduceToNat] at ho32;rw [← Ny315.out] at ho32))
          have n0_ := Yd (Kd.R_elder' (Y5 HO_3.out) (Kd.R_base ho32) hb)
          have n1_ := Yd (Kd.R_elder' (Y5 HO327.out) (Kd.R_base ho32) hb)
          have n2_ := Yd (Kd.R_lower (Kd.R_new' (Kd.R_new' ho32 (Kd.R_lt (Y5 HO_3.out))) (Kd.R_lt (Y5 HO327.out))) (below_size (Y3 HB.out)))
          have n3_ := Yd (Kd.C_below (by repeat (first | (with_reducible exact HR321.out) | (with_reducible refine Kd.C_alloc ?_ _) | (with_reducible refine Kd.C_drewN ?_ _) | (with_reducible refine Kd.C_drew ?_) | exact HR321.out)) hb)
          have n4_ := Yd (Kd.C_below (by repeat (first | (with_reducible exact HR334.out) | (with_reducible refine Kd.C_alloc ?_ _) | (with_reducible refine Kd.C_drewN ?_ _) | (with_reducible refine Kd.C_drew ?_) | exact HR334.out)) hb)
          have n5_ := Yd (below_step (Y3 HB.out) hb)
          clear HO_3
          clear HO327
          clear HR321
          clear HR334
          clear HB
          have HO_3 := n0_
          have HO327 := n1_
          have HO317 := n2_
          have HR321 := n3_
          have HR334 := n4_
          have HB := n5_
          clear n0_ n1_ n2_ n3_ n4_ n5_
          clear hb ho32
          refine hK.out _ _ trivial (fun hHeld => ?_)
          clear hK K
          refine norm_ (a' := ?_) ?_ ?_
          rotate_left
          ·show Act.put _ (some 33) _ = _
           simp only [Act.put,Ya,Yb,Yc,i64_w,i32_w]
           rfl
          refine one_ (i := 4) (N := some 37) #[YT,YT,YT,YT,YT,YT,YT,YF,YT,YT,YT,YF,YF] rfl rfl (one_of HT_.out (by kernel_rfl)) (by decide) (fun K hK => ?_)
          refine Kd.R_append_rows_step (Kd.int .i64) (w0 := w) w.heap.size (by rfl) (.tmp 33) (.tmp 36) 44 3 (.int .i64 0) 8 rfl Try.underlying44 info3 rfl (by decide) (by omega) v316 y315 y318 _ _ _ (fun k_ => some k_ ≠ (.slice (some ad311) x3_1.length co24 : Value).ownBlock ∧ some k_ ≠ (v326 : Value).ownBlock) (fun _ => False) rfl rfl ?aO ?aR (fun _ _ h => h) (fun _ h => h.elim) ?aF ?aB ?aS ?aL ?_
          (case aR => repeat (first | exact (by repeat (first | (with_reducible exact HR321.out) | (with_reducible refine Kd.C_alloc ?_ _) | (with_reducible refine Kd.C_drewN ?_ _) | (with_reducible refine Kd.C_drew ?_) | exact HR321.out)) | (with_reducible refine Kd.C_alloc ?_ _) | (with_reducible refine Kd.C_drewN ?_ _) | (with_reducible refine Kd.C_drew ?_)))
          (case aB => exact (Y3 HB.out))
          (case aF => exact (fun k_ hk => ⟨Kd.fresh' (Kd.R_lt (Y5 HO_3.out)) k_ hk,Kd.fresh' (Kd.R_lt (Y5 HO327.out)) k_ hk⟩))
          (case aO => exact (by (with_reducible repeat (first | apply Kd.R_alloc | apply Kd.R_drewN | apply Kd.R_drew));exact Kd.R_mono HO317.out (fun _ hk => ⟨hk.1.2,hk.2⟩)))
          (case aS => exact (below_size (Y3 HB.out)))
          (case aL => have := LMc18.out;omega)
          intro v323 w33 ho hb hg hat
          rw [← Ny322.out] at ho
          have n0_ := Yd (Kd.R_after (ok := (fun k_ => some k_ ≠ (v326 : Value).ownBlock)) (by (with_reducible repeat (first | apply Kd.R_alloc | apply Kd.R_drewN | apply Kd.R_drew));exact Kd.R_mono HO_3.out (fun _ hk => ⟨hk.1.2,hk.2⟩)) hg hat)
          have n1_ := Yd (Kd.R_after (ok := (fun k_ => some k_ ≠ (.slice (some ad311) x3_1.length co24 : Value).ownBlock)) (by (with_reducible repeat (first | apply Kd.R_alloc | apply Kd.R_drewN | apply Kd.R_drew));exact Kd.R_mono HO327.out (fun _ hk => ⟨hk.1.2,hk.2⟩)) hg hat)
          have n2_ := Yd (hb)
          have n3_ := Yd ((show Kd.C (Kd.int .i64) w33 (some ad311) y318.length y318 from by rw [Ny318.out];exact Kd.C_take (m := (x5_2 : Int).toNat) ((Kd.R_reads' (Kd.R_after (ok := (fun k_ => some k_ ≠ (v326 : Value).ownBlock)) (by (with_reducible repeat (first | apply Kd.R_alloc | apply Kd.R_drewN | apply Kd.R_drew));exact Kd.R_mono HO_3.out (fun _ hk => ⟨hk.1.2,hk.2⟩)) hg hat)).2.2) KL27.out))
          have n4_ := Yd ((show Kd.C (Kd.int .i64) w33 A28 y331.length y331 from by rw [Ny331.out,KA28.out];exact Kd.C_drop (m := (x5_2 : Int).toNat) (c := co24) ((Kd.R_reads' (Kd.R_after (ok := (fun k_ => some k_ ≠ (v326 : Value).ownBlock)) (by (with_reducible repeat (first | apply Kd.R_alloc | apply Kd.R_drewN | apply Kd.R_drew));exact Kd.R_mono HO_3.out (fun _ hk => ⟨hk.1.2,hk.2⟩)) hg hat)).2.2) KL28.out ((Kd.R_reads' (Kd.R_after (ok := (fun k_ => some k_ ≠ (v326 : Value).ownBlock)) (by (with_reducible repeat (first | apply Kd.R_alloc | apply Kd.R_drewN | apply Kd.R_drew));exact Kd.R_mono HO_3.out (fun _ hk => ⟨hk.1.2,hk.2⟩)) hg hat)).2.1)))
          have n5_ := Yd (ho)
          clear HO_3
          clear HO327
          clear HB
          clear HR321
          clear HR334
          clear HO317
          have HO_3 := n0_
          have HO327 := n1_
          have HB := n2_
          have HR321 := n3_
          have HR334 := n4_
          have HO324 := n5_
          clear n0_ n1_ n2_ n3_ n4_ n5_
          clear ho hb hg hat
          refine hK.out _ _ trivial (fun hHeld => ?_)
          clear hK K
          refine norm_ (a' := ?_) ?_ ?_
          rotate_left
          ·show Act.put _ (some 37) _ = _
           simp only [Act.put,Ya,Yb,Yc,i64_w,i32_w]
           rfl
          exact norm_ (by simp only [putAll,Act.put,List.setIfInBounds_toArray,List.set_cons_zero,List.set_cons_succ]) (hCont (v316,v323,v326) _ ⟨(by (with_reducible repeat (first | apply Kd.R_alloc | apply Kd.R_drewN | apply Kd.R_drew));exact Kd.R_mono HO324.out (fun _ hk => ⟨hk.2,hk.1⟩)),(by (with_reducible repeat (first | apply Kd.R_alloc | apply Kd.R_drewN | apply Kd.R_drew));exact Kd.R_mono HO327.out (fun _ hk => ⟨hk.2,hk.1⟩)),(by (with_reducible repeat (first | apply Kd.R_alloc | apply Kd.R_drewN | apply Kd.R_drew));exact Kd.R_mono HO_3.out (fun _ hk => ⟨hk.2,hk.1⟩)),(Y3 HB.out)⟩)
        rintro ⟨v316,v323,v326⟩ w34 ⟨h0_,h1_,h2_,h3_⟩
        have n0_ : Aside0 (Kd.R (Kd.int .i64) 3 w34 w.heap.size (fun k_ => some k_ ≠ (v326 : Value).ownBlock ∧ some k_ ≠ (.slice (some ad311) x3_1.length co24 : Value).ownBlock) v323 y322) := ⟨h0_⟩
        have n1_ : Aside0 (Kd.R (Kd.int .i64) 3 w34 w.heap.size (fun k_ => some k_ ≠ (v323 : Value).ownBlock ∧ some k_ ≠ (.slice (some ad311) x3_1.length co24 : Value).ownBlock) v326 y325) := ⟨h1_⟩
        have n2_ : Aside0 (Kd.R (Kd.int .i64) 3 w34 w.heap.size (fun k_ => some k_ ≠ (v323 : Value).ownBlock ∧ some k_ ≠ (v326 : Value).ownBlock) (.slice (some ad311) x3_1.length co24) x3_1) := ⟨h2_⟩
        have n3_ : Aside0 (Below w.heap.size w w34) := ⟨h3_⟩
        clear HO_3
        clear HB
        clear h0_ h1_ h2_ h3_
        have HO324 := n0_
        have HO327 := n1_
        have HO_3 := n2_
        have HB := n3_
        clear n0_ n1_ n2_ n3_
        have hHeld := trivial
        clear HR334
        have HR334 := Yd (show Kd.C (Kd.int .i64) w34 A28 y331.length y331 from by rw [Ny331.out,KA28.out];exact Kd.C_drop (m := (x5_2 : Int).toNat) (c := co24) ((Kd.R_reads' HO_3.out).2.2) KL28.out ((Kd.R_reads' HO_3.out).2.1))
        obtain ⟨Ao36,co36,eo36⟩ := Kd.R_slice HO327.out
        (first | subst eo36 | (injection eo36 with f1_ f2_ f3_;have f4_ := f1_.symm;have f5_ := f3_.symm;clear f1_ f2_ f3_;subst f4_;subst f5_))
        refine norm_ (a' := ?_) ?_ ?_
        rotate_left
        ·simp only [putAll,Act.put,List.setIfInBounds_toArray,List.set_cons_zero,List.set_cons_succ]
         rfl
        refine one_ (i := 7) (N := some 40) #[YT,YT,YT,YT,YT,YT,YT,YT,YT,YT,YT,YF,YF] rfl rfl (one_of HT_.out (by kernel_rfl)) (by decide) (fun K hK => ?_)
        refine Kd.R_append_rows_step (Kd.int .i64) (w0 := w) w.heap.size (by rfl) (.tmp 37) (.tmp 39) 44 3 (.int .i64 0) 8 rfl Try.underlying44 info3 rfl (by decide) (by omega) v323 y322 y325 _ _ _ (fun k_ => some k_ ≠ (.slice (some ad311) x3_1.length co24 : Value).ownBlock ∧ some k_ ≠ (.slice Ao36 y325.length co36 : Value).ownBlock) (fun _ => False) rfl rfl ?aO ?aR (fun _ _ h => h) (fun _ h => h.elim) ?aF ?aB ?aS ?aL ?_
        (case aR => repeat (first | exact (Kd.R_reads' HO327.out).2.2 | (with_reducible refine Kd.C_alloc ?_ _) | (with_reducible refine Kd.C_drewN ?_ _) | (with_reducible refine Kd.C_drew ?_)))
        (case aB => exact (Y3 HB.out))
        (case aF => exact (fun k_ hk => ⟨Kd.fresh' (Kd.R_lt (Y5 HO_3.out)) k_ hk,Kd.fresh' (Kd.R_lt (Y5 HO327.out)) k_ hk⟩))
        (case aO => exact (by (with_reducible repeat (first | apply Kd.R_alloc | apply Kd.R_drewN | apply Kd.R_drew));exact Kd.R_mono HO324.out (fun _ hk => ⟨hk.2,hk.1⟩)))
        (case aS => exact (below_size (Y3 HB.out)))
        (case aL => have := LMc19.out;omega)
        intro v329 w35 ho hb hg hat
        rw [← Ny328.out] at ho
        have n0_ := Yd (Kd.R_after (ok := (fun k_ => some k_ ≠ (.slice Ao36 y325.length co36 : Value).ownBlock)) (by (with_reducible repeat (first | apply Kd.R_alloc | apply Kd.R_drewN | apply Kd.R_drew));exact Kd.R_mono HO_3.out (fun _ hk => ⟨hk.2,hk.1⟩)) hg hat)
        have n1_ := Yd (Kd.R_after (ok := (fun k_ => some k_ ≠ (.slice (some ad311) x3_1.length co24 : Value).ownBlock)) (by (with_reducible repeat (first | apply Kd.R_alloc | apply Kd.R_drewN | apply Kd.R_drew));exact Kd.R_mono HO327.out (fun _ hk => ⟨hk.2,hk.1⟩)) hg hat)
        have n2_ := Yd (hb)
        have n3_ := Yd ((show Kd.C (Kd.int .i64) w35 A28 y331.length y331 from by rw [Ny331.out,KA28.out];exact Kd.C_drop (m := (x5_2 : Int).toNat) (c := co24) ((Kd.R_reads' (Kd.R_after (ok := (fun k_ => some k_ ≠ (.slice Ao36 y325.length co36 : Value).ownBlock)) (by (with_reducible repeat (first | apply Kd.R_alloc | apply Kd.R_drewN | apply Kd.R_drew));exact Kd.R_mono HO_3.out (fun _ hk => ⟨hk.2,hk.1⟩)) hg hat)).2.2) KL28.out ((Kd.R_reads' (Kd.R_after (ok := (fun k_ => some k_ ≠ (.slice Ao36 y325.length co36 : Value).ownBlock)) (by (with_reducible repeat (first | apply Kd.R_alloc | apply Kd.R_drewN | apply Kd.R_drew));exact Kd.R_mono HO_3.out (fun _ hk => ⟨hk.2,hk.1⟩)) hg hat)).2.1)))
        have n4_ := Yd (ho)
        clear HO_3
        clear HO327
        clear HB
        clear HR334
        clear HO324
        have HO_3 := n0_
        have HO327 := n1_
        have HB := n2_
        have HR334 := n3_
        have HO330 := n4_
        clear n0_ n1_ n2_ n3_ n4_
        clear ho hb hg hat
        refine hK.out _ _ trivial (fun hHeld => ?_)
        clear hK K
        refine norm_ (a' := ?_) ?_ ?_
        rotate_left
        ·show Act.put _ (some 40) _ = _
         simp only [Act.put,Ya,Yb,Yc,i64_w,i32_w]
         rfl
        refine one_ (i := 11) (N := some 44) #[YT,YT,YT,YT,YT,YT,YT,YT,YT,YT,YT,YT,YF] rfl rfl (one_of HT_.out (by kernel_rfl)) (by decide) (fun K hK => ?_)
        refine Kd.R_append_rows_step (Kd.int .i64) (w0 := w) w.heap.size (by rfl) (.tmp 40) (.tmp 43) 44 3 (.int .i64 0) 8 rfl Try.underlying44 info3 rfl (by decide) (by omega) v329 y328 y331 _ _ _ (fun k_ => some k_ ≠ (.slice (some ad311) x3_1.length co24 : Value).ownBlock ∧ some k_ ≠ (.slice Ao36 y325.length co36 : Value).ownBlock) (fun _ => False) rfl rfl ?aO ?aR (fun _ _ h => h) (fun _ h => h.elim) ?aF ?aB ?aS ?aL ?_
        (case aR => repeat (first | exact (by repeat (first | (with_reducible exact HR334.out) | (with_reducible refine Kd.C_alloc ?_ _) | (with_reducible refine Kd.C_drewN ?_ _) | (with_reducible refine Kd.C_drew ?_) | exact HR334.out)) | (with_reducible refine Kd.C_alloc ?_ _) | (with_reducible refine Kd.C_drewN ?_ _) | (with_reducible refine Kd.C_drew ?_)))
        (case aB => exact (Y3 HB.out))
        (case aF => exact (fun k_ hk => ⟨Kd.fresh' (Kd.R_lt (Y5 HO_3.out)) k_ hk,Kd.fresh' (Kd.R_lt (Y5 HO327.out)) k_ hk⟩))
        (case aO => exact (Y5 HO330.out))
        (case aS => exact (below_size (Y3 HB.out)))
        (case aL => have := LMc22.out;omega)
        intro v336 w37 ho hb hg hat
        rw [← Ny335.out] at ho
        have n0_ := Yd (Kd.R_after (ok := (fun k_ => some k_ ≠ (.slice Ao36 y325.length co36 : Value).ownBlock)) (Y5 HO_3.out) hg hat)
        have n1_ := Yd (Kd.R_after (ok := (fun k_ => some k_ ≠ (.slice (some ad311) x3_1.length co24 : Value).ownBlock)) (Y5 HO327.out) hg hat)
        have n2_ := Yd (hb)
        have n3_ := Yd ((show Kd.C (Kd.int .i64) w37 A28 y331.length y331 from by rw [Ny331.out,KA28.out];exact Kd.C_drop (m := (x5_2 : Int).toNat) (c := co24) ((Kd.R_reads' (Kd.R_after (ok := (fun k_ => some k_ ≠ (.slice Ao36 y325.length co36 : Value).ownBlock)) (Y5 HO_3.out) hg hat)).2.2) KL28.out ((Kd.R_reads' (Kd.R_after (ok := (fun k_ => some k_ ≠ (.slice Ao36 y325.length co36 : Value).ownBlock)) (Y5 HO_3.out) hg hat)).2.1)))
        have n4_ := Yd (ho)
        clear HO_3
        clear HO327
        clear HB
        clear HR334
        clear HO330
        have HO_3 := n0_
        have HO327 := n1_
        have HB := n2_
        have HR334 := n3_
        have HO337 := n4_
        clear n0_ n1_ n2_ n3_ n4_
        clear ho hb hg hat
        refine hK.out _ _ trivial (fun hHeld => ?_)
        clear hK K
        refine norm_ (a' := ?_) ?_ ?_
        rotate_left
        ·show Act.put _ (some 44) _ = _
         simp only [Act.put,Ya,Yb,Yc,i64_w,i32_w]
         rfl
        refine pure_ (i := 12) (N := some 3) (v := ?_) (a' := ?_) #[YT,YT,YT,YT,YT,YT,YT,YT,YT,YT,YT,YT,YT] rfl rfl (any_of HT_.out (by kernel_rfl)) (fun _ _ _ h => h) (Or.inl ⟨by rfl,?_⟩) ?_ ?_
        rotate_left
        ·intro w'
         go_simp
         with_reducible rfl
        rotate_left
        ·simp only [Act.put,Ya,Yb,Yc,i64_w,i32_w]
         rfl
        refine done_ (done_of HT_.out (by kernel_rfl)) ?_
        try go_wp2
        go_roundg k2
        case measure => have := HK1.out;have := HK2.out;omega
        case rel => exact ⟨(y335),(wrap64 (x4_1 + 1)),Y12,H',⟨by have := HK1.out;have := HK2.out;omega⟩,⟨by (with_reducible repeat (first | apply Kd.R_alloc | apply Kd.R_drewN | apply Kd.R_drew));exact Kd.R_mono HO337.out (fun _ hk => trivial)⟩,⟨Y3 HB.out⟩⟩
      ·rw [if_neg c5] at H
       have c5b0 : decide (x5_2 < (x3_1.length : Int)) = false := decide_eq_false c5
       clear c5
       obtain ⟨y338,hy338⟩ : ∃ y_ : List Int,y_ = (([] : List Int)) := ⟨_,rfl⟩
       replace H : (if 0 ≤ x5_2 then (if x5_2 ≤ (x3_1.length : Int) then ((some (x3_1.take (x5_2 : Int).toNat : List Int)).bind fun y341 => (if y338.length + y341.length < 17592186044416 then ((some (y338 ++ y341 : List Int)).bind fun y345 => ((some (([x4_1] : List Int) : List Int)).bind fun y348 => (if y345.length + y348.length < 17592186044416 then ((some (y345 ++ y348 : List Int)).bind fun y351 => ((some (x3_1.drop (x5_2 : Int).toNat : List Int)).bind fun y354 => (if y351.length + y354.length < 17592186044416 then (plenumref56_Order.l0 k2 l0 (y351 ++ y354) (wrap64 (x4_1 + 1))) else (none)))) else (none)))) else (none))) else (none)) else (none)) = some r := by first | (rw [hy338];with_reducible exact H) | (have H2_ := (Option.bind_some _ _).symm.trans H;rw [hy338];with_reducible exact H2_) | (have H2_ := (Option.bind_some _ _).symm.trans H;with_reducible exact H2_) | with_reducible exact H | (rw [hy338];exact H) | exact H
       have Ny338 := Yd hy338
       clear hy338
       by_cases c38 : 0 ≤ x5_2
       case neg => rw [if_neg c38] at H;exact absurd H (by simp)
       rw [if_pos c38] at H
       have c38b0 := eq_true c38
       have c38b1 : decide (0 ≤ x5_2) = true := decide_eq_true c38
       clear c38
       by_cases c39 : x5_2 ≤ (x3_1.length : Int)
       case neg => rw [if_neg c39] at H;exact absurd H (by simp)
       rw [if_pos c39] at H
       have c39b0 := eq_true c39
       have c39b1 : decide (x5_2 ≤ (x3_1.length : Int)) = true := decide_eq_true c39
       clear c39
       obtain ⟨y341,hy341⟩ : ∃ y_ : List Int,y_ = (x3_1.take (x5_2 : Int).toNat) := ⟨_,rfl⟩
       replace H : (if y338.length + y341.length < 17592186044416 then ((some (y338 ++ y341 : List Int)).bind fun y345 => ((some (([x4_1] : List Int) : List Int)).bind fun y348 => (if y345.length + y348.length < 17592186044416 then ((some (y345 ++ y348 : List Int)).bind fun y351 => ((some (x3_1.drop (x5_2 : Int).toNat : List Int)).bind fun y354 => (if y351.length + y354.length < 17592186044416 then (plenumref56_Order.l0 k2 l0 (y351 ++ y354) (wrap64 (x4_1 + 1))) else (none)))) else (none)))) else (none)) = some r := by first | (rw [hy341];with_reducible exact H) | (have H2_ := (Option.bind_some _ _).symm.trans H;rw [hy341];with_reducible exact H2_) | (have H2_ := (Option.bind_some _ _).symm.trans H;with_reducible exact H2_) | with_reducible exact H | (rw [hy341];exact H) | exact H
       have Ny341 := Yd hy341
       clear hy341
       by_cases c40 : y338.length + y341.length < 17592186044416
       case neg => rw [if_neg c40] at H;exact absurd H (by simp)
       rw [if_pos c40] at H
       have LMc40 := Yd c40
       clear c40
       obtain ⟨y345,hy345⟩ : ∃ y_ : List Int,y_ = (y338 ++ y341) := ⟨_,rfl⟩
       replace H : ((some (([x4_1] : List Int) : List Int)).bind fun y348 => (if y345.length + y348.length < 17592186044416 then ((some (y345 ++ y348 : List Int)).bind fun y351 => ((some (x3_1.drop (x5_2 : Int).toNat : List Int)).bind fun y354 => (if y351.length + y354.length < 17592186044416 then (plenumref56_Order.l0 k2 l0 (y351 ++ y354) (wrap64 (x4_1 + 1))) else (none)))) else (none))) = some r := by first | (rw [hy345];with_reducible exact H) | (have H2_ := (Option.bind_some _ _).symm.trans H;rw [hy345];with_reducible exact H2_) | (have H2_ := (Option.bind_some _ _).symm.trans H;with_reducible exact H2_) | with_reducible exact H | (rw [hy345];exact H) | exact H
       have Ny345 := Yd hy345
       clear hy345
       obtain ⟨y348,hy348⟩ : ∃ y_ : List Int,y_ = (([x4_1] : List Int)) := ⟨_,rfl⟩
       replace H : (if y345.length + y348.length < 17592186044416 then ((some (y345 ++ y348 : List Int)).bind fun y351 => ((some (x3_1.drop (x5_2 : Int).toNat : List Int)).bind fun y354 => (if y351.length + y354.length < 17592186044416 then (plenumref56_Order.l0 k2 l0 (y351 ++ y354) (wrap64 (x4_1 + 1))) else (none)))) else (none)) = some r := by first | (rw [hy348];with_reducible exact H) | (have H2_ := (Option.bind_some _ _).symm.trans H;rw [hy348];with_reducible exact H2_) | (have H2_ := (Option.bind_some _ _).symm.trans H;with_reducible exact H2_) | with_reducible exact H | (rw [hy348];exact H) | exact H
       have Ny348 := Yd hy348
       clear hy348
       by_cases c41 : y345.length + y348.length < 17592186044416
       case neg => rw [if_neg c41] at H;exact absurd H (by simp)
       rw [if_pos c41] at H
       have LMc41 := Yd c41
       clear c41
       obtain ⟨y351,hy351⟩ : ∃ y_ : List Int,y_ = (y345 ++ y348) := ⟨_,rfl⟩
       replace H : ((some (x3_1.drop (x5_2 : Int).toNat : List Int)).bind fun y354 => (if y351.length + y354.length < 17592186044416 then (plenumref56_Order.l0 k2 l0 (y351 ++ y354) (wrap64 (x4_1 + 1))) else (none))) = some r := by first | (rw [hy351];with_reducible exact H) | (have H2_ := (Option.bind_some _ _).symm.trans H;rw [hy351];with_reducible exact H2_) | (have H2_ := (Option.bind_some _ _).symm.trans H;with_reducible exact H2_) | with_reducible exact H | (rw [hy351];exact H) | exact H
       have Ny351 := Yd hy351
       clear hy351
       have c42b0 := eq_true (Y9 : 0 ≤ x5_2)
       have c43b0 := eq_true (Y9 : x5_2 ≤ (x3_1.length : Int))
       obtain ⟨y354,hy354⟩ : ∃ y_ : List Int,y_ = (x3_1.drop (x5_2 : Int).toNat) := ⟨_,rfl⟩
       replace H : (if y351.length + y354.length < 17592186044416 then (plenumref56_Order.l0 k2 l0 (y351 ++ y354) (wrap64 (x4_1 + 1))) else (none)) = some r := by first | (rw [hy354];with_reducible exact H) | (have H2_ := (Option.bind_some _ _).symm.trans H;rw [hy354];with_reducible exact H2_) | (have H2_ := (Option.bind_some _ _).symm.trans H;with_reducible exact H2_) | with_reducible exact H | (rw [hy354];exact H) | exact H
       have Ny354 := Yd hy354
       clear hy354
       by_cases c44 : y351.length + y354.length < 17592186044416
       case neg => rw [if_neg c44] at H;exact absurd H (by simp)
       rw [if_pos c44] at H
       have LMc44 := Yd c44
       clear c44
       obtain ⟨y358,hy358⟩ : ∃ y_ : List Int,y_ = (y351 ++ y354) := ⟨_,rfl⟩
       replace H : (plenumref56_Order.l0 k2 l0 y358 (wrap64 (x4_1 + 1))) = some r := by first | (rw [hy358];with_reducible exact H) | (have H2_ := (Option.bind_some _ _).symm.trans H;rw [hy358];with_reducible exact H2_) | (have H2_ := (Option.bind_some _ _).symm.trans H;with_reducible exact H2_) | with_reducible exact H | (rw [hy358];exact H) | exact H
       have Ny358 := Yd hy358
       clear hy358
       have H' := Yd H
       clear H
       try go_wp2
       have n0_ := Yd (Kd.R_drew HO_3.out)
       have n1_ := Yd (below_drew1 HB.out)
       clear HO_3
       clear HB
       have HO_3 := n0_
       have HB := n1_
       clear n0_ n1_
       obtain ⟨Ao46,co46,eo46⟩ := Kd.R_slice HO_3.out
       (first | subst eo46 | (injection eo46 with f1_ f2_ f3_;have f4_ := f1_.symm;have f5_ := f3_.symm;clear f1_ f2_ f3_;subst f4_;subst f5_))
       refine start_ (n := 18) (S := fun w' => True) (ds := []) #[YF,YF,YF,YF,YF,YF,YF,YF,YF,YF,YF,YF,YF,YF,YF,YF,YF,YF] (by kernel_rfl) rfl rfl trivial (fun hHeld => ?_);refine with_tabW plenumref56_Order.tab6 plenumref56_Order.bits6 (fun HT_ HW_ => ?_)
       generalize wr.drew = w45 at HO_3 HB hHeld ⊢
       refine pure_ (i := 0) (N := some 13) (v := ?_) (a' := ?_) #[YT,YF,YF,YF,YF,YF,YF,YF,YF,YF,YF,YF,YF,YF,YF,YF,YF,YF] rfl rfl (any_of HT_.out (by kernel_rfl)) (fun _ _ _ h => h) (Or.inl ⟨by rfl,?_⟩) ?_ ?_
       rotate_left
       ·intro w'
        go_simp
        with_reducible rfl
       rotate_left
       ·simp only [Act.put,Ya,Yb,Yc,i64_w,i32_w]
        rfl
       refine pure_ (i := 1) (N := some 14) (v := ?_) (a' := ?_) #[YT,YT,YF,YF,YF,YF,YF,YF,YF,YF,YF,YF,YF,YF,YF,YF,YF,YF] rfl rfl (any_of HT_.out (by kernel_rfl)) (fun _ _ _ h => h) (Or.inl ⟨by rfl,?_⟩) ?_ ?_
       rotate_left
       ·intro w'
        go_simp
        with_reducible rfl
       rotate_left
       ·simp only [Act.put,Ya,Yb,Yc,i64_w,i32_w]
        rfl
       refine pure_ (i := 2) (N := some 15) (v := ?_) (a' := ?_) #[YT,YT,YT,YF,YF,YF,YF,YF,YF,YF,YF,YF,YF,YF,YF,YF,YF,YF] rfl rfl (any_of HT_.out (by kernel_rfl)) (fun _ _ _ h => h) (Or.inl ⟨by rfl,?_⟩) ?_ ?_
       rotate_left
       ·intro w'
        go_simp
        with_reducible rfl
       rotate_left
       ·simp only [Act.put,Ya,Yb,Yc,i64_w,i32_w]
        rfl
       refine pure_ (i := 3) (N := some 16) (v := ?_) (a' := ?_) #[YT,YT,YT,YT,YF,YF,YF,YF,YF,YF,YF,YF,YF,YF,YF,YF,YF,YF] rfl rfl (any_of HT_.out (by kernel_rfl)) (fun _ _ _ h => h) (Or.inl ⟨by rfl,?_⟩) ?_ ?_
       rotate_left
       ·intro w'
        go_simp
        with_reducible rfl
       rotate_left
       ·simp only [Act.put,Ya,Yb,Yc,i64_w,i32_w]
        rfl
       refine pure_ (i := 4) (N := some 17) (v := ?_) (a' := ?_) #[YT,YT,YT,YT,YT,YF,YF,YF,YF,YF,YF,YF,YF,YF,YF,YF,YF,YF] rfl rfl (any_of HT_.out (by kernel_rfl)) (fun _ _ _ h => h) (Or.inl ⟨by rfl,?_⟩) ?_ ?_
       rotate_left
       ·intro w'
        go_simp
        with_reducible rfl
       rotate_left
       ·simp only [Act.put,Ya,Yb,Yc,i64_w,i32_w]
        rfl
       refine pure_ (i := 5) (N := some 18) (v := undef) (a' := ?_) #[YT,YT,YT,YT,YT,YT,YF,YF,YF,YF,YF,YF,YF,YF,YF,YF,YF,YF] rfl rfl (any_of HT_.out (by kernel_rfl)) (fun _ _ _ h => h) (Or.inr ⟨by rfl,rfl⟩) ?_ ?_
       rotate_left
       ·simp only [Act.put,Ya,Yb,Yc,i64_w,i32_w]
        rfl
       refine pure_ (i := 6) (N := some 19) (v := undef) (a' := ?_) #[YT,YT,YT,YT,YT,YT,YT,YF,YF,YF,YF,YF,YF,YF,YF,YF,YF,YF] rfl rfl (any_of HT_.out (by kernel_rfl)) (fun _ _ _ h => h) (Or.inr ⟨by rfl,rfl⟩) ?_ ?_
       rotate_left
       ·simp only [Act.put,Ya,Yb,Yc,i64_w,i32_w]
        rfl
       refine pure_ (i := 7) (N := some 20) (v := undef) (a' := ?_) #[YT,YT,YT,YT,YT,YT,YT,YT,YF,YF,YF,YF,YF,YF,YF,YF,YF,YF] rfl rfl (any_of HT_.out (by kernel_rfl)) (fun _ _ _ h => h) (Or.inr ⟨by rfl,rfl⟩) ?_ ?_
       rotate_left
       ·simp only [Act.put,Ya,Yb,Yc,i64_w,i32_w]
        rfl
       refine pure_ (i := 8) (N := some 21) (v := undef) (a' := ?_) #[YT,YT,YT,YT,YT,YT,YT,YT,YT,YF,YF,YF,YF,YF,YF,YF,YF,YF] rfl rfl (any_of HT_.out (by kernel_rfl)) (fun _ _ _ h => h) (Or.inr ⟨by rfl,rfl⟩) ?_ ?_
       rotate_left
       ·simp only [Act.put,Ya,Yb,Yc,i64_w,i32_w]
        rfl
       refine pure_ (i := 9) (N := some 22) (v := undef) (a' := ?_) #[YT,YT,YT,YT,YT,YT,YT,YT,YT,YT,YF,YF,YF,YF,YF,YF,YF,YF] rfl rfl (any_of HT_.out (by kernel_rfl)) (fun _ _ _ h => h) (Or.inr ⟨by rfl,rfl⟩) ?_ ?_
       rotate_left
       ·simp only [Act.put,Ya,Yb,Yc,i64_w,i32_w]
        rfl
       refine pure_ (i := 10) (N := some 23) (v := undef) (a' := ?_) #[YT,YT,YT,YT,YT,YT,YT,YT,YT,YT,YT,YF,YF,YF,YF,YF,YF,YF] rfl rfl (any_of HT_.out (by kernel_rfl)) (fun _ _ _ h => h) (Or.inr ⟨by rfl,rfl⟩) ?_ ?_
       rotate_left
       ·simp only [Act.put,Ya,Yb,Yc,i64_w,i32_w]
        rfl
       refine pure_ (i := 11) (N := some 24) (v := undef) (a' := ?_) #[YT,YT,YT,YT,YT,YT,YT,YT,YT,YT,YT,YT,YF,YF,YF,YF,YF,YF] rfl rfl (any_of HT_.out (by kernel_rfl)) (fun _ _ _ h => h) (Or.inr ⟨by rfl,rfl⟩) ?_ ?_
       rotate_left
       ·simp only [Act.put,Ya,Yb,Yc,i64_w,i32_w]
        rfl
       refine pure_ (i := 12) (N := some 25) (v := undef) (a' := ?_) #[YT,YT,YT,YT,YT,YT,YT,YT,YT,YT,YT,YT,YT,YF,YF,YF,YF,YF] rfl rfl (any_of HT_.out (by kernel_rfl)) (fun _ _ _ h => h) (Or.inr ⟨by rfl,rfl⟩) ?_ ?_
       rotate_left
       ·simp only [Act.put,Ya,Yb,Yc,i64_w,i32_w]
        rfl
       refine pure_ (i := 13) (N := some 26) (v := undef) (a' := ?_) #[YT,YT,YT,YT,YT,YT,YT,YT,YT,YT,YT,YT,YT,YT,YF,YF,YF,YF] rfl rfl (any_of HT_.out (by kernel_rfl)) (fun _ _ _ h => h) (Or.inr ⟨by rfl,rfl⟩) ?_ ?_
       rotate_left
       ·simp only [Act.put,Ya,Yb,Yc,i64_w,i32_w]
        rfl
       refine pure_ (i := 14) (N := some 27) (v := undef) (a' := ?_) #[YT,YT,YT,YT,YT,YT,YT,YT,YT,YT,YT,YT,YT,YT,YT,YF,YF,YF] rfl rfl (any_of HT_.out (by kernel_rfl)) (fun _ _ _ h => h) (Or.inr ⟨by rfl,rfl⟩) ?_ ?_
       rotate_left
       ·simp only [Act.put,Ya,Yb,Yc,i64_w,i32_w]
        rfl
       refine pure_ (i := 15) (N := some 28) (v := undef) (a' := ?_) #[YT,YT,YT,YT,YT,YT,YT,YT,YT,YT,YT,YT,YT,YT,YT,YT,YF,YF] rfl rfl (any_of HT_.out (by kernel_rfl)) (fun _ _ _ h => h) (Or.inr ⟨by rfl,rfl⟩) ?_ ?_
       rotate_left
       ·simp only [Act.put,Ya,Yb,Yc,i64_w,i32_w]
        rfl
       refine pure_ (i := 16) (N := some 29) (v := undef) (a' := ?_) #[YT,YT,YT,YT,YT,YT,YT,YT,YT,YT,YT,YT,YT,YT,YT,YT,YT,YF] rfl rfl (any_of HT_.out (by kernel_rfl)) (fun _ _ _ h => h) (Or.inr ⟨by rfl,rfl⟩) ?_ ?_
       rotate_left
       ·simp only [Act.put,Ya,Yb,Yc,i64_w,i32_w]
        rfl
       refine pure_ (i := 17) (N := some 30) (v := ?_) (a' := ?_) #[YT,YT,YT,YT,YT,YT,YT,YT,YT,YT,YT,YT,YT,YT,YT,YT,YT,YT] rfl rfl (any_of HT_.out (by kernel_rfl)) (fun _ _ _ h => h) (Or.inl ⟨by rfl,?_⟩) ?_ ?_
       rotate_left
       ·intro w'
        go_simp
        with_reducible rfl
       rotate_left
       ·simp only [Act.put,Ya,Yb,Yc,i64_w,i32_w]
        rfl
       refine done_ (done_of HT_.out (by kernel_rfl)) ?_
       try go_wp2
       have n0_ := Yd (Kd.R_drew HO_3.out)
       have n1_ := Yd (below_drew1 HB.out)
       clear HO_3
       clear HB
       have HO_3 := n0_
       have HB := n1_
       clear n0_ n1_
       have q48 : (x5_2 : Int) ≤ ((x3_1.length : Int) : Int) := Y9
       obtain ⟨i048,hi048,_,hsz48,_⟩ := info_parts info3
       have hroom48 : x3_1.length ≤ co46 := (Kd.R_reads' HO_3.out).2.1
       have hC48 : Kd.C (Kd.int .i64) _ Ao46 x3_1.length x3_1 := (Kd.R_reads' HO_3.out).2.2
       have hcut48 := cut_to (P := Try.prog) 44 3 .i64 Try.underlying44 hi048 Ao46 x3_1.length co46 x5_2 (Y9) q48 hroom48
       have hr48 := Kd.C_take (m := (x5_2 : Int).toNat) hC48 (by omega)
       have hy48 : y341.length = (x5_2 : Int).toNat := (by rw [Ny341.out,List.length_take];omega)
       rw [← Ny341.out] at hr48
       rw [← hy48] at hcut48
       have HR344 := Yd hr48
       have HC344 := Yd (show y341.length ≤ co46 from by omega)
       clear hr48 hC48 hroom48 hi048 hsz48
       have KY48 := Yd hy48
       clear hy48
       have KL48 := Yd (show (x5_2 : Int).toNat ≤ x3_1.length from by omega)
       replace q48 := eq_true q48
       have q49 : (x5_2 : Int) ≤ ((x3_1.length : Int) : Int) := Y9
       obtain ⟨i049,hi049,_,hsz49,_⟩ := info_parts info3
       have hroom49 : x3_1.length ≤ co46 := (Kd.R_reads' HO_3.out).2.1
       have hC49 : Kd.C (Kd.int .i64) _ Ao46 x3_1.length x3_1 := (Kd.R_reads' HO_3.out).2.2
       have q049 : (0 : Int) ≤ (x5_2 : Int) := Y9
       have hcut49 := cut_from (P := Try.prog) 44 3 .i64 Try.underlying44 hi049 1 hsz49 Ao46 x3_1.length co46 x5_2 q049 q49
       have hr49 := Kd.C_drop (m := (x5_2 : Int).toNat) (c := co46) hC49 (by omega) hroom49
       obtain ⟨A49,hA49⟩ : ∃ A1,A1 = (if co46 = (x5_2 : Int).toNat then Ao46 else (Ao46 : Option Addr).map (·.add ((x5_2 : Int).toNat * 1))) := ⟨_,rfl⟩
       obtain ⟨c49,hc49⟩ : ∃ c1,c1 = co46 - (x5_2 : Int).toNat := ⟨_,rfl⟩
       have hy49 : y354.length = x3_1.length - (x5_2 : Int).toNat := (by rw [Ny354.out,List.length_drop] <;> omega)
       rw [show (x3_1).drop (x5_2 : Int).toNat = y354 from Ny354.out.symm] at hr49
       replace hr49 : Kd.C (Kd.int .i64) _ A49 y354.length y354 := (by rw [hA49];exact hr49)
       rw [← hy49,← hA49,← hc49] at hcut49
       have HR357 := Yd hr49
       have HC357 := Yd (show y354.length ≤ c49 from by rw [hy49,hc49];exact Nat.sub_le_sub_right hroom49 _)
       clear hr49 hC49 hroom49 hi049 hsz49 hc49
       have KY49 := Yd hy49
       have KA49 := Yd hA49
       clear hy49 hA49
       have KL49 := Yd (show (x5_2 : Int).toNat ≤ x3_1.length from by omega)
       replace q49 := eq_true q49
       refine start_ (n := 13) (S := fun w' => True) (ds := []) #[YF,YF,YF,YF,YF,YF,YF,YF,YF,YF,YF,YF,YF] (by kernel_rfl) rfl rfl trivial (fun hHeld => ?_);refine with_tabW plenumref56_Order.tab8 plenumref56_Order.bits8 (fun HT_ HW_ => ?_)
       generalize w45.drew = w47 at HO_3 HB HR344 HR357 hHeld ⊢
       refine pure_ (i := 1) (N := some 34) (v := ?_) (a' := ?_) #[YF,YT,YF,YF,YF,YF,YF,YF,YF,YF,YF,YF,YF] rfl rfl (any_of HT_.out (by kernel_rfl)) (fun _ _ _ h => h) (Or.inl ⟨by rfl,?_⟩) ?_ ?_
       rotate_left
       ·intro w'
        go_simp
        with_reducible rfl
       rotate_left
       ·simp only [Act.put,Ya,Yb,Yc,i64_w,i32_w]
        rfl
       refine pure_ (i := 2) (N := some 35) (v := ?_) (a' := ?_) #[YF,YT,YT,YF,YF,YF,YF,YF,YF,YF,YF,YF,YF] rfl rfl (any_of HT_.out (by kernel_rfl)) (fun _ _ _ h => h) (Or.inl ⟨by rfl,?_⟩) ?_ ?_
       rotate_left
       ·intro w'
        go_simp
        with_reducible rfl
       rotate_left
       ·simp only [Act.put,Ya,Yb,Yc,i64_w,i32_w]
        rfl
       refine pure_ (i := 3) (N := some 36) (v := ?_) (a' := ?_) #[YF,YT,YT,YT,YF,YF,YF,YF,YF,YF,YF,YF,YF] rfl rfl (any_of HT_.out (by kernel_rfl)) (fun _ _ _ h => h) (Or.inl ⟨by rfl,?_⟩) ?_ ?_
       rotate_left
       ·intro w'
        go_simp
        with_reducible rfl
       rotate_left
       ·simp only [Act.put,Ya,Yb,Yc,i64_w,i32_w]
        rfl
       refine pure_ (i := 5) (N := some 38) (v := ?_) (a' := ?_) #[YF,YT,YT,YT,YF,YT,YF,YF,YF,YF,YF,YF,YF] rfl rfl (any_of HT_.out (by kernel_rfl)) (fun _ _ _ h => h) (Or.inl ⟨by rfl,?_⟩) ?_ ?_
       rotate_left
       ·intro w'
        go_simp
        with_reducible rfl
       rotate_left
       ·simp only [Act.put,Ya,Yb,Yc,i64_w,i32_w]
        rfl
       refine pure_ (i := 8) (N := some 41) (v := ?_) (a' := ?_) #[YF,YT,YT,YT,YF,YT,YF,YF,YT,YF,YF,YF,YF] rfl rfl (any_of HT_.out (by kernel_rfl)) (fun _ _ _ h => h) (Or.inl ⟨by rfl,?_⟩) ?_ ?_
       rotate_left
       ·intro w'
        go_simp
        with_reducible rfl
       rotate_left
       ·simp only [Act.put,Ya,Yb,Yc,i64_w,i32_w]
        rfl
       refine pure_ (i := 9) (N := some 42) (v := ?_) (a' := ?_) #[YF,YT,YT,YT,YF,YT,YF,YF,YT,YT,YF,YF,YF] rfl rfl (any_of HT_.out (by kernel_rfl)) (fun _ _ _ h => h) (Or.inl ⟨by rfl,?_⟩) ?_ ?_
       rotate_left
       ·intro w'
        go_simp
        with_reducible rfl
       rotate_left
       ·simp only [Act.put,Ya,Yb,Yc,i64_w,i32_w]
        rfl
       refine pure_ (i := 10) (N := some 43) (v := ?_) (a' := ?_) #[YF,YT,YT,YT,YF,YT,YF,YF,YT,YT,YT,YF,YF] rfl rfl (any_of HT_.out (by kernel_rfl)) (fun _ _ _ h => h) (Or.inl ⟨by rfl,?_⟩) ?_ ?_
       rotate_left
       ·intro w'
        go_simp
        with_reducible rfl
       rotate_left
       ·simp only [Act.put,Ya,Yb,Yc,i64_w,i32_w]
        rfl
       refine join_ (σ := Value × Value × Value) 3 #[YT,YT,YT,YT,YT,YT,YT,YF,YT,YT,YT,YF,YF] (fun s_ => [(33,s_.1),(37,s_.2.1),(39,s_.2.2)]) (fun s_ w' => (Kd.R (Kd.int .i64) 3 w' w.heap.size (fun k_ => some k_ ≠ (s_.2.2 : Value).ownBlock ∧ some k_ ≠ (.slice Ao46 x3_1.length co46 : Value).ownBlock) s_.2.1 y345) ∧ (Kd.R (Kd.int .i64) 3 w' w.heap.size (fun k_ => some k_ ≠ (s_.2.1 : Value).ownBlock ∧ some k_ ≠ (.slice Ao46 x3_1.length co46 : Value).ownBlock) s_.2.2 y348) ∧ (Kd.R (Kd.int .i64) 3 w' w.heap.size (fun k_ => some k_ ≠ (s_.2.1 : Value).ownBlock ∧ some k_ ≠ (s_.2.2 : Value).ownBlock) (.slice Ao46 x3_1.length co46) x3_1) ∧ (Below w.heap.size w w')) ?_ ?_
       rotate_left
       ·intro hCont
        refine two_ (i := 0) (j := 6) (Ni := some 33) (Nj := some 39) #[YT,YT,YT,YT,YF,YT,YF,YF,YT,YT,YT,YF,YF] #[YF,YT,YT,YT,YF,YT,YT,YF,YT,YT,YT,YF,YF] rfl rfl rfl rfl (two_of HT_.out (by kernel_rfl)) (by decide) (by decide) (fun K hK => ?_) (fun K hK => ?_)
        ·skip
         refine Kd.R_lit_step (Kd.int .i64) _ 3 ?hg (N := 33) ?hd (xs := ([] : List Int)) (inner := []) (ok := fun _ => True) (okp := fun _ => True) ?hr ?hp (fun _ hk => hk) trivial (Below.refl _ _) (Nat.le_refl _) (by simp) ?_;(case hd => rfl);(case hg => rfl);(case hr => first | (go_simp;done) | (go_simp;rfl));(case hp => exact (Reps.none _ _))
         intro v339 w50 ho51 hb hg_ hnew_
         clear hg_ hnew_
         (first | rw [← Ny338.out] at ho51 | (simp only [Int.reduceToNat] at ho51;rw [← Ny338.out] at ho51))
         have n0_ := Yd (Kd.R_elder' (Y5 HO_3.out) (Kd.R_base ho51) hb)
         have n1_ := Yd (Kd.R_lower (Kd.R_new' ho51 (Kd.R_lt (Y5 HO_3.out))) (below_size (Y3 HB.out)))
         have n2_ := Yd (Kd.C_below (by repeat (first | (with_reducible exact HR344.out) | (with_reducible refine Kd.C_alloc ?_ _) | (with_reducible refine Kd.C_drewN ?_ _) | (with_reducible refine Kd.C_drew ?_) | exact HR344.out)) hb)
         have n3_ := Yd (Kd.C_below (by repeat (first | (with_reducible exact HR357.out) | (with_reducible refine Kd.C_alloc ?_ _) | (with_reducible refine Kd.C_drewN ?_ _) | (with_reducible refine Kd.C_drew ?_) | exact HR357.out)) hb)
         have n4_ := Yd (below_step (Y3 HB.out) hb)
         clear HO_3
         clear HR344
         clear HR357
         clear HB
         have HO_3 := n0_
         have HO340 := n1_
         have HR344 := n2_
         have HR357 := n3_
         have HB := n4_
         clear n0_ n1_ n2_ n3_ n4_
         clear hb ho51
         refine hK.out _ _ trivial (fun hHeld => ?_)
         clear hK K
         refine norm_ (a' := ?_) ?_ ?_
         rotate_left
         ·show Act.put _ (some 33) _ = _
          simp only [Act.put,Ya,Yb,Yc,i64_w,i32_w]
          rfl
         refine two_ (i := 4) (j := 6) (Ni := some 37) (Nj := some 39) #[YT,YT,YT,YT,YT,YT,YF,YF,YT,YT,YT,YF,YF] #[YT,YT,YT,YT,YF,YT,YT,YF,YT,YT,YT,YF,YF] rfl rfl rfl rfl (two_of HT_.out (by kernel_rfl)) (by decide) (by decide) (fun K hK => ?_) (fun K hK => ?_)
         ·skip
          refine Kd.R_append_rows_step (Kd.int .i64) (w0 := w) w.heap.size (by rfl) (.tmp 33) (.tmp 36) 44 3 (.int .i64 0) 8 rfl Try.underlying44 info3 rfl (by decide) (by omega) v339 y338 y341 _ _ _ (fun k_ => some k_ ≠ (.slice Ao46 x3_1.length co46 : Value).ownBlock) (fun _ => False) rfl rfl ?aO ?aR (fun _ _ h => h) (fun _ h => h.elim) ?aF ?aB ?aS ?aL ?_
          (case aR => repeat (first | exact (by repeat (first | (with_reducible exact HR344.out) | (with_reducible refine Kd.C_alloc ?_ _) | (with_reducible refine Kd.C_drewN ?_ _) | (with_reducible refine Kd.C_drew ?_) | exact HR344.out)) | (with_reducible refine Kd.C_alloc ?_ _) | (with_reducible refine Kd.C_drewN ?_ _) | (with_reducible refine Kd.C_drew ?_)))
          (case aB => exact (Y3 HB.out))
          (case aF => exact (fun k_ hk => Kd.fresh' (Kd.R_lt (Y5 HO_3.out)) k_ hk))
          (case aO => exact (by (with_reducible repeat (first | apply Kd.R_alloc | apply Kd.R_drewN | apply Kd.R_drew));exact Kd.R_mono HO340.out (fun _ hk => hk.2)))
          (case aS => exact (below_size (Y3 HB.out)))
          (case aL => have := LMc40.out;omega)
          intro v346 w52 ho hb hg hat
          rw [← Ny345.out] at ho
          have n0_ := Yd (Kd.R_after (ok := (fun _ => True)) (Y5 HO_3.out) hg hat)
          have n1_ := Yd (hb)
          have n2_ := Yd ((show Kd.C (Kd.int .i64) w52 Ao46 y341.length y341 from by rw [Ny341.out];exact Kd.C_take (m := (x5_2 : Int).toNat) ((Kd.R_reads' (Kd.R_after (ok := (fun _ => True)) (Y5 HO_3.out) hg hat)).2.2) KL48.out))
          have n3_ := Yd ((show Kd.C (Kd.int .i64) w52 A49 y354.length y354 from by rw [Ny354.out,KA49.out];exact Kd.C_drop (m := (x5_2 : Int).toNat) (c := co46) ((Kd.R_reads' (Kd.R_after (ok := (fun _ => True)) (Y5 HO_3.out) hg hat)).2.2) KL49.out ((Kd.R_reads' (Kd.R_after (ok := (fun _ => True)) (Y5 HO_3.out) hg hat)).2.1)))
          have n4_ := Yd (ho)
          clear HO_3
          clear HB
          clear HR344
          clear HR357
          clear HO340
          have HO_3 := n0_
          have HB := n1_
          have HR344 := n2_
          have HR357 := n3_
          have HO347 := n4_
          clear n0_ n1_ n2_ n3_ n4_
          clear ho hb hg hat
          refine hK.out _ _ trivial (fun hHeld => ?_)
          clear hK K
          refine norm_ (a' := ?_) ?_ ?_
          rotate_left
          ·show Act.put _ (some 37) _ = _
           simp only [Act.put,Ya,Yb,Yc,i64_w,i32_w]
           rfl
          refine one_ (i := 6) (N := some 39) #[YT,YT,YT,YT,YT,YT,YT,YF,YT,YT,YT,YF,YF] rfl rfl (one_of HT_.out (by kernel_rfl)) (by decide) (fun K hK => ?_)
          refine Kd.R_lit_step (Kd.int .i64) _ 3 ?hg (N := 39) ?hd (xs := ([x4_1] : List Int)) (inner := [.int .i64 x4_1]) (ok := fun _ => True) (okp := fun _ => True) ?hr ?hp (fun _ hk => hk) trivial (Below.refl _ _) (Nat.le_refl _) (by simp) ?_;(case hd => rfl);(case hg => rfl);(case hr => first | (go_simp;done) | (go_simp;rfl));(case hp => exact (Reps.one (show Kd.M (Kd.int .i64) _ _ _ x4_1 [.int .i64 x4_1] from rfl) (Reps.none _ _)))
          intro v349 w53 ho54 hb hg_ hnew_
          clear hg_ hnew_
          (first | rw [← Ny348.out] at ho54 | (simp only [Int.reduceToNat] at ho54;rw [← Ny348.out] at ho54))
          have n0_ := Yd (Kd.R_elder' (Y5 HO_3.out) (Kd.R_base ho54) hb)
          have n1_ := Yd (Kd.R_elder' (Y5 HO347.out) (Kd.R_base ho54) hb)
          have n2_ := Yd (Kd.R_lower (Kd.R_new' (Kd.R_new' ho54 (Kd.R_lt (Y5 HO_3.out))) (Kd.R_lt (Y5 HO347.out))) (below_size (Y3 HB.out)))
          have n3_ := Yd (Kd.C_below (by repeat (first | (with_reducible exact HR344.out) | (with_reducible refine Kd.C_alloc ?_ _) | (with_reducible refine Kd.C_drewN ?_ _) | (with_reducible refine Kd.C_drew ?_) | exact HR344.out)) hb)
          have n4_ := Yd (Kd.C_below (by repeat (first | (with_reducible exact HR357.out) | (with_reducible refine Kd.C_alloc ?_ _) | (with_reducible refine Kd.C_drewN ?_ _) | (with_reducible refine Kd.C_drew ?_) | exact HR357.out)) hb)
          have n5_ := Yd (below_step (Y3 HB.out) hb)
          clear HO_3
          clear HO347
          clear HR344
          clear HR357
          clear HB
          have HO_3 := n0_
          have HO347 := n1_
          have HO350 := n2_
          have HR344 := n3_
          have HR357 := n4_
          have HB := n5_
          clear n0_ n1_ n2_ n3_ n4_ n5_
          clear hb ho54
          refine hK.out _ _ trivial (fun hHeld => ?_)
          clear hK K
          refine norm_ (a' := ?_) ?_ ?_
          rotate_left
          ·show Act.put _ (some 39) _ = _
           simp only [Act.put,Ya,Yb,Yc,i64_w,i32_w]
           rfl
          exact norm_ (by simp only [putAll,Act.put,List.setIfInBounds_toArray,List.set_cons_zero,List.set_cons_succ]) (hCont (v339,v346,v349) _ ⟨(by (with_reducible repeat (first | apply Kd.R_alloc | apply Kd.R_drewN | apply Kd.R_drew));exact Kd.R_mono HO347.out (fun _ hk => ⟨hk.2,hk.1⟩)),(by (with_reducible repeat (first | apply Kd.R_alloc | apply Kd.R_drewN | apply Kd.R_drew));exact Kd.R_mono HO350.out (fun _ hk => ⟨hk.2,hk.1.2⟩)),(by (with_reducible repeat (first | apply Kd.R_alloc | apply Kd.R_drewN | apply Kd.R_drew));exact Kd.R_mono HO_3.out (fun _ hk => ⟨hk.1.2,hk.2⟩)),(Y3 HB.out)⟩)
         ·skip
          refine Kd.R_lit_step (Kd.int .i64) _ 3 ?hg (N := 39) ?hd (xs := ([x4_1] : List Int)) (inner := [.int .i64 x4_1]) (ok := fun _ => True) (okp := fun _ => True) ?hr ?hp (fun _ hk => hk) trivial (Below.refl _ _) (Nat.le_refl _) (by simp) ?_;(case hd => rfl);(case hg => rfl);(case hr => first | (go_simp;done) | (go_simp;rfl));(case hp => exact (Reps.one (show Kd.M (Kd.int .i64) _ _ _ x4_1 [.int .i64 x4_1] from rfl) (Reps.none _ _)))
          intro v349 w52 ho53 hb hg_ hnew_
          clear hg_ hnew_
          (first | rw [← Ny348.out] at ho53 | (simp only [Int.reduceToNat] at ho53;rw [← Ny348.out] at ho53))
          have n0_ := Yd (Kd.R_elder' (Y5 HO_3.out) (Kd.R_base ho53) hb)
          have n1_ := Yd (Kd.R_elder' (Y5 HO340.out) (Kd.R_base ho53) hb)
          have n2_ := Yd (Kd.R_lower (Kd.R_new' (Kd.R_new' ho53 (Kd.R_lt (Y5 HO_3.out))) (Kd.R_lt (Y5 HO340.out))) (below_size (Y3 HB.out)))
          have n3_ := Yd (Kd.C_below (by repeat (first | (with_reducible exact HR344.out) | (with_reducible refine Kd.C_alloc ?_ _) | (with_reducible refine Kd.C_drewN ?_ _) | (with_reducible refine Kd.C_drew ?_) | exact HR344.out)) hb)
          have n4_ := Yd (Kd.C_below (by repeat (first | (with_reducible exact HR357.out) | (with_reducible refine Kd.C_alloc ?_ _) | (with_reducible refine Kd.C_drewN ?_ _) | (with_reducible refine Kd.C_drew ?_) | exact HR357.out)) hb)
          have n5_ := Yd (below_step (Y3 HB.out) hb)
          clear HO_3
          clear HO340
          clear HR344
          clear HR357
          clear HB
          have HO_3 := n0_
          have HO340 := n1_
          have HO350 := n2_
          have HR344 := n3_
          have HR357 := n4_
          have HB := n5_
          clear n0_ n1_ n2_ n3_ n4_ n5_
          clear hb ho53
          refine hK.out _ _ trivial (fun hHeld => ?_)
          clear hK K
          refine norm_ (a' := ?_) ?_ ?_
          rotate_left
          ·show Act.put _ (some 39) _ = _
           simp only [Act.put,Ya,Yb,Yc,i64_w,i32_w]
           rfl
          refine one_ (i := 4) (N := some 37) #[YT,YT,YT,YT,YT,YT,YT,YF,YT,YT,YT,YF,YF] rfl rfl (one_of HT_.out (by kernel_rfl)) (by decide) (fun K hK => ?_)
          refine Kd.R_append_rows_step (Kd.int .i64) (w0 := w) w.heap.size (by rfl) (.tmp 33) (.tmp 36) 44 3 (.int .i64 0) 8 rfl Try.underlying44 info3 rfl (by decide) (by omega) v339 y338 y341 _ _ _ (fun k_ => some k_ ≠ (.slice Ao46 x3_1.length co46 : Value).ownBlock ∧ some k_ ≠ (v349 : Value).ownBlock) (fun _ => False) rfl rfl ?aO ?aR (fun _ _ h => h) (fun _ h => h.elim) ?aF ?aB ?aS ?aL ?_
          (case aR => repeat (first | exact (by repeat (first | (with_reducible exact HR344.out) | (with_reducible refine Kd.C_alloc ?_ _) | (with_reducible refine Kd.C_drewN ?_ _) | (with_reducible refine Kd.C_drew ?_) | exact HR344.out)) | (with_reducible refine Kd.C_alloc ?_ _) | (with_reducible refine Kd.C_drewN ?_ _) | (with_reducible refine Kd.C_drew ?_)))
          (case aB => exact (Y3 HB.out))
          (case aF => exact (fun k_ hk => ⟨Kd.fresh' (Kd.R_lt (Y5 HO_3.out)) k_ hk,Kd.fresh' (Kd.R_lt (Y5 HO350.out)) k_ hk⟩))
          (case aO => exact (by (with_reducible repeat (first | apply Kd.R_alloc | apply Kd.R_drewN | apply Kd.R_drew));exact Kd.R_mono HO340.out (fun _ hk => ⟨hk.1.2,hk.2⟩)))
          (case aS => exact (below_size (Y3 HB.out)))
          (case aL => have := LMc40.out;omega)
          intro v346 w54 ho hb hg hat
          rw [← Ny345.out] at ho
          have n0_ := Yd (Kd.R_after (ok := (fun k_ => some k_ ≠ (v349 : Value).ownBlock)) (by (with_reducible repeat (first | apply Kd.R_alloc | apply Kd.R_drewN | apply Kd.R_drew));exact Kd.R_mono HO_3.out (fun _ hk => ⟨hk.2,hk.1.2⟩)) hg hat)
          have n1_ := Yd (Kd.R_after (ok := (fun k_ => some k_ ≠ (.slice Ao46 x3_1.length co46 : Value).ownBlock)) (by (with_reducible repeat (first | apply Kd.R_alloc | apply Kd.R_drewN | apply Kd.R_drew));exact Kd.R_mono HO350.out (fun _ hk => ⟨hk.1.2,hk.2⟩)) hg hat)
          have n2_ := Yd (hb)
          have n3_ := Yd ((show Kd.C (Kd.int .i64) w54 Ao46 y341.length y341 from by rw [Ny341.out];exact Kd.C_take (m := (x5_2 : Int).toNat) ((Kd.R_reads' (Kd.R_after (ok := (fun k_ => some k_ ≠ (v349 : Value).ownBlock)) (by (with_reducible repeat (first | apply Kd.R_alloc | apply Kd.R_drewN | apply Kd.R_drew));exact Kd.R_mono HO_3.out (fun _ hk => ⟨hk.2,hk.1.2⟩)) hg hat)).2.2) KL48.out))
          have n4_ := Yd ((show Kd.C (Kd.int .i64) w54 A49 y354.length y354 from by rw [Ny354.out,KA49.out];exact Kd.C_drop (m := (x5_2 : Int).toNat) (c := co46) ((Kd.R_reads' (Kd.R_after (ok := (fun k_ => some k_ ≠ (v349 : Value).ownBlock)) (by (with_reducible repeat (first | apply Kd.R_alloc | apply Kd.R_drewN | apply Kd.R_drew));exact Kd.R_mono HO_3.out (fun _ hk => ⟨hk.2,hk.1.2⟩)) hg hat)).2.2) KL49.out ((Kd.R_reads' (Kd.R_after (ok := (fun k_ => some k_ ≠ (v349 : Value).ownBlock)) (by (with_reducible repeat (first | apply Kd.R_alloc | apply Kd.R_drewN | apply Kd.R_drew));exact Kd.R_mono HO_3.out (fun _ hk => ⟨hk.2,hk.1.2⟩)) hg hat)).2.1)))
          have n5_ := Yd (ho)
          clear HO_3
          clear HO350
          clear HB
          clear HR344
          clear HR357
          clear HO340
          have HO_3 := n0_
          have HO350 := n1_
          have HB := n2_
          have HR344 := n3_
          have HR357 := n4_
          have HO347 := n5_
          clear n0_ n1_ n2_ n3_ n4_ n5_
          clear ho hb hg hat
          refine hK.out _ _ trivial (fun hHeld => ?_)
          clear hK K
          refine norm_ (a' := ?_) ?_ ?_
          rotate_left
          ·show Act.put _ (some 37) _ = _
           simp only [Act.put,Ya,Yb,Yc,i64_w,i32_w]
           rfl
          exact norm_ (by simp only [putAll,Act.put,List.setIfInBounds_toArray,List.set_cons_zero,List.set_cons_succ]) (hCont (v339,v346,v349) _ ⟨(by (with_reducible repeat (first | apply Kd.R_alloc | apply Kd.R_drewN | apply Kd.R_drew));exact Kd.R_mono HO347.out (fun _ hk => ⟨hk.2,hk.1⟩)),(by (with_reducible repeat (first | apply Kd.R_alloc | apply Kd.R_drewN | apply Kd.R_drew));exact Kd.R_mono HO350.out (fun _ hk => ⟨hk.2,hk.1⟩)),(by (with_reducible repeat (first | apply Kd.R_alloc | apply Kd.R_drewN | apply Kd.R_drew));exact Kd.R_mono HO_3.out (fun _ hk => ⟨hk.2,hk.1⟩)),(Y3 HB.out)⟩)
        ·skip
         refine Kd.R_lit_step (Kd.int .i64) _ 3 ?hg (N := 39) ?hd (xs := ([x4_1] : List Int)) (inner := [.int .i64 x4_1]) (ok := fun _ => True) (okp := fun _ => True) ?hr ?hp (fun _ hk => hk) trivial (Below.refl _ _) (Nat.le_refl _) (by simp) ?_;(case hd => rfl);(case hg => rfl);(case hr => first | (go_simp;done) | (go_simp;rfl));(case hp => exact (Reps.one (show Kd.M (Kd.int .i64) _ _ _ x4_1 [.int .i64 x4_1] from rfl) (Reps.none _ _)))
         intro v349 w50 ho51 hb hg_ hnew_
         clear hg_ hnew_
         (first | rw [← Ny348.out] at ho51 | (simp only [Int.reduceToNat] at ho51;rw [← Ny348.out] at ho51))
         have n0_ := Yd (Kd.R_elder' (Y5 HO_3.out) (Kd.R_base ho51) hb)
         have n1_ := Yd (Kd.R_lower (Kd.R_new' ho51 (Kd.R_lt (Y5 HO_3.out))) (below_size (Y3 HB.out)))
         have n2_ := Yd (Kd.C_below (by repeat (first | (with_reducible exact HR344.out) | (with_reducible refine Kd.C_alloc ?_ _) | (with_reducible refine Kd.C_drewN ?_ _) | (with_reducible refine Kd.C_drew ?_) | exact HR344.out)) hb)
         have n3_ := Yd (Kd.C_below (by repeat (first | (with_reducible exact HR357.out) | (with_reducible refine Kd.C_alloc ?_ _) | (with_reducible refine Kd.C_drewN ?_ _) | (with_reducible refine Kd.C_drew ?_) | exact HR357.out)) hb)
         have n4_ := Yd (below_step (Y3 HB.out) hb)
         clear HO_3
         clear HR344
         clear HR357
         clear HB
         have HO_3 := n0_
         have HO350 := n1_
         have HR344 := n2_
         have HR357 := n3_
         have HB := n4_
         clear n0_ n1_ n2_ n3_ n4_
         clear hb ho51
         refine hK.out _ _ trivial (fun hHeld => ?_)
         clear hK K
         refine norm_ (a' := ?_) ?_ ?_
         rotate_left
         ·show Act.put _ (some 39) _ = _
          simp only [Act.put,Ya,Yb,Yc,i64_w,i32_w]
          rfl
         refine one_ (i := 0) (N := some 33) #[YT,YT,YT,YT,YF,YT,YT,YF,YT,YT,YT,YF,YF] rfl rfl (one_of HT_.out (by kernel_rfl)) (by decide) (fun K hK => ?_)
         refine Kd.R_lit_step (Kd.int .i64) _ 3 ?hg (N := 33) ?hd (xs := ([] : List Int)) (inner := []) (ok := fun _ => True) (okp := fun _ => True) ?hr ?hp (fun _ hk => hk) trivial (Below.refl _ _) (Nat.le_refl _) (by simp) ?_;(case hd => rfl);(case hg => rfl);(case hr => first | (go_simp;done) | (go_simp;rfl));(case hp => exact (Reps.none _ _))
         intro v339 w52 ho53 hb hg_ hnew_
         clear hg_ hnew_
         (first | rw [← Ny338.out] at ho53 | (simp only [Int.reduceToNat] at ho53;rw [← Ny338.out] at ho53))
         have n0_ := Yd (Kd.R_elder' (Y5 HO_3.out) (Kd.R_base ho53) hb)
         have n1_ := Yd (Kd.R_elder' (Y5 HO350.out) (Kd.R_base ho53) hb)
         have n2_ := Yd (Kd.R_lower (Kd.R_new' (Kd.R_new' ho53 (Kd.R_lt (Y5 HO_3.out))) (Kd.R_lt (Y5 HO350.out))) (below_size (Y3 HB.out)))
         have n3_ := Yd (Kd.C_below (by repeat (first | (with_reducible exact HR344.out) | (with_reducible refine Kd.C_alloc ?_ _) | (with_reducible refine Kd.C_drewN ?_ _) | (with_reducible refine Kd.C_drew ?_) | exact HR344.out)) hb)
         have n4_ := Yd (Kd.C_below (by repeat (first | (with_reducible exact HR357.out) | (with_reducible refine Kd.C_alloc ?_ _) | (with_reducible refine Kd.C_drewN ?_ _) | (with_reducible refine Kd.C_drew ?_) | exact HR357.out)) hb)
         have n5_ := Yd (below_step (Y3 HB.out) hb)
         clear HO_3
         clear HO350
         clear HR344
         clear HR357
         clear HB
         have HO_3 := n0_
         have HO350 := n1_
         have HO340 := n2_
         have HR344 := n3_
         have HR357 := n4_
         have HB := n5_
         clear n0_ n1_ n2_ n3_ n4_ n5_
         clear hb ho53
         refine hK.out _ _ trivial (fun hHeld => ?_)
         clear hK K
         refine norm_ (a' := ?_) ?_ ?_
         rotate_left
         ·show Act.put _ (some 33) _ = _
          simp only [Act.put,Ya,Yb,Yc,i64_w,i32_w]
          rfl
         refine one_ (i := 4) (N := some 37) #[YT,YT,YT,YT,YT,YT,YT,YF,YT,YT,YT,YF,YF] rfl rfl (one_of HT_.out (by kernel_rfl)) (by decide) (fun K hK => ?_)
         refine Kd.R_append_rows_step (Kd.int .i64) (w0 := w) w.heap.size (by rfl) (.tmp 33) (.tmp 36) 44 3 (.int .i64 0) 8 rfl Try.underlying44 info3 rfl (by decide) (by omega) v339 y338 y341 _ _ _ (fun k_ => some k_ ≠ (.slice Ao46 x3_1.length co46 : Value).ownBlock ∧ some k_ ≠ (v349 : Value).ownBlock) (fun _ => False) rfl rfl ?aO ?aR (fun _ _ h => h) (fun _ h => h.elim) ?aF ?aB ?aS ?aL ?_
         (case aR => repeat (first | exact (by repeat (first | (with_reducible exact HR344.out) | (with_reducible refine Kd.C_alloc ?_ _) | (with_reducible refine Kd.C_drewN ?_ _) | (with_reducible refine Kd.C_drew ?_) | exact HR344.out)) | (with_reducible refine Kd.C_alloc ?_ _) | (with_reducible refine Kd.C_drewN ?_ _) | (with_reducible refine Kd.C_drew ?_)))
         (case aB => exact (Y3 HB.out))
         (case aF => exact (fun k_ hk => ⟨Kd.fresh' (Kd.R_lt (Y5 HO_3.out)) k_ hk,Kd.fresh' (Kd.R_lt (Y5 HO350.out)) k_ hk⟩))
         (case aO => exact (by (with_reducible repeat (first | apply Kd.R_alloc | apply Kd.R_drewN | apply Kd.R_drew));exact Kd.R_mono HO340.out (fun _ hk => ⟨hk.1.2,hk.2⟩)))
         (case aS => exact (below_size (Y3 HB.out)))
         (case aL => have := LMc40.out;omega)
         intro v346 w54 ho hb hg hat
         rw [← Ny345.out] at ho
         have n0_ := Yd (Kd.R_after (ok := (fun k_ => some k_ ≠ (v349 : Value).ownBlock)) (by (with_reducible repeat (first | apply Kd.R_alloc | apply Kd.R_drewN | apply Kd.R_drew));exact Kd.R_mono HO_3.out (fun _ hk => ⟨hk.1.2,hk.2⟩)) hg hat)
         have n1_ := Yd (Kd.R_after (ok := (fun k_ => some k_ ≠ (.slice Ao46 x3_1.length co46 : Value).ownBlock)) (by (with_reducible repeat (first | apply Kd.R_alloc | apply Kd.R_drewN | apply Kd.R_drew));exact Kd.R_mono HO350.out (fun _ hk => ⟨hk.1.2,hk.2⟩)) hg hat)
         have n2_ := Yd (hb)
         have n3_ := Yd ((show Kd.C (Kd.int .i64) w54 Ao46 y341.length y341 from by rw [Ny341.out];exact Kd.C_take (m := (x5_2 : Int).toNat) ((Kd.R_reads' (Kd.R_after (ok := (fun k_ => some k_ ≠ (v349 : Value).ownBlock)) (by (with_reducible repeat (first | apply Kd.R_alloc | apply Kd.R_drewN | apply Kd.R_drew));exact Kd.R_mono HO_3.out (fun _ hk => ⟨hk.1.2,hk.2⟩)) hg hat)).2.2) KL48.out))
         have n4_ := Yd ((show Kd.C (Kd.int .i64) w54 A49 y354.length y354 from by rw [Ny354.out,KA49.out];exact Kd.C_drop (m := (x5_2 : Int).toNat) (c := co46) ((Kd.R_reads' (Kd.R_after (ok := (fun k_ => some k_ ≠ (v349 : Value).ownBlock)) (by (with_reducible repeat (first | apply Kd.R_alloc | apply Kd.R_drewN | apply Kd.R_drew));exact Kd.R_mono HO_3.out (fun _ hk => ⟨hk.1.2,hk.2⟩)) hg hat)).2.2) KL49.out ((Kd.R_reads' (Kd.R_after (ok := (fun k_ => some k_ ≠ (v349 : Value).ownBlock)) (by (with_reducible repeat (first | apply Kd.R_alloc | apply Kd.R_drewN | apply Kd.R_drew));exact Kd.R_mono HO_3.out (fun _ hk => ⟨hk.1.2,hk.2⟩)) hg hat)).2.1)))
         have n5_ := Yd (ho)
         clear HO_3
         clear HO350
         clear HB
         clear HR344
         clear HR357
         clear HO340
         have HO_3 := n0_
         have HO350 := n1_
         have HB := n2_
         have HR344 := n3_
         have HR357 := n4_
         have HO347 := n5_
         clear n0_ n1_ n2_ n3_ n4_ n5_
         clear ho hb hg hat
         refine hK.out _ _ trivial (fun hHeld => ?_)
         clear hK K
         refine norm_ (a' := ?_) ?_ ?_
         rotate_left
         ·show Act.put _ (some 37) _ = _
          simp only [Act.put,Ya,Yb,Yc,i64_w,i32_w]
          rfl
         exact norm_ (by simp only [putAll,Act.put,List.setIfInBounds_toArray,List.set_cons_zero,List.set_cons_succ]) (hCont (v339,v346,v349) _ ⟨(by (with_reducible repeat (first | apply Kd.R_alloc | apply Kd.R_drewN | apply Kd.R_drew));exact Kd.R_mono HO347.out (fun _ hk => ⟨hk.2,hk.1⟩)),(by (with_reducible repeat (first | apply Kd.R_alloc | apply Kd.R_drewN | apply Kd.R_drew));exact Kd.R_mono HO350.out (fun _ hk => ⟨hk.2,hk.1⟩)),(by (with_reducible repeat (first | apply Kd.R_alloc | apply Kd.R_drewN | apply Kd.R_drew));exact Kd.R_mono HO_3.out (fun _ hk => ⟨hk.2,hk.1⟩)),(Y3 HB.out)⟩)
       rintro ⟨v339,v346,v349⟩ w55 ⟨h0_,h1_,h2_,h3_⟩
       have n0_ : Aside0 (Kd.R (Kd.int .i64) 3 w55 w.heap.size (fun k_ => some k_ ≠ (v349 : Value).ownBlock ∧ some k_ ≠ (.slice Ao46 x3_1.length co46 : Value).ownBlock) v346 y345) := ⟨h0_⟩
       have n1_ : Aside0 (Kd.R (Kd.int .i64) 3 w55 w.heap.size (fun k_ => some k_ ≠ (v346 : Value).ownBlock ∧ some k_ ≠ (.slice Ao46 x3_1.length co46 : Value).ownBlock) v349 y348) := ⟨h1_⟩
       have n2_ : Aside0 (Kd.R (Kd.int .i64) 3 w55 w.heap.size (fun k_ => some k_ ≠ (v346 : Value).ownBlock ∧ some k_ ≠ (v349 : Value).ownBlock) (.slice Ao46 x3_1.length co46) x3_1) := ⟨h2_⟩
       have n3_ : Aside0 (Below w.heap.size w w55) := ⟨h3_⟩
       clear HO_3
       clear HB
       clear h0_ h1_ h2_ h3_
       have HO347 := n0_
       have HO350 := n1_
       have HO_3 := n2_
       have HB := n3_
       clear n0_ n1_ n2_ n3_
       have hHeld := trivial
       clear HR357
       have HR357 := Yd (show Kd.C (Kd.int .i64) w55 A49 y354.length y354 from by rw [Ny354.out,KA49.out];exact Kd.C_drop (m := (x5_2 : Int).toNat) (c := co46) ((Kd.R_reads' HO_3.out).2.2) KL49.out ((Kd.R_reads' HO_3.out).2.1))
       obtain ⟨Ao57,co57,eo57⟩ := Kd.R_slice HO350.out
       (first | subst eo57 | (injection eo57 with f1_ f2_ f3_;have f4_ := f1_.symm;have f5_ := f3_.symm;clear f1_ f2_ f3_;subst f4_;subst f5_))
       refine norm_ (a' := ?_) ?_ ?_
       rotate_left
       ·simp only [putAll,Act.put,List.setIfInBounds_toArray,List.set_cons_zero,List.set_cons_succ]
        rfl
       refine one_ (i := 7) (N := some 40) #[YT,YT,YT,YT,YT,YT,YT,YT,YT,YT,YT,YF,YF] rfl rfl (one_of HT_.out (by kernel_rfl)) (by decide) (fun K hK => ?_)
       refine Kd.R_append_rows_step (Kd.int .i64) (w0 := w) w.heap.size (by rfl) (.tmp 37) (.tmp 39) 44 3 (.int .i64 0) 8 rfl Try.underlying44 info3 rfl (by decide) (by omega) v346 y345 y348 _ _ _ (fun k_ => some k_ ≠ (.slice Ao46 x3_1.length co46 : Value).ownBlock ∧ some k_ ≠ (.slice Ao57 y348.length co57 : Value).ownBlock) (fun _ => False) rfl rfl ?aO ?aR (fun _ _ h => h) (fun _ h => h.elim) ?aF ?aB ?aS ?aL ?_
       (case aR => repeat (first | exact (Kd.R_reads' HO350.out).2.2 | (with_reducible refine Kd.C_alloc ?_ _) | (with_reducible refine Kd.C_drewN ?_ _) | (with_reducible refine Kd.C_drew ?_)))
       (case aB => exact (Y3 HB.out))
       (case aF => exact (fun k_ hk => ⟨Kd.fresh' (Kd.R_lt (Y5 HO_3.out)) k_ hk,Kd.fresh' (Kd.R_lt (Y5 HO350.out)) k_ hk⟩))
       (case aO => exact (by (with_reducible repeat (first | apply Kd.R_alloc | apply Kd.R_drewN | apply Kd.R_drew));exact Kd.R_mono HO347.out (fun _ hk => ⟨hk.2,hk.1⟩)))
       (case aS => exact (below_size (Y3 HB.out)))
       (case aL => have := LMc41.out;omega)
       intro v352 w56 ho hb hg hat
       rw [← Ny351.out] at ho
       have n0_ := Yd (Kd.R_after (ok := (fun k_ => some k_ ≠ (.slice Ao57 y348.length co57 : Value).ownBlock)) (by (with_reducible repeat (first | apply Kd.R_alloc | apply Kd.R_drewN | apply Kd.R_drew));exact Kd.R_mono HO_3.out (fun _ hk => ⟨hk.2,hk.1⟩)) hg hat)
       have n1_ := Yd (Kd.R_after (ok := (fun k_ => some k_ ≠ (.slice Ao46 x3_1.length co46 : Value).ownBlock)) (by (with_reducible repeat (first | apply Kd.R_alloc | apply Kd.R_drewN | apply Kd.R_drew));exact Kd.R_mono HO350.out (fun _ hk => ⟨hk.2,hk.1⟩)) hg hat)
       have n2_ := Yd (hb)
       have n3_ := Yd ((show Kd.C (Kd.int .i64) w56 A49 y354.length y354 from by rw [Ny354.out,KA49.out];exact Kd.C_drop (m := (x5_2 : Int).toNat) (c := co46) ((Kd.R_reads' (Kd.R_after (ok := (fun k_ => some k_ ≠ (.slice Ao57 y348.length co57 : Value).ownBlock)) (by (with_reducible repeat (first | apply Kd.R_alloc | apply Kd.R_drewN | apply Kd.R_drew));exact Kd.R_mono HO_3.out (fun _ hk => ⟨hk.2,hk.1⟩)) hg hat)).2.2) KL49.out ((Kd.R_reads' (Kd.R_after (ok := (fun k_ => some k_ ≠ (.slice Ao57 y348.length co57 : Value).ownBlock)) (by (with_reducible repeat (first | apply Kd.R_alloc | apply Kd.R_drewN | apply Kd.R_drew));exact Kd.R_mono HO_3.out (fun _ hk => ⟨hk.2,hk.1⟩)) hg hat)).2.1)))
       have n4_ := Yd (ho)
       clear HO_3
       clear HO350
       clear HB
       clear HR357
       clear HO347
       have HO_3 := n0_
       have HO350 := n1_
       have HB := n2_
       have HR357 := n3_
       have HO353 := n4_
       clear n0_ n1_ n2_ n3_ n4_
       clear ho hb hg hat
       refine hK.out _ _ trivial (fun hHeld => ?_)
       clear hK K
       refine norm_ (a' := ?_) ?_ ?_
       rotate_left
       ·show Act.put _ (some 40) _ = _
        simp only [Act.put,Ya,Yb,Yc,i64_w,i32_w]
        rfl
       refine one_ (i := 11) (N := some 44) #[YT,YT,YT,YT,YT,YT,YT,YT,YT,YT,YT,YT,YF] rfl rfl (one_of HT_.out (by kernel_rfl)) (by decide) (fun K hK => ?_)
       refine Kd.R_append_rows_step (Kd.int .i64) (w0 := w) w.heap.size (by rfl) (.tmp 40) (.tmp 43) 44 3 (.int .i64 0) 8 rfl Try.underlying44 info3 rfl (by decide) (by omega) v352 y351 y354 _ _ _ (fun k_ => some k_ ≠ (.slice Ao46 x3_1.length co46 : Value).ownBlock ∧ some k_ ≠ (.slice Ao57 y348.length co57 : Value).ownBlock) (fun _ => False) rfl rfl ?aO ?aR (fun _ _ h => h) (fun _ h => h.elim) ?aF ?aB ?aS ?aL ?_
       (case aR => repeat (first | exact (by repeat (first | (with_reducible exact HR357.out) | (with_reducible refine Kd.C_alloc ?_ _) | (with_reducible refine Kd.C_drewN ?_ _) | (with_reducible refine Kd.C_drew ?_) | exact HR357.out)) | (with_reducible refine Kd.C_alloc ?_ _) | (with_reducible refine Kd.C_drewN ?_ _) | (with_reducible refine Kd.C_drew ?_)))
       (case aB => exact (Y3 HB.out))
       (case aF => exact (fun k_ hk => ⟨Kd.fresh' (Kd.R_lt (Y5 HO_3.out)) k_ hk,Kd.fresh' (Kd.R_lt (Y5 HO350.out)) k_ hk⟩))
       (case aO => exact (Y5 HO353.out))
       (case aS => exact (below_size (Y3 HB.out)))
       (case aL => have := LMc44.out;omega)
       intro v359 w58 ho hb hg hat
       rw [← Ny358.out] at ho
       have n0_ := Yd (Kd.R_after (ok := (fun k_ => some k_ ≠ (.slice Ao57 y348.length co57 : Value).ownBlock)) (Y5 HO_3.out) hg hat)
       have n1_ := Yd (Kd.R_after (ok := (fun k_ => some k_ ≠ (.slice Ao46 x3_1.length co46 : Value).ownBlock)) (Y5 HO350.out) hg hat)
       have n2_ := Yd (hb)
       have n3_ := Yd ((show Kd.C (Kd.int .i64) w58 A49 y354.length y354 from by rw [Ny354.out,KA49.out];exact Kd.C_drop (m := (x5_2 : Int).toNat) (c := co46) ((Kd.R_reads' (Kd.R_after (ok := (fun k_ => some k_ ≠ (.slice Ao57 y348.length co57 : Value).ownBlock)) (Y5 HO_3.out) hg hat)).2.2) KL49.out ((Kd.R_reads' (Kd.R_after (ok := (fun k_ => some k_ ≠ (.slice Ao57 y348.length co57 : Value).ownBlock)) (Y5 HO_3.out) hg hat)).2.1)))
       have n4_ := Yd (ho)
       clear HO_3
       clear HO350
       clear HB
       clear HR357
       clear HO353
       have HO_3 := n0_
       have HO350 := n1_
       have HB := n2_
       have HR357 := n3_
       have HO360 := n4_
       clear n0_ n1_ n2_ n3_ n4_
       clear ho hb hg hat
       refine hK.out _ _ trivial (fun hHeld => ?_)
       clear hK K
       refine norm_ (a' := ?_) ?_ ?_
       rotate_left
       ·show Act.put _ (some 44) _ = _
        simp only [Act.put,Ya,Yb,Yc,i64_w,i32_w]
        rfl
       refine pure_ (i := 12) (N := some 3) (v := ?_) (a' := ?_) #[YT,YT,YT,YT,YT,YT,YT,YT,YT,YT,YT,YT,YT] rfl rfl (any_of HT_.out (by kernel_rfl)) (fun _ _ _ h => h) (Or.inl ⟨by rfl,?_⟩) ?_ ?_
       rotate_left
       ·intro w'
        go_simp
        with_reducible rfl
       rotate_left
       ·simp only [Act.put,Ya,Yb,Yc,i64_w,i32_w]
        rfl
       refine done_ (done_of HT_.out (by kernel_rfl)) ?_
       try go_wp2
       go_roundg k2
       case measure => have := HK1.out;have := HK2.out;omega
       case rel => exact ⟨(y358),(wrap64 (x4_1 + 1)),Y12,H',⟨by have := HK1.out;have := HK2.out;omega⟩,⟨by (with_reducible repeat (first | apply Kd.R_alloc | apply Kd.R_drewN | apply Kd.R_drew));exact Kd.R_mono HO360.out (fun _ hk => trivial)⟩,⟨Y3 HB.out⟩⟩
   ·rw [if_neg c4] at H
    have c4b0 : decide (x4_1 < (l0.length : Int)) = false := decide_eq_false c4
    clear c4
    obtain rfl := Option.some.inj H
    go_wp2
    go_ret
    exact ⟨_,by first | rfl | (simp [errW_none,errW_some] <;> rfl) | (simp [*,errW_none,errW_some] <;> rfl),by (with_reducible repeat (first | apply Kd.R_alloc | apply Kd.R_drewN | apply Kd.R_drew));exact HO_3.out,Y3 HB.out⟩
end Go.Proofs.Ytcdjhdfjkfbgdaa.PD56
namespace Go.Proofs.Ytcdjhdfjkfbgdaa.PD56
open Go.RowKit Go.Proofs.YtcdjhdfjkfbgdaaW.PrintWords Go.Proofs.YtcdjhdfjkfbgdaaW.PrintLast Go.Proofs.YtcdjhdfjkfbgdaaW.PrintMore
attribute [local go_sem] max2_int min2_int max_two min_two max_three min_three max_four min_four
def plenumref56_Free.f (a0_0 : ByteArray) (a0_1 : Int) (a0_2 : Int) (a0_3 : Int) (a0_4 : Int) (a1_0 : Bool) (a1_1 : Int) (a2 : Int) : Option (Bool) := if a1_0 = true then (some (decide ((wrap64 (a2 - a1_1)) ≥ a0_4))) else (some (decide ((wrap64 (a2 - a1_1)) ≥ a0_3)))
set_option maxHeartbeats 100000000 in
set_option maxRecDepth 100000 in
theorem plenumref56_Free.calls (a0_0 : ByteArray) (a0_1 : Int) (a0_2 : Int) (a0_3 : Int) (a0_4 : Int) (a1_0 : Bool) (a1_1 : Int) (a2 : Int) (r : Bool) (w : World) (h : plenumref56_Free.f a0_0 a0_1 a0_2 a0_3 a0_4 a1_0 a1_1 a2 = some r) :
  Calls Try.prog 31 #[.agg #[.string a0_0,.int .i64 a0_1,.int .i64 a0_2,.int .i64 a0_3,.int .i64 a0_4],.agg #[.bool a1_0,.int .i64 a1_1],.int .i64 a2] w fun e w' => e = .returned (.bool r) ∧ Below w.heap.size w w' := by
 have hu43 := Try.underlying43
 have hu59 := Try.underlying59
 have HB := Yd (Below.refl w.heap.size w)
 have H : (if a1_0 = true then (some (decide ((wrap64 (a2 - a1_1)) ≥ a0_4))) else (some (decide ((wrap64 (a2 - a1_1)) ≥ a0_3)))) = some r := h
 clear h
 by_cases c4 : a1_0 = true
 ·subst c4
  have H1 : (some (decide ((wrap64 (a2 - a1_1)) ≥ a0_4))) = some r := by rw [if_pos rfl] at H;exact H
  clear H
  have H := H1
  clear H1
  obtain rfl := Option.some.inj H
  go_enter Try.func31,Try.ntmps31
  go_wp2_with (first | ((with_reducible refine gate_dst (N := 3) rfl ?_);refine box_event ?hg (N := 3) ?hd (cs := #[.string a0_0,.int .i64 a0_1,.int .i64 a0_2,.int .i64 a0_3,.int .i64 a0_4]) (t := 43) ?hr ?_;(case hd => rfl);(case hg => rfl);(case hr => first | (go_simp;done) | (go_simp;rfl));intro gb361 hg w5 hbox hb;have n0_ := Yd (below_step (Y3 HB.out) hb);have n1_ := Yd (hbox);have n2_ := Yd ((by rw [hg];exact (below_size (Y3 HB.out)) : w.heap.size ≤ gb361));have n3_ := Yd ((by rw [hg];exact (below_size (Y3 HB.out)) : w.heap.size ≤ gb361));clear HB;have HB := n0_;have BK361 := n1_;have GW361 := n2_;have GE361 := n3_;clear n0_ n1_ n2_ n3_;clear hb hbox hg) | ((with_reducible refine gate_dst (N := 4) rfl ?_);refine box_event ?hg (N := 4) ?hd (cs := #[.bool true,.int .i64 a1_1]) (t := 59) ?hr ?_;(case hd => rfl);(case hg => rfl);(case hr => first | (go_simp;done) | (go_simp;rfl));intro gb362 hg w6 hbox hb;have n0_ := Yd (blk_below (g := gb361) (o := .cells #[.string a0_0,.int .i64 a0_1,.int .i64 a0_2,.int .i64 a0_3,.int .i64 a0_4] 43 (0,0)) (Y6 BK361.out) hb);have n1_ := Yd (below_step (by first | exact Y4 HB.out GE361.out | exact Y3 HB.out) hb);have n2_ := Yd (hbox);have n3_ := Yd ((by rw [hg];exact (below_size (by first | exact Y4 HB.out GE361.out | exact Y3 HB.out)) : w.heap.size ≤ gb362));have n4_ := Yd ((by rw [hg];exact (below_size (by first | exact Y4 HB.out GE361.out | exact Y3 HB.out)) : w.heap.size ≤ gb362));have n5_ := Yd ((by rw [hg];exact Nat.ne_of_lt (blk_lt (g := gb361) (o := .cells #[.string a0_0,.int .i64 a0_1,.int .i64 a0_2,.int .i64 a0_3,.int .i64 a0_4] 43 (0,0)) (Y6 BK361.out)) : gb361 ≠ gb362));have n6_ := Yd ((by rw [hg];exact Nat.ne_of_gt (blk_lt (g := gb361) (o := .cells #[.string a0_0,.int .i64 a0_1,.int .i64 a0_2,.int .i64 a0_3,.int .i64 a0_4] 43 (0,0)) (Y6 BK361.out)) : gb362 ≠ gb361));clear BK361;clear HB;have BK361 := n0_;have HB := n1_;have BK362 := n2_;have GW362 := n3_;have GE362 := n4_;have NB361_362 := n5_;have NB362_361 := n6_;clear n0_ n1_ n2_ n3_ n4_ n5_ n6_;clear hb hbox hg;have hnb7 := NB362_361.out;have hnc7 := NB361_362.out;have hcz8_0 : w6.cell? ⟨gb362,0,none⟩ = some (.bool true) := (blk_cell BK362.out 0).trans rfl;have hcz8_1 : w6.cell? ⟨gb362,1,none⟩ = some (.int .i64 a1_1) := (blk_cell BK362.out 1).trans rfl;have hfz8_0 := blk_frozen BK362.out 0;have hfz8_1 := blk_frozen BK362.out 1;have hcz9_0 : w6.cell? ⟨gb361,0,none⟩ = some (.string a0_0) := (blk_cell BK361.out 0).trans rfl;have hcz9_1 : w6.cell? ⟨gb361,1,none⟩ = some (.int .i64 a0_1) := (blk_cell BK361.out 1).trans rfl;have hcz9_2 : w6.cell? ⟨gb361,2,none⟩ = some (.int .i64 a0_2) := (blk_cell BK361.out 2).trans rfl;have hcz9_3 : w6.cell? ⟨gb361,3,none⟩ = some (.int .i64 a0_3) := (blk_cell BK361.out 3).trans rfl;have hcz9_4 : w6.cell? ⟨gb361,4,none⟩ = some (.int .i64 a0_4) := (blk_cell BK361.out 4).trans rfl;have hfz9_0 := blk_frozen BK361.out 0;have hfz9_1 := blk_frozen BK361.out 1;have hfz9_2 := blk_frozen BK361.out 2;have hfz9_3 := blk_frozen BK361.out 3;have hfz9_4 := blk_frozen BK361.out 4))
  go_ret
  exact ⟨by first | rfl | (simp [errW_none,errW_some] <;> rfl) | (simp [*,errW_none,errW_some] <;> rfl),by repeat (first | (with_reducible first | exact HB.out | apply below_alloc | apply Y15 | apply below_drew1 | refine below_set ?_ GE361.out | refine below_set ?_ GE362.out) | exact HB.out)⟩
 ·replace c4 := Bool.eq_false_iff.mpr c4
  subst c4
  have H1 : (some (decide ((wrap64 (a2 - a1_1)) ≥ a0_3))) = some r := by rw [if_neg (show ¬ (false = true) by decide)] at H;exact H
  clear H
  have H := H1
  clear H1
  obtain rfl := Option.some.inj H
  go_enter Try.func31,Try.ntmps31
  go_wp2_with (first | ((with_reducible refine gate_dst (N := 3) rfl ?_);refine box_event ?hg (N := 3) ?hd (cs := #[.string a0_0,.int .i64 a0_1,.int .i64 a0_2,.int .i64 a0_3,.int .i64 a0_4]) (t := 43) ?hr ?_;(case hd => rfl);(case hg => rfl);(case hr => first | (go_simp;done) | (go_simp;rfl));intro gb361 hg w10 hbox hb;have n0_ := Yd (below_step (Y3 HB.out) hb);have n1_ := Yd (hbox);have n2_ := Yd ((by rw [hg];exact (below_size (Y3 HB.out)) : w.heap.size ≤ gb361));have n3_ := Yd ((by rw [hg];exact (below_size (Y3 HB.out)) : w.heap.size ≤ gb361));clear HB;have HB := n0_;have BK361 := n1_;have GW361 := n2_;have GE361 := n3_;clear n0_ n1_ n2_ n3_;clear hb hbox hg) | ((with_reducible refine gate_dst (N := 4) rfl ?_);refine box_event ?hg (N := 4) ?hd (cs := #[.bool false,.int .i64 a1_1]) (t := 59) ?hr ?_;(case hd => rfl);(case hg => rfl);(case hr => first | (go_simp;done) | (go_simp;rfl));intro gb362 hg w11 hbox hb;have n0_ := Yd (blk_below (g := gb361) (o := .cells #[.string a0_0,.int .i64 a0_1,.int .i64 a0_2,.int .i64 a0_3,.int .i64 a0_4] 43 (0,0)) (Y6 BK361.out) hb);have n1_ := Yd (below_step (by first | exact Y4 HB.out GE361.out | exact Y3 HB.out) hb);have n2_ := Yd (hbox);have n3_ := Yd ((by rw [hg];exact (below_size (by first | exact Y4 HB.out GE361.out | exact Y3 HB.out)) : w.heap.size ≤ gb362));have n4_ := Yd ((by rw [hg];exact (below_size (by first | exact Y4 HB.out GE361.out | exact Y3 HB.out)) : w.heap.size ≤ gb362));have n5_ := Yd ((by rw [hg];exact Nat.ne_of_lt (blk_lt (g := gb361) (o := .cells #[.string a0_0,.int .i64 a0_1,.int .i64 a0_2,.int .i64 a0_3,.int .i64 a0_4] 43 (0,0)) (Y6 BK361.out)) : gb361 ≠ gb362));have n6_ := Yd ((by rw [hg];exact Nat.ne_of_gt (blk_lt (g := gb361) (o := .cells #[.string a0_0,.int .i64 a0_1,.int .i64 a0_2,.int .i64 a0_3,.int .i64 a0_4] 43 (0,0)) (Y6 BK361.out)) : gb362 ≠ gb361));clear BK361;clear HB;have BK361 := n0_;have HB := n1_;have BK362 := n2_;have GW362 := n3_;have GE362 := n4_;have NB361_362 := n5_;have NB362_361 := n6_;clear n0_ n1_ n2_ n3_ n4_ n5_ n6_;clear hb hbox hg;have hnb12 := NB362_361.out;have hnc12 := NB361_362.out;have hcz13_0 : w11.cell? ⟨gb362,0,none⟩ = some (.bool false) := (blk_cell BK362.out 0).trans rfl;have hcz13_1 : w11.cell? ⟨gb362,1,none⟩ = some (.int .i64 a1_1) := (blk_cell BK362.out 1).trans rfl;have hfz13_0 := blk_frozen BK362.out 0;have hfz13_1 := blk_frozen BK362.out 1;have hcz14_0 : w11.cell? ⟨gb361,0,none⟩ = some (.string a0_0) := (blk_cell BK361.out 0).trans rfl;have hcz14_1 : w11.cell? ⟨gb361,1,none⟩ = some (.int .i64 a0_1) := (blk_cell BK361.out 1).trans rfl;have hcz14_2 : w11.cell? ⟨gb361,2,none⟩ = some (.int .i64 a0_2) := (blk_cell BK361.out 2).trans rfl;have hcz14_3 : w11.cell? ⟨gb361,3,none⟩ = some (.int .i64 a0_3) := (blk_cell BK361.out 3).trans rfl;have hcz14_4 : w11.cell? ⟨gb361,4,none⟩ = some (.int .i64 a0_4) := (blk_cell BK361.out 4).trans rfl;have hfz14_0 := blk_frozen BK361.out 0;have hfz14_1 := blk_frozen BK361.out 1;have hfz14_2 := blk_frozen BK361.out 2;have hfz14_3 := blk_frozen BK361.out 3;have hfz14_4 := blk_frozen BK361.out 4))
  go_ret
  exact ⟨by first | rfl | (simp [errW_none,errW_some] <;> rfl) | (simp [*,errW_none,errW_some] <;> rfl),by repeat (first | (with_reducible first | exact HB.out | apply below_alloc | apply Y15 | apply below_drew1 | refine below_set ?_ GE361.out | refine below_set ?_ GE362.out) | exact HB.out)⟩
end Go.Proofs.Ytcdjhdfjkfbgdaa.PD56
namespace Go.Proofs.Ytcdjhdfjkfbgdaa.PD56
open Go.RowKit Go.Proofs.YtcdjhdfjkfbgdaaW.PrintWords Go.Proofs.YtcdjhdfjkfbgdaaW.PrintLast Go.Proofs.YtcdjhdfjkfbgdaaW.PrintMore
attribute [local go_sem] max2_int min2_int max_two min_two max_three min_three max_four min_four
mutual
def plenumref56_Step.l0 : Nat → List (S43) → Int → Int → Int → List (S59) → List Int → Int → Option ((List (S59)))
 | 0,_,_,_,_,_,_,_ => none
 | k + 1,x0,x2,x3,x4,x11,x12,x13 => if x13 < (x12.length : Int) then (if 0 ≤ x13 then ((plenumref56_Power.f k x0 x11).bind fun t374 => (if (wrap64 (x2 + t374)) > x3 then (if 0 ≤ (rd x12 x13) then (if (rd x12 x13) < (x11.length : Int) then (if ((rd_T59 x11 (rd x12 x13)).f0 = true) then (plenumref56_Step.j1 k x0 x2 x3 x4 x11 x12 x13 (rd x12 x13) false) else (if (rd x12 x13) < (x0.length : Int) then ((plenumref56_Free.f ((rd_T43 x0 (rd x12 x13)).f0) ((rd_T43 x0 (rd x12 x13)).f1) ((rd_T43 x0 (rd x12 x13)).f2) ((rd_T43 x0 (rd x12 x13)).f3) ((rd_T43 x0 (rd x12 x13)).f4) ((rd_T59 x11 (rd x12 x13)).f0) ((rd_T59 x11 (rd x12 x13)).f1) x4).bind fun t378 => (plenumref56_Step.j1 k x0 x2 x3 x4 x11 x12 x13 (rd x12 x13) t378)) else (none))) else (none)) else (none)) else (plenumref56_Step.j1 k x0 x2 x3 x4 x11 x12 x13 (rd x12 x13) false))) else (none)) else (some x11)
def plenumref56_Step.j1 : Nat → List (S43) → Int → Int → Int → List (S59) → List Int → Int → Int → Bool → Option ((List (S59)))
 | 0,_,_,_,_,_,_,_,_,_ => none
 | k + 1,x0,x2,x3,x4,x11,x12,x13,x14,x65 => if x65 = true then (if 0 ≤ x14 then (if x14 < (x11.length : Int) then (plenumref56_Step.l0 k x0 x2 x3 x4 (x11.set (x14 : Int).toNat (⟨true,x4⟩ : S59)) x12 (wrap64 (x13 + 1))) else (none)) else (none)) else (plenumref56_Step.l0 k x0 x2 x3 x4 x11 x12 (wrap64 (x13 + 1)))
def plenumref56_Step.l1 : Nat → List (S43) → Int → Int → Int → List (S59) → List Int → Int → Option ((List (S59)))
 | 0,_,_,_,_,_,_,_ => none
 | k + 1,x0,x2,x3,x4,x11,x12,x15 => if x15 ≥ 0 then (if 0 ≤ x15 then (if x15 < (x12.length : Int) then (if 0 ≤ (rd x12 x15) then (if (rd x12 x15) < (x11.length : Int) then (if (rd_T59 x11 (rd x12 x15)).f0 = true then (if (rd x12 x15) < (x0.length : Int) then ((plenumref56_Free.f ((rd_T43 x0 (rd x12 x15)).f0) ((rd_T43 x0 (rd x12 x15)).f1) ((rd_T43 x0 (rd x12 x15)).f2) ((rd_T43 x0 (rd x12 x15)).f3) ((rd_T43 x0 (rd x12 x15)).f4) ((rd_T59 x11 (rd x12 x15)).f0) ((rd_T59 x11 (rd x12 x15)).f1) x4).bind fun t384 => (if t384 = true then ((plenumref56_Power.f k x0 x11).bind fun t385 => (plenumref56_Step.j3 k x0 x2 x3 x4 x11 x12 x15 (rd x12 x15) (decide ((wrap64 ((wrap64 (x2 + t385)) + ((rd_T43 x0 (rd x12 x15)).f2))) ≤ x3)))) else (plenumref56_Step.j3 k x0 x2 x3 x4 x11 x12 x15 (rd x12 x15) false))) else (none)) else (plenumref56_Step.j3 k x0 x2 x3 x4 x11 x12 x15 (rd x12 x15) false)) else (none)) else (none)) else (none)) else (none)) else (some x11)
def plenumref56_Step.j3 : Nat → List (S43) → Int → Int → Int → List (S59) → List Int → Int → Int → Bool → Option ((List (S59)))
 | 0,_,_,_,_,_,_,_,_,_ => none
 | k + 1,x0,x2,x3,x4,x11,x12,x15,x16,x114 => if x114 = true then (if 0 ≤ x16 then (if x16 < (x11.length : Int) then (plenumref56_Step.l1 k x0 x2 x3 x4 (x11.set (x16 : Int).toNat (⟨false,x4⟩ : S59)) x12 (wrap64 (x15 - 1))) else (none)) else (none)) else (plenumref56_Step.l1 k x0 x2 x3 x4 x11 x12 (wrap64 (x15 - 1)))
end
def plenumref56_Step.f (k : Nat) (l0 : List (S43)) (l1 : List (S59)) (a2 : Int) (a3 : Int) (a4 : Int) : Option ((List (S59))) := (some (([] : List (S59)) : List (S59))).bind fun y363 => (if y363.length + l1.length < 8796093022208 then ((some (y363 ++ l1 : List (S59))).bind fun y366 => ((plenumref56_Order.f k l0).bind fun t369 => ((plenumref56_Power.f k l0 y366).bind fun t372 => (if (wrap64 (a2 + t372)) > a3 then (plenumref56_Step.l0 k l0 a2 a3 a4 y366 t369 0) else (plenumref56_Step.l1 k l0 a2 a3 a4 y366 t369 (wrap64 ((t369.length : Int) - 1))))))) else (none))
theorem plenumref56_Step.mono_l : ∀ k,(∀ y0 y1 y2 y3 y4 y5 y6,LeO (plenumref56_Step.l0 k y0 y1 y2 y3 y4 y5 y6) (plenumref56_Step.l0 (k + 1) y0 y1 y2 y3 y4 y5 y6)) ∧ (∀ y0 y1 y2 y3 y4 y5 y6 y7 y8,LeO (plenumref56_Step.j1 k y0 y1 y2 y3 y4 y5 y6 y7 y8) (plenumref56_Step.j1 (k + 1) y0 y1 y2 y3 y4 y5 y6 y7 y8)) ∧ (∀ y0 y1 y2 y3 y4 y5 y6,LeO (plenumref56_Step.l1 k y0 y1 y2 y3 y4 y5 y6) (plenumref56_Step.l1 (k + 1) y0 y1 y2 y3 y4 y5 y6)) ∧ (∀ y0 y1 y2 y3 y4 y5 y6 y7 y8,LeO (plenumref56_Step.j3 k y0 y1 y2 y3 y4 y5 y6 y7 y8) (plenumref56_Step.j3 (k + 1) y0 y1 y2 y3 y4 y5 y6 y7 y8))
 | 0 => ⟨fun _ _ _ _ _ _ _ r h => by simp [plenumref56_Step.l0] at h,fun _ _ _ _ _ _ _ _ _ r h => by simp [plenumref56_Step.j1] at h,fun _ _ _ _ _ _ _ r h => by simp [plenumref56_Step.l1] at h,fun _ _ _ _ _ _ _ _ _ r h => by simp [plenumref56_Step.j3] at h⟩
 | k + 1 => by
  obtain ⟨ih0,ih1,ih2,ih3⟩ := plenumref56_Step.mono_l k
  refine ⟨?_,?_,?_,?_⟩
  ·intro y0 y1 y2 y3 y4 y5 y6
   unfold plenumref56_Step.l0
   repeat' first
   | (with_reducible exact ih0 _ _ _ _ _ _ _)
   | (with_reducible exact ih1 _ _ _ _ _ _ _ _ _)
   | (with_reducible exact ih2 _ _ _ _ _ _ _)
   | (with_reducible exact ih3 _ _ _ _ _ _ _ _ _)
   | (with_reducible exact plenumref56_Order.mono _ _)
   | (with_reducible exact plenumref56_Power.mono _ _ _)
   | (with_reducible exact LeO.refl _)
   | (with_reducible exact LeO.none _)
   | (with_reducible refine LeO.ite ?_ ?_)
   | (with_reducible refine LeO.bind ?_ (fun _ => ?_))
   | exact ih0 _ _ _ _ _ _ _
   | exact ih1 _ _ _ _ _ _ _ _ _
   | exact ih2 _ _ _ _ _ _ _
   | exact ih3 _ _ _ _ _ _ _ _ _
   | exact plenumref56_Order.mono _ _
   | exact plenumref56_Power.mono _ _ _
   | exact LeO.none _
   | refine LeO.ite ?_ ?_
   | refine LeO.bind ?_ (fun _ => ?_)
  ·intro y0 y1 y2 y3 y4 y5 y6 y7 y8
   unfold plenumref56_Step.j1
   repeat' first
   | (with_reducible exact ih0 _ _ _ _ _ _ _)
   | (with_reducible exact ih1 _ _ _ _ _ _ _ _ _)
   | (with_reducible exact ih2 _ _ _ _ _ _ _)
   | (with_reducible exact ih3 _ _ _ _ _ _ _ _ _)
   | (with_reducible exact plenumref56_Order.mono _ _)
   | (with_reducible exact plenumref56_Power.mono _ _ _)
   | (with_reducible exact LeO.refl _)
   | (with_reducible exact LeO.none _)
   | (with_reducible refine LeO.ite ?_ ?_)
   | (with_reducible refine LeO.bind ?_ (fun _ => ?_))
   | exact ih0 _ _ _ _ _ _ _
   | exact ih1 _ _ _ _ _ _ _ _ _
   | exact ih2 _ _ _ _ _ _ _
   | exact ih3 _ _ _ _ _ _ _ _ _
   | exact plenumref56_Order.mono _ _
   | exact plenumref56_Power.mono _ _ _
   | exact LeO.none _
   | refine LeO.ite ?_ ?_
   | refine LeO.bind ?_ (fun _ => ?_)
  ·intro y0 y1 y2 y3 y4 y5 y6
   unfold plenumref56_Step.l1
   repeat' first
   | (with_reducible exact ih0 _ _ _ _ _ _ _)
   | (with_reducible exact ih1 _ _ _ _ _ _ _ _ _)
   | (with_reducible exact ih2 _ _ _ _ _ _ _)
   | (with_reducible exact ih3 _ _ _ _ _ _ _ _ _)
   | (with_reducible exact plenumref56_Order.mono _ _)
   | (with_reducible exact plenumref56_Power.mono _ _ _)
   | (with_reducible exact LeO.refl _)
   | (with_reducible exact LeO.none _)
   | (with_reducible refine LeO.ite ?_ ?_)
   | (with_reducible refine LeO.bind ?_ (fun _ => ?_))
   | exact ih0 _ _ _ _ _ _ _
   | exact ih1 _ _ _ _ _ _ _ _ _
   | exact ih2 _ _ _ _ _ _ _
   | exact ih3 _ _ _ _ _ _ _ _ _
   | exact plenumref56_Order.mono _ _
   | exact plenumref56_Power.mono _ _ _
   | exact LeO.none _
   | refine LeO.ite ?_ ?_
   | refine LeO.bind ?_ (fun _ => ?_)
  ·intro y0 y1 y2 y3 y4 y5 y6 y7 y8
   unfold plenumref56_Step.j3
   repeat' first
   | (with_reducible exact ih0 _ _ _ _ _ _ _)
   | (with_reducible exact ih1 _ _ _ _ _ _ _ _ _)
   | (with_reducible exact ih2 _ _ _ _ _ _ _)
   | (with_reducible exact ih3 _ _ _ _ _ _ _ _ _)
   | (with_reducible exact plenumref56_Order.mono _ _)
   | (with_reducible exact plenumref56_Power.mono _ _ _)
   | (with_reducible exact LeO.refl _)
   | (with_reducible exact LeO.none _)
   | (with_reducible refine LeO.ite ?_ ?_)
   | (with_reducible refine LeO.bind ?_ (fun _ => ?_))
   | exact ih0 _ _ _ _ _ _ _
   | exact ih1 _ _ _ _ _ _ _ _ _
   | exact ih2 _ _ _ _ _ _ _
   | exact ih3 _ _ _ _ _ _ _ _ _
   | exact plenumref56_Order.mono _ _
   | exact plenumref56_Power.mono _ _ _
   | exact LeO.none _
   | refine LeO.ite ?_ ?_
   | refine LeO.bind ?_ (fun _ => ?_)
theorem plenumref56_Step.mono : ∀ a0 a1 a2 a3 a4 k,LeO (plenumref56_Step.f k a0 a1 a2 a3 a4) (plenumref56_Step.f (k + 1) a0 a1 a2 a3 a4) := by
 intro a0 a1 a2 a3 a4 k
 obtain ⟨ih0,ih1,ih2,ih3⟩ := plenumref56_Step.mono_l k
 unfold plenumref56_Step.f
 repeat' first
   | (with_reducible exact ih0 _ _ _ _ _ _ _)
   | (with_reducible exact ih1 _ _ _ _ _ _ _ _ _)
   | (with_reducible exact ih2 _ _ _ _ _ _ _)
   | (with_reducible exact ih3 _ _ _ _ _ _ _ _ _)
   | (with_reducible exact plenumref56_Order.mono _ _)
   | (with_reducible exact plenumref56_Power.mono _ _ _)
   | (with_reducible exact LeO.refl _)
   | (with_reducible exact LeO.none _)
   | (with_reducible refine LeO.ite ?_ ?_)
   | (with_reducible refine LeO.bind ?_ (fun _ => ?_))
   | exact ih0 _ _ _ _ _ _ _
   | exact ih1 _ _ _ _ _ _ _ _ _
   | exact ih2 _ _ _ _ _ _ _
   | exact ih3 _ _ _ _ _ _ _ _ _
   | exact plenumref56_Order.mono _ _
   | exact plenumref56_Power.mono _ _ _
   | exact LeO.none _
   | refine LeO.ite ?_ ?_
   | refine LeO.bind ?_ (fun _ => ?_)
def plenumref56_Step.T8 : Bool × List (List Nat × List Nat) := (true,[([],[]),([],[]),([],[]),([1,2],[1,2]),([0,3],[0,3]),([],[]),([4,5],[4,5]),([6,3],[6]),([7],[7]),([7],[7]),([8,9,7],[7,8,9]),([10,7],[7,10]),([11,7],[7,11]),([12,7],[7,12]),([7,13],[7,13]),([14,7],[14]),([15],[15]),([15],[15]),([16,17,15],[15,16,17]),([18,15],[15,18]),([15],[15]),([15],[15]),([20,21,15],[15,20,21]),([22,15],[15,22]),([15],[15]),([19,23,24,15,15],[15,19,23,24]),([15,25],[15,25])])
def plenumref56_Step.B8 : List Nat := [0,0,0,6,15,0,63,127,255,255,1023,2047,4095,8191,16383,32767,65535,65535,262143,524287,65535,65535,3211263,7405567,65535,33554431,67108863]
theorem plenumref56_Step.tab8 : rtab .any (opsOf Try.f15 8) = plenumref56_Step.T8 := by kernel_rfl
theorem plenumref56_Step.bits8 : waitsOk plenumref56_Step.T8.2 plenumref56_Step.B8 = true := by kernel_rfl
def plenumref56_Step.T15 : Bool × List (List Nat × List Nat) := (true,[([],[]),([],[]),([0,1],[0,1]),([2],[2]),([3],[3]),([4],[4]),([5],[5]),([5],[5]),([6,7,5],[5,6,7]),([8,5],[5,8]),([5],[5]),([5],[5]),([10,11,5],[5,10,11]),([12,5],[5,12]),([5],[5]),([9,13,14,5,5],[5,9,13,14]),([5,15],[5,15]),([16,15],[16]),([17],[17]),([17],[17]),([17],[17]),([19,20,17,17],[17,19,20]),([18,21,17],[17,18,21]),([17],[17]),([17],[17]),([23,24,17],[17,23,24]),([25,17],[17,25]),([26,17],[17,26]),([22,27,17],[17,22,27]),([17],[17]),([28,29,17],[17,28,29]),([17,30],[17,30])])
def plenumref56_Step.B15 : List Nat := [0,0,3,7,15,31,63,63,255,511,63,63,3135,7231,63,32767,65535,131071,262143,262143,262143,1835007,4194303,262143,262143,25427967,58982399,126091263,268435455,262143,1073741823,2147483647]
theorem plenumref56_Step.tab15 : rtab .any (opsOf Try.f15 15) = plenumref56_Step.T15 := by kernel_rfl
theorem plenumref56_Step.bits15 : waitsOk plenumref56_Step.T15.2 plenumref56_Step.B15 = true := by kernel_rfl
set_option maxHeartbeats 100000000 in
set_option maxRecDepth 100000 in
theorem plenumref56_Step.calls (k : Nat) (A0 : Option Addr) (c0 : Nat) (l0 : List (S43)) (A1 : Option Addr) (c1 : Nat) (l1 : List (S59)) (a2 : Int) (a3 : Int) (a4 : Int) (r : List (S59)) (w : World) (hr0 : Kd.C k43 w A0 l0.length l0) (hc0 : l0.length ≤ c0) (hr1 : Kd.C k59 w A1 l1.length l1) (hc1 : l1.length ≤ c1) (h : plenumref56_Step.f k l0 l1 a2 a3 a4 = some r) :
  Calls Try.prog 15 #[.slice A0 l0.length c0,.slice A1 l1.length c1,.int .i64 a2,.int .i64 a3,.int .i64 a4] w fun e w' => ∃ v0_ : Value,e = .returned (v0_) ∧ Kd.R k59 59 w' w.heap.size (fun _ => True) v0_ r ∧ Below w.heap.size w w' := by
 have hu43 := Try.underlying43
 have hu59 := Try.underlying59
 have HR0 := Yd hr0
 have HC0 := Yd hc0
 clear hr0 hc0
 have HR1 := Yd hr1
 have HC1 := Yd hc1
 clear hr1 hc1
 have HB := Yd (Below.refl w.heap.size w)
 have H : ((some (([] : List (S59)) : List (S59))).bind fun y363 => (if y363.length + l1.length < 8796093022208 then ((some (y363 ++ l1 : List (S59))).bind fun y366 => ((plenumref56_Order.f k l0).bind fun t369 => ((plenumref56_Power.f k l0 y366).bind fun t372 => (if (wrap64 (a2 + t372)) > a3 then (plenumref56_Step.l0 k l0 a2 a3 a4 y366 t369 0) else (plenumref56_Step.l1 k l0 a2 a3 a4 y366 t369 (wrap64 ((t369.length : Int) - 1))))))) else (none))) = some r := h
 clear h
 obtain ⟨y363,hy363⟩ : ∃ y_ : List (S59),y_ = (([] : List (S59))) := ⟨_,rfl⟩
 replace H : (if y363.length + l1.length < 8796093022208 then ((some (y363 ++ l1 : List (S59))).bind fun y366 => ((plenumref56_Order.f k l0).bind fun t369 => ((plenumref56_Power.f k l0 y366).bind fun t372 => (if (wrap64 (a2 + t372)) > a3 then (plenumref56_Step.l0 k l0 a2 a3 a4 y366 t369 0) else (plenumref56_Step.l1 k l0 a2 a3 a4 y366 t369 (wrap64 ((t369.length : Int) - 1))))))) else (none)) = some r := by first | (rw [hy363];with_reducible exact H) | (have H2_ := (Option.bind_some _ _).symm.trans H;rw [hy363];with_reducible exact H2_) | (have H2_ := (Option.bind_some _ _).symm.trans H;with_reducible exact H2_) | with_reducible exact H | (rw [hy363];exact H) | exact H
 have Ny363 := Yd hy363
 clear hy363
 by_cases c6 : y363.length + l1.length < 8796093022208
 case neg => rw [if_neg c6] at H;exact absurd H (by simp)
 rw [if_pos c6] at H
 have LMc6 := Yd c6
 clear c6
 obtain ⟨y366,hy366⟩ : ∃ y_ : List (S59),y_ = (y363 ++ l1) := ⟨_,rfl⟩
 replace H : ((plenumref56_Order.f k l0).bind fun t369 => ((plenumref56_Power.f k l0 y366).bind fun t372 => (if (wrap64 (a2 + t372)) > a3 then (plenumref56_Step.l0 k l0 a2 a3 a4 y366 t369 0) else (plenumref56_Step.l1 k l0 a2 a3 a4 y366 t369 (wrap64 ((t369.length : Int) - 1)))))) = some r := by first | (rw [hy366];with_reducible exact H) | (have H2_ := (Option.bind_some _ _).symm.trans H;rw [hy366];with_reducible exact H2_) | (have H2_ := (Option.bind_some _ _).symm.trans H;with_reducible exact H2_) | with_reducible exact H | (rw [hy366];exact H) | exact H
 have Ny366 := Yd hy366
 clear hy366
 replace H := Option.bind_eq_some_iff.mp H
 obtain ⟨t369,A70,H⟩ := H
 replace H : ((plenumref56_Power.f k l0 y366).bind fun t372 => (if (wrap64 (a2 + t372)) > a3 then (plenumref56_Step.l0 k l0 a2 a3 a4 y366 t369 0) else (plenumref56_Step.l1 k l0 a2 a3 a4 y366 t369 (wrap64 ((t369.length : Int) - 1))))) = some r := H
 have A7 := Yd A70
 clear A70
 replace H := Option.bind_eq_some_iff.mp H
 obtain ⟨t372,A80,H⟩ := H
 replace H : (if (wrap64 (a2 + t372)) > a3 then (plenumref56_Step.l0 k l0 a2 a3 a4 y366 t369 0) else (plenumref56_Step.l1 k l0 a2 a3 a4 y366 t369 (wrap64 ((t369.length : Int) - 1)))) = some r := H
 have A8 := Yd A80
 clear A80
 by_cases c9 : (wrap64 (a2 + t372)) > a3
 ·rw [if_pos c9] at H
  have c9b0 : decide (a3 < (wrap64 (a2 + t372))) = true := decide_eq_true c9
  clear c9
  have H' := Yd H
  clear H
  go_enter Try.func15,Try.ntmps15
  go_wp2_with (first | ((with_reducible refine gate_dst (N := 17) rfl ?_);refine Kd.R_lit k59 _ 59 ?hg (N := 17) ?hd (xs := ([] : List (S59))) (inner := []) (ok := fun _ => True) (okp := fun _ => True) ?hr ?hp (fun _ hk => hk) trivial (Below.refl _ _) (Nat.le_refl _) (by simp) ?_;(case hd => rfl);(case hg => rfl);(case hr => first | (go_simp;done) | (go_simp;rfl));(case hp => exact (Reps.none _ _));intro v364 w10 ho11 hb hg_ hnew_;clear hg_ hnew_;(first | rw [← Ny363.out] at ho11 | (simp only [Int.reduceToNat] at ho11;rw [← Ny363.out] at ho11));have n0_ := Yd (Kd.R_lower ho11 (below_size (Y3 HB.out)));have n1_ := Yd (below_step (Y3 HB.out) hb);clear HB;have HO365 := n0_;have HB := n1_;clear n0_ n1_;clear hb ho11) | ((with_reducible refine gate_builtin (b := .append) (xs := #[.tmp 17,.tmp 18]) rfl ?_);at_builtin;refine Kd.R_append_rows k59 (w0 := w) w.heap.size rfl (.tmp 17) (.tmp 18) 23 59 (.agg #[(.bool false),(.int .i64 0)]) 16 rfl Try.underlying23 info59 rfl (by decide) (by omega) v364 y363 l1 _ _ _ (fun _ => True) (fun _ => False) rfl rfl ?aO ?aR (fun _ _ h => h) (fun _ h => h.elim) ?aF ?aB ?aS ?aL ?_;(case aR => repeat (first | exact (Kd.C_below HR1.out HB.out) | (with_reducible refine Kd.C_alloc ?_ _) | (with_reducible refine Kd.C_drewN ?_ _) | (with_reducible refine Kd.C_drew ?_)));(case aB => exact (Y3 HB.out));(case aF => exact (fun _ _ => trivial));(case aO => exact (Y5 HO365.out));(case aS => exact (below_size (Y3 HB.out)));(case aL => have := LMc6.out;omega);intro v367 w12 ho hb hg hat;rw [← Ny366.out] at ho;have n0_ := Yd (hb);have n1_ := Yd (ho);clear HB;clear HO365;have HB := n0_;have HO368 := n1_;clear n0_ n1_;clear ho hb hg hat) | ((with_reducible refine gate_callee (f := 30) rfl ?_);refine goesL_ (some 21) rfl rfl Try.func30 (by kernel_rfl) rfl #[.slice A0 l0.length c0] rfl Y8 ?_;(with_reducible refine (plenumref56_Order.calls k _ _ l0 t369 _ ?side1 ?side2 A7.out).mono ?_);(case side1 => exact Y11 (Kd.C_below HR0.out HB.out));(case side2 => exact HC0.out);rintro e w13 ⟨v370,rfl,ho0,hb⟩;refine ⟨_,rfl,?_⟩;have n0_ := Yd (Kd.R_below (Y5 HO368.out) hb);have n1_ := Yd (Kd.R_lower ho0 (below_size (Y3 HB.out)));have n2_ := Yd (below_step (Y3 HB.out) hb);clear HO368;clear HB;have HO368 := n0_;have HO371 := n1_;have HB := n2_;clear n0_ n1_ n2_;(try clear hb);(try clear hb2);(try clear hk);(try clear hi);(try clear ho0);obtain ⟨Ao14,co14,eo14⟩ := Kd.R_slice HO368.out;subst eo14) | ((with_reducible refine gate_callee (f := 10) rfl ?_);refine goesL_ (some 25) rfl rfl Try.func10 (by kernel_rfl) rfl #[.slice A0 l0.length c0,.slice Ao14 y366.length co14] rfl Y8 ?_;(with_reducible refine (plenumref56_Power.calls k _ _ l0 _ _ y366 t372 _ ?side1 ?side2 ?side3 ?side4 A8.out).mono ?_);(case side1 => exact Y11 (Kd.C_below HR0.out HB.out));(case side2 => exact HC0.out);(case side3 => repeat (first | exact (Kd.R_reads' HO368.out).2.2 | (with_reducible refine Kd.C_alloc ?_ _) | (with_reducible refine Kd.C_drewN ?_ _) | (with_reducible refine Kd.C_drew ?_)));(case side4 => exact (Kd.R_reads' HO368.out).2.1);rintro e w' ⟨rfl,⟨nd,rfl⟩⟩;refine ⟨_,rfl,?_⟩))
  go_loopg [13] k (fun kq v13 w' => ∃ (x11_1 : List (S59)) (x13_1 : Int),v13 = .int .i64 x13_1 ∧ Aside0 (plenumref56_Step.l0 kq l0 a2 a3 a4 x11_1 t369 x13_1 = some r) ∧ Aside0 (kq ≤ k) ∧ Aside0 (Kd.R k59 59 w' w.heap.size (fun _ => True) (.slice Ao14 y366.length co14) x11_1) ∧ Aside0 (Kd.R (Kd.int .i64) 3 w' w.heap.size (fun _ => True) v370 t369) ∧ Aside0 (Below w.heap.size w w'))
  case atStart => exact ⟨(y366),(0),Y12,H',⟨Nat.le_refl _⟩,⟨Y5 HO368.out⟩,⟨Y5 HO371.out⟩,⟨Y3 HB.out⟩⟩
  case round =>
   clear H'
   try clear c1
   try clear p2
   try clear c3
   try clear c6
   try clear p6
   try clear c9
   try clear c9b0
   try clear c10
   obtain ⟨x11_1,x13_1,rfl,HA,HK1,HO_11,HO_12,HB⟩ := hrel
   have hl11_1 := (Kd.R_reads' HO_11.out).1
   rw [hl11_1] at HO_11
   (try simp only [hl11_1])
   (try simp only [hl11_1] at HO_12)
   cases gk with
   | zero => exact absurd HA.out (by simp [plenumref56_Step.l0])
   | succ k1 =>
    have H := HA.out
    clear HA
    simp only [plenumref56_Step.l0] at H
    by_cases c15 : x13_1 < (t369.length : Int)
    ·rw [if_pos c15] at H
     have c15b0 : decide (x13_1 < (t369.length : Int)) = true := decide_eq_true c15
     (try simp only [hl11_1] at c15b0)
     clear c15
     by_cases c16 : 0 ≤ x13_1
     case neg => rw [if_neg c16] at H;exact absurd H (by simp)
     rw [if_pos c16] at H
     have c16b0 : decide (0 ≤ x13_1) = true := decide_eq_true c16
     clear c16
     have HC17 := Yd H
     clear H
     obtain ⟨Ao18,co18,eo18⟩ := Kd.R_slice HO_12.out
     subst eo18
     have p373 : 0 ≤ (x13_1 : Int) := Y9
     have q373 : x13_1 < (t369.length : Int) := Y9
     obtain ⟨ad373,e373,hx373_0⟩ := Kd.at_int (Kd.R_reads' HO_12.out).2.2 x13_1 p373 q373
     cases e373
     replace p373 := eq_true p373
     replace q373 := eq_true q373
     go_upto_region 8 with (fail)
     go_cut [65] (fun v65 wc => ∃ (kq : Nat) (x65_16 : Bool),v65 = .bool x65_16 ∧ Aside0 (plenumref56_Step.j1 kq l0 a2 a3 a4 x11_1 t369 x13_1 (rd t369 x13_1) x65_16 = some r) ∧ Aside0 (kq ≤ k1) ∧ Aside0 (Kd.R k59 59 wc w.heap.size (fun _ => True) (.slice Ao14 x11_1.length co14) x11_1) ∧ Aside0 (Kd.R (Kd.int .i64) 3 wc w.heap.size (fun _ => True) (.slice (some ad373) t369.length co18) t369) ∧ Aside0 (Below w.heap.size w wc))
     case first =>
      have H := HC17.out
      clear HC17
      replace H := Option.bind_eq_some_iff.mp H
      obtain ⟨t374,A190,H⟩ := H
      replace H : (if (wrap64 (a2 + t374)) > a3 then (if 0 ≤ (rd t369 x13_1) then (if (rd t369 x13_1) < (x11_1.length : Int) then (if ((rd_T59 x11_1 (rd t369 x13_1)).f0 = true) then (plenumref56_Step.j1 k1 l0 a2 a3 a4 x11_1 t369 x13_1 (rd t369 x13_1) false) else (if (rd t369 x13_1) < (l0.length : Int) then ((plenumref56_Free.f ((rd_T43 l0 (rd t369 x13_1)).f0) ((rd_T43 l0 (rd t369 x13_1)).f1) ((rd_T43 l0 (rd t369 x13_1)).f2) ((rd_T43 l0 (rd t369 x13_1)).f3) ((rd_T43 l0 (rd t369 x13_1)).f4) ((rd_T59 x11_1 (rd t369 x13_1)).f0) ((rd_T59 x11_1 (rd t369 x13_1)).f1) a4).bind fun t378 => (plenumref56_Step.j1 k1 l0 a2 a3 a4 x11_1 t369 x13_1 (rd t369 x13_1) t378)) else (none))) else (none)) else (none)) else (plenumref56_Step.j1 k1 l0 a2 a3 a4 x11_1 t369 x13_1 (rd t369 x13_1) false)) = some r := H
      have A19 := Yd A190
      clear A190
      by_cases c20 : (wrap64 (a2 + t374)) > a3
      ·rw [if_pos c20] at H
       have c20b0 : decide (a3 < (wrap64 (a2 + t374))) = true := decide_eq_true c20
       clear c20
       (first | rw [c20b0] | (simp only [i64_w,i32_w];rw [c20b0]) | skip)
       by_cases c21 : 0 ≤ (rd t369 x13_1)
       case neg => rw [if_neg c21] at H;exact absurd H (by simp)
       rw [if_pos c21] at H
       have c21b0 : decide (0 ≤ (rd t369 x13_1)) = true := decide_eq_true c21
       clear c21
       by_cases c22 : (rd t369 x13_1) < (x11_1.length : Int)
       case neg => rw [if_neg c22] at H;exact absurd H (by simp)
       rw [if_pos c22] at H
       have c22b0 : decide ((rd t369 x13_1) < (x11_1.length : Int)) = true := decide_eq_true c22
       (try simp only [hl11_1] at c22b0)
       clear c22
       obtain ⟨bq23,hbq23⟩ : ∃ b_ : Bool,b_ = ((rd_T59 x11_1 (rd t369 x13_1)).f0) := ⟨_,rfl⟩
       replace H : (if (bq23 = true) then (plenumref56_Step.j1 k1 l0 a2 a3 a4 x11_1 t369 x13_1 (rd t369 x13_1) false) else (if (rd t369 x13_1) < (l0.length : Int) then ((plenumref56_Free.f ((rd_T43 l0 (rd t369 x13_1)).f0) ((rd_T43 l0 (rd t369 x13_1)).f1) ((rd_T43 l0 (rd t369 x13_1)).f2) ((rd_T43 l0 (rd t369 x13_1)).f3) ((rd_T43 l0 (rd t369 x13_1)).f4) (bq23) ((rd_T59 x11_1 (rd t369 x13_1)).f1) a4).bind fun t378 => (plenumref56_Step.j1 k1 l0 a2 a3 a4 x11_1 t369 x13_1 (rd t369 x13_1) t378)) else (none))) = some r := by rw [← hbq23] at H;exact H
       have Nbq23 := Yd hbq23
       clear hbq23
       (try rw [← Nbq23.out])
       by_cases c24 : (bq23 = true)
       ·subst c24
        have H1 : (plenumref56_Step.j1 k1 l0 a2 a3 a4 x11_1 t369 x13_1 (rd t369 x13_1) false) = some r := by rw [if_pos rfl] at H;exact H
        clear H
        have H := H1
        clear H1
        have H' := Yd H
        clear H
        try go_wp2
        have n0_ := Yd (Kd.R_drew HO_11.out)
        have n1_ := Yd (Kd.R_drew HO_12.out)
        have n2_ := Yd (below_drew1 HB.out)
        clear HO_11
        clear HO_12
        clear HB
        have HO_11 := n0_
        have HO_12 := n1_
        have HB := n2_
        clear n0_ n1_ n2_
        have p375 : 0 ≤ ((rd t369 x13_1) : Int) := Y9
        have q375 : (rd t369 x13_1) < (x11_1.length : Int) := Y9
        obtain ⟨ad375,e375,hx375_0,hx375_1⟩ := at_T59 (Kd.R_reads' HO_11.out).2.2 (rd t369 x13_1) p375 q375
        (try rw [← Nbq23.out] at hx375_0)
        (try rw [← Nbq23.out] at hw375_0)
        cases e375
        replace p375 := eq_true p375
        replace q375 := eq_true q375
        refine start_ (n := 27) (S := fun w' => w'.cell? (ad375.add (((rd t369 x13_1)).toNat * 2)) = some (.bool true) ∧ w'.cell? ⟨(ad375.add (((rd t369 x13_1)).toNat * 2)).block,(ad375.add (((rd t369 x13_1)).toNat * 2)).off + 1,none⟩ = some (.int .i64 ((rd_T59 x11_1 (rd t369 x13_1)).f1))) (ds := []) #[YF,YF,YF,YF,YF,YF,YF,YF,YF,YF,YF,YF,YF,YF,YF,YF,YF,YF,YF,YF,YF,YF,YF,YF,YF,YF,YF] (by kernel_rfl) rfl rfl ⟨hx375_0,hx375_1⟩ (fun hHeld => ?_);refine with_tabW plenumref56_Step.tab8 plenumref56_Step.bits8 (fun HT_ HW_ => ?_)
        generalize wr.drew = w25 at HO_11 HO_12 HB hx375_0 hx375_1 hHeld ⊢
        refine pure_ (i := 0) (N := some 39) (v := ?_) (a' := ?_) #[YT,YF,YF,YF,YF,YF,YF,YF,YF,YF,YF,YF,YF,YF,YF,YF,YF,YF,YF,YF,YF,YF,YF,YF,YF,YF,YF] rfl rfl (any_of HT_.out (by kernel_rfl)) (fun _ _ _ h => h) (Or.inl ⟨by rfl,?_⟩) ?_ ?_
        rotate_left
        ·intro w'
         go_simp
         with_reducible rfl
        rotate_left
        ·simp only [Act.put,Ya,Yb,Yc,i64_w,i32_w]
         rfl
        refine pure_ (i := 1) (N := some 40) (v := ?_) (a' := ?_) #[YT,YT,YF,YF,YF,YF,YF,YF,YF,YF,YF,YF,YF,YF,YF,YF,YF,YF,YF,YF,YF,YF,YF,YF,YF,YF,YF] rfl rfl (any_of HT_.out (by kernel_rfl)) (fun _ _ _ h => h) (Or.inl ⟨by rfl,?_⟩) ?_ ?_
        rotate_left
        ·intro w'
         go_simp
         with_reducible rfl
        rotate_left
        ·simp only [Act.put,Ya,Yb,Yc,i64_w,i32_w]
         rfl
        refine pure_ (i := 2) (N := some 41) (v := ?_) (a' := ?_) #[YT,YT,YT,YF,YF,YF,YF,YF,YF,YF,YF,YF,YF,YF,YF,YF,YF,YF,YF,YF,YF,YF,YF,YF,YF,YF,YF] rfl rfl (any_of HT_.out (by kernel_rfl)) (fun _ _ _ h => h) (Or.inl ⟨by rfl,?_⟩) ?_ ?_
        rotate_left
        ·intro w'
         go_simp
         with_reducible rfl
        rotate_left
        ·simp only [Act.put,Ya,Yb,Yc,i64_w,i32_w]
         rfl
        refine pure_ (i := 5) (N := some 44) (v := ?_) (a' := ?_) #[YT,YT,YT,YF,YF,YT,YF,YF,YF,YF,YF,YF,YF,YF,YF,YF,YF,YF,YF,YF,YF,YF,YF,YF,YF,YF,YF] rfl rfl (any_of HT_.out (by kernel_rfl)) (fun _ _ _ h => h) (Or.inl ⟨by rfl,?_⟩) ?_ ?_
        rotate_left
        ·intro w'
         go_simp
         with_reducible rfl
        rotate_left
        ·simp only [Act.put,Ya,Yb,Yc,i64_w,i32_w]
         rfl
        refine one_ (i := 3) (N := some 42) #[YT,YT,YT,YT,YF,YT,YF,YF,YF,YF,YF,YF,YF,YF,YF,YF,YF,YF,YF,YF,YF,YF,YF,YF,YF,YF,YF] rfl rfl (one_of HT_.out (by kernel_rfl)) (by decide) (fun K hK => ?_)
        refine goes_ Try.func10 (by kernel_rfl) rfl #[.slice A0 l0.length c0,.slice (some ad375) x11_1.length co14] (by rfl) rfl rfl Y8 ?_
        with_reducible refine (plenumref56_Power.calls k1 _ _ l0 _ _ x11_1 t374 _ ?side1 ?side2 ?side3 ?side4 A19.out).mono ?_
        (case side1 => exact Y11 (Kd.C_below HR0.out HB.out))
        (case side2 => exact HC0.out)
        (case side3 => repeat (first | exact (Kd.R_reads' HO_11.out).2.2 | (with_reducible refine Kd.C_alloc ?_ _) | (with_reducible refine Kd.C_drewN ?_ _) | (with_reducible refine Kd.C_drew ?_)))
        (case side4 => exact (Kd.R_reads' HO_11.out).2.1)
        rintro e w' ⟨rfl,⟨nd,rfl⟩⟩
        refine ⟨_,rfl,?_⟩
        refine hK.out _ _ ⟨hHeld.1,hHeld.2⟩ (fun hHeld => ?_)
        clear hK K
        refine norm_ (a' := ?_) ?_ ?_
        rotate_left
        ·show Act.put _ (some 42) _ = _
         simp only [Act.put,Ya,Yb,Yc,i64_w,i32_w]
         rfl
        refine pure_ (i := 4) (N := some 43) (v := ?_) (a' := ?_) #[YT,YT,YT,YT,YT,YT,YF,YF,YF,YF,YF,YF,YF,YF,YF,YF,YF,YF,YF,YF,YF,YF,YF,YF,YF,YF,YF] rfl rfl (any_of HT_.out (by kernel_rfl)) (fun _ _ _ h => h) (Or.inl ⟨by rfl,?_⟩) ?_ ?_
        rotate_left
        ·intro w'
         go_simp
         with_reducible rfl
        rotate_left
        ·simp only [Act.put,Ya,Yb,Yc,i64_w,i32_w]
         rfl
        refine pure_ (i := 6) (N := some 45) (v := ?_) (a' := ?_) #[YT,YT,YT,YT,YT,YT,YT,YF,YF,YF,YF,YF,YF,YF,YF,YF,YF,YF,YF,YF,YF,YF,YF,YF,YF,YF,YF] rfl rfl (any_of HT_.out (by kernel_rfl)) (fun _ _ _ h => h) (Or.inl ⟨by rfl,?_⟩) ?_ ?_
        rotate_left
        ·intro w'
         go_simp
         with_reducible rfl
        rotate_left
        ·simp only [Act.put,Ya,Yb,Yc,i64_w,i32_w]
         rfl
        refine pure_ (i := 7) (N := some 46) (v := ?_) (a' := ?_) #[YT,YT,YT,YT,YT,YT,YT,YT,YF,YF,YF,YF,YF,YF,YF,YF,YF,YF,YF,YF,YF,YF,YF,YF,YF,YF,YF] rfl rfl (any_of HT_.out (by kernel_rfl)) (fun _ _ _ h => h) (Or.inl ⟨by rfl,?_⟩) ?_ ?_
        rotate_left
        ·intro w'
         go_simp
         with_reducible rfl
        rotate_left
        ·simp only [Act.put,Ya,Yb,Yc,i64_w,i32_w]
         rfl
        refine pure_ (i := 8) (N := some 47) (v := ?_) (a' := ?_) #[YT,YT,YT,YT,YT,YT,YT,YT,YT,YF,YF,YF,YF,YF,YF,YF,YF,YF,YF,YF,YF,YF,YF,YF,YF,YF,YF] rfl rfl (any_of HT_.out (by kernel_rfl)) (fun _ _ _ h => h) (Or.inl ⟨by rfl,?_⟩) ?_ ?_
        rotate_left
        ·intro w'
         go_simp
         with_reducible rfl
        rotate_left
        ·simp only [Act.put,Ya,Yb,Yc,i64_w,i32_w]
         rfl
        refine pure_ (i := 9) (N := some 48) (v := ?_) (a' := ?_) #[YT,YT,YT,YT,YT,YT,YT,YT,YT,YT,YF,YF,YF,YF,YF,YF,YF,YF,YF,YF,YF,YF,YF,YF,YF,YF,YF] rfl rfl (any_of HT_.out (by kernel_rfl)) (fun _ _ _ h => h) (Or.inl ⟨by rfl,?_⟩) ?_ ?_
        rotate_left
        ·intro w'
         go_simp
         with_reducible rfl
        rotate_left
        ·simp only [Act.put,Ya,Yb,Yc,i64_w,i32_w]
         rfl
        refine pure_ (i := 10) (N := some 49) (v := ?_) (a' := ?_) #[YT,YT,YT,YT,YT,YT,YT,YT,YT,YT,YT,YF,YF,YF,YF,YF,YF,YF,YF,YF,YF,YF,YF,YF,YF,YF,YF] rfl rfl (any_of HT_.out (by kernel_rfl)) (fun _ _ _ h => h) (Or.inl ⟨by rfl,?_⟩) ?_ ?_
        rotate_left
        ·intro w'
         go_simp
         with_reducible rfl
        rotate_left
        ·simp only [Act.put,Ya,Yb,Yc,i64_w,i32_w]
         rfl
        refine pure_ (i := 11) (N := some 50) (v := ?_) (a' := ?_) #[YT,YT,YT,YT,YT,YT,YT,YT,YT,YT,YT,YT,YF,YF,YF,YF,YF,YF,YF,YF,YF,YF,YF,YF,YF,YF,YF] rfl rfl (any_of HT_.out (by kernel_rfl)) (fun _ _ _ h => h) (Or.inl ⟨by rfl,?_⟩) ?_ ?_
        rotate_left
        ·intro w'
         go_simp
         with_reducible rfl
        rotate_left
        ·simp only [Act.put,Ya,Yb,Yc,i64_w,i32_w]
         rfl
        refine take_ (i := 12) (N := some 51) (v := ?_) (a' := ?_) #[YT,YT,YT,YT,YT,YT,YT,YT,YT,YT,YT,YT,YT,YF,YF,YF,YF,YF,YF,YF,YF,YF,YF,YF,YF,YF,YF] rfl rfl (take_ofW HT_.out HW_.out (by kernel_rfl)) (fun _ _ _ h => h) (Or.inl ⟨by rfl,?_⟩) hHeld ?_ ?_
        rotate_left
        ·rintro w' ⟨s0,s1⟩
         go_simp
         with_reducible rfl
        rotate_left
        ·simp only [Act.put,Ya,Yb,Yc,i64_w,i32_w]
         rfl
        refine pure_ (i := 13) (N := some 52) (v := ?_) (a' := ?_) #[YT,YT,YT,YT,YT,YT,YT,YT,YT,YT,YT,YT,YT,YT,YF,YF,YF,YF,YF,YF,YF,YF,YF,YF,YF,YF,YF] rfl rfl (any_of HT_.out (by kernel_rfl)) (fun _ _ _ h => h) (Or.inl ⟨by rfl,?_⟩) ?_ ?_
        rotate_left
        ·intro w'
         go_simp
         with_reducible rfl
        rotate_left
        ·simp only [Act.put,Ya,Yb,Yc,i64_w,i32_w]
         rfl
        refine pure_ (i := 14) (N := some 53) (v := ?_) (a' := ?_) #[YT,YT,YT,YT,YT,YT,YT,YT,YT,YT,YT,YT,YT,YT,YT,YF,YF,YF,YF,YF,YF,YF,YF,YF,YF,YF,YF] rfl rfl (any_of HT_.out (by kernel_rfl)) (fun _ _ _ h => h) (Or.inl ⟨by rfl,?_⟩) ?_ ?_
        rotate_left
        ·intro w'
         go_simp
         with_reducible rfl
        rotate_left
        ·simp only [Act.put,Ya,Yb,Yc,i64_w,i32_w]
         rfl
        refine pure_ (i := 15) (N := some 54) (v := ?_) (a' := ?_) #[YT,YT,YT,YT,YT,YT,YT,YT,YT,YT,YT,YT,YT,YT,YT,YT,YF,YF,YF,YF,YF,YF,YF,YF,YF,YF,YF] rfl rfl (any_of HT_.out (by kernel_rfl)) (fun _ _ _ h => h) (Or.inl ⟨by rfl,?_⟩) ?_ ?_
        rotate_left
        ·intro w'
         go_simp
         with_reducible rfl
        rotate_left
        ·simp only [Act.put,Ya,Yb,Yc,i64_w,i32_w]
         rfl
        refine pure_ (i := 16) (N := some 55) (v := undef) (a' := ?_) #[YT,YT,YT,YT,YT,YT,YT,YT,YT,YT,YT,YT,YT,YT,YT,YT,YT,YF,YF,YF,YF,YF,YF,YF,YF,YF,YF] rfl rfl (any_of HT_.out (by kernel_rfl)) (fun _ _ _ h => h) (Or.inr ⟨by rfl,rfl⟩) ?_ ?_
        rotate_left
        ·simp only [Act.put,Ya,Yb,Yc,i64_w,i32_w]
         rfl
        refine pure_ (i := 17) (N := some 56) (v := undef) (a' := ?_) #[YT,YT,YT,YT,YT,YT,YT,YT,YT,YT,YT,YT,YT,YT,YT,YT,YT,YT,YF,YF,YF,YF,YF,YF,YF,YF,YF] rfl rfl (any_of HT_.out (by kernel_rfl)) (fun _ _ _ h => h) (Or.inr ⟨by rfl,rfl⟩) ?_ ?_
        rotate_left
        ·simp only [Act.put,Ya,Yb,Yc,i64_w,i32_w]
         rfl
        refine pure_ (i := 18) (N := some 57) (v := undef) (a' := ?_) #[YT,YT,YT,YT,YT,YT,YT,YT,YT,YT,YT,YT,YT,YT,YT,YT,YT,YT,YT,YF,YF,YF,YF,YF,YF,YF,YF] rfl rfl (any_of HT_.out (by kernel_rfl)) (fun _ _ _ h => h) (Or.inr ⟨by rfl,rfl⟩) ?_ ?_
        rotate_left
        ·simp only [Act.put,Ya,Yb,Yc,i64_w,i32_w]
         rfl
        refine pure_ (i := 19) (N := some 58) (v := undef) (a' := ?_) #[YT,YT,YT,YT,YT,YT,YT,YT,YT,YT,YT,YT,YT,YT,YT,YT,YT,YT,YT,YT,YF,YF,YF,YF,YF,YF,YF] rfl rfl (any_of HT_.out (by kernel_rfl)) (fun _ _ _ h => h) (Or.inr ⟨by rfl,rfl⟩) ?_ ?_
        rotate_left
        ·simp only [Act.put,Ya,Yb,Yc,i64_w,i32_w]
         rfl
        refine pure_ (i := 20) (N := some 59) (v := undef) (a' := ?_) #[YT,YT,YT,YT,YT,YT,YT,YT,YT,YT,YT,YT,YT,YT,YT,YT,YT,YT,YT,YT,YT,YF,YF,YF,YF,YF,YF] rfl rfl (any_of HT_.out (by kernel_rfl)) (fun _ _ _ h => h) (Or.inr ⟨by rfl,rfl⟩) ?_ ?_
        rotate_left
        ·simp only [Act.put,Ya,Yb,Yc,i64_w,i32_w]
         rfl
        refine pure_ (i := 21) (N := some 60) (v := undef) (a' := ?_) #[YT,YT,YT,YT,YT,YT,YT,YT,YT,YT,YT,YT,YT,YT,YT,YT,YT,YT,YT,YT,YT,YT,YF,YF,YF,YF,YF] rfl rfl (any_of HT_.out (by kernel_rfl)) (fun _ _ _ h => h) (Or.inr ⟨by rfl,rfl⟩) ?_ ?_
        rotate_left
        ·simp only [Act.put,Ya,Yb,Yc,i64_w,i32_w]
         rfl
        refine pure_ (i := 22) (N := some 61) (v := undef) (a' := ?_) #[YT,YT,YT,YT,YT,YT,YT,YT,YT,YT,YT,YT,YT,YT,YT,YT,YT,YT,YT,YT,YT,YT,YT,YF,YF,YF,YF] rfl rfl (any_of HT_.out (by kernel_rfl)) (fun _ _ _ h => h) (Or.inr ⟨by rfl,rfl⟩) ?_ ?_
        rotate_left
        ·simp only [Act.put,Ya,Yb,Yc,i64_w,i32_w]
         rfl
        refine pure_ (i := 23) (N := some 62) (v := undef) (a' := ?_) #[YT,YT,YT,YT,YT,YT,YT,YT,YT,YT,YT,YT,YT,YT,YT,YT,YT,YT,YT,YT,YT,YT,YT,YT,YF,YF,YF] rfl rfl (any_of HT_.out (by kernel_rfl)) (fun _ _ _ h => h) (Or.inr ⟨by rfl,rfl⟩) ?_ ?_
        rotate_left
        ·simp only [Act.put,Ya,Yb,Yc,i64_w,i32_w]
         rfl
        refine pure_ (i := 24) (N := some 63) (v := undef) (a' := ?_) #[YT,YT,YT,YT,YT,YT,YT,YT,YT,YT,YT,YT,YT,YT,YT,YT,YT,YT,YT,YT,YT,YT,YT,YT,YT,YF,YF] rfl rfl (any_of HT_.out (by kernel_rfl)) (fun _ _ _ h => h) (Or.inr ⟨by rfl,rfl⟩) ?_ ?_
        rotate_left
        ·simp only [Act.put,Ya,Yb,Yc,i64_w,i32_w]
         rfl
        refine pure_ (i := 25) (N := some 64) (v := undef) (a' := ?_) #[YT,YT,YT,YT,YT,YT,YT,YT,YT,YT,YT,YT,YT,YT,YT,YT,YT,YT,YT,YT,YT,YT,YT,YT,YT,YT,YF] rfl rfl (any_of HT_.out (by kernel_rfl)) (fun _ _ _ h => h) (Or.inr ⟨by rfl,rfl⟩) ?_ ?_
        rotate_left
        ·simp only [Act.put,Ya,Yb,Yc,i64_w,i32_w]
         rfl
        refine pure_ (i := 26) (N := some 65) (v := ?_) (a' := ?_) #[YT,YT,YT,YT,YT,YT,YT,YT,YT,YT,YT,YT,YT,YT,YT,YT,YT,YT,YT,YT,YT,YT,YT,YT,YT,YT,YT] rfl rfl (any_of HT_.out (by kernel_rfl)) (fun _ _ _ h => h) (Or.inl ⟨by rfl,?_⟩) ?_ ?_
        rotate_left
        ·intro w'
         go_simp
         with_reducible rfl
        rotate_left
        ·simp only [Act.put,Ya,Yb,Yc,i64_w,i32_w]
         rfl
        refine done_ (done_of HT_.out (by kernel_rfl)) ?_
        try go_wp2
        go_meet
        case rel => (try rw [← Nbq23.out]);exact ⟨_,(false),Y12,H',⟨by have := HK1.out;first | omega | exact Nat.le_refl _⟩,⟨by (try simp only [hl11_1]);(with_reducible repeat (first | apply Kd.R_alloc | apply Kd.R_drewN | apply Kd.R_drew));exact HO_11.out⟩,⟨by (try simp only [hl11_1]);(with_reducible repeat (first | apply Kd.R_alloc | apply Kd.R_drewN | apply Kd.R_drew));exact HO_12.out⟩,⟨Y3 HB.out⟩⟩
       ·replace c24 := Bool.eq_false_iff.mpr c24
        subst c24
        have H1 : (if (rd t369 x13_1) < (l0.length : Int) then ((plenumref56_Free.f ((rd_T43 l0 (rd t369 x13_1)).f0) ((rd_T43 l0 (rd t369 x13_1)).f1) ((rd_T43 l0 (rd t369 x13_1)).f2) ((rd_T43 l0 (rd t369 x13_1)).f3) ((rd_T43 l0 (rd t369 x13_1)).f4) (false) ((rd_T59 x11_1 (rd t369 x13_1)).f1) a4).bind fun t378 => (plenumref56_Step.j1 k1 l0 a2 a3 a4 x11_1 t369 x13_1 (rd t369 x13_1) t378)) else (none)) = some r := by rw [if_neg (show ¬ (false = true) by decide)] at H;exact H
        clear H
        have H := H1
        clear H1
        by_cases c26 : (rd t369 x13_1) < (l0.length : Int)
        case neg => rw [if_neg c26] at H;exact absurd H (by simp)
        rw [if_pos c26] at H
        have c26b0 : decide ((rd t369 x13_1) < (l0.length : Int)) = true := decide_eq_true c26
        (try simp only [hl11_1] at c26b0)
        clear c26
        replace H := Option.bind_eq_some_iff.mp H
        obtain ⟨t378,A270,H⟩ := H
        replace H : (plenumref56_Step.j1 k1 l0 a2 a3 a4 x11_1 t369 x13_1 (rd t369 x13_1) t378) = some r := H
        have A27 := Yd A270
        clear A270
        have H' := Yd H
        clear H
        try go_wp2
        have n0_ := Yd (Kd.R_drew HO_11.out)
        have n1_ := Yd (Kd.R_drew HO_12.out)
        have n2_ := Yd (below_drew1 HB.out)
        clear HO_11
        clear HO_12
        clear HB
        have HO_11 := n0_
        have HO_12 := n1_
        have HB := n2_
        clear n0_ n1_ n2_
        have p375 : 0 ≤ ((rd t369 x13_1) : Int) := Y9
        have q375 : (rd t369 x13_1) < (x11_1.length : Int) := Y9
        obtain ⟨ad375,e375,hx375_0,hx375_1⟩ := at_T59 (Kd.R_reads' HO_11.out).2.2 (rd t369 x13_1) p375 q375
        (try rw [← Nbq23.out] at hx375_0)
        (try rw [← Nbq23.out] at hw375_0)
        cases e375
        replace p375 := eq_true p375
        replace q375 := eq_true q375
        have p376 : 0 ≤ ((rd t369 x13_1) : Int) := Y9
        have q376 : (rd t369 x13_1) < (l0.length : Int) := Y9
        obtain ⟨ad376,e376,hx376_0,hx376_1,hx376_2,hx376_3,hx376_4⟩ := at_T43 HR0.out (rd t369 x13_1) p376 q376
        have hw376_4 := hx376_4
        have hw376_3 := hx376_3
        have hw376_2 := hx376_2
        have hw376_1 := hx376_1
        have hw376_0 := hx376_0
        cases e376
        replace hx376_0 := Y10 HB.out hx376_0
        replace hx376_1 := Y10 HB.out hx376_1
        replace hx376_2 := Y10 HB.out hx376_2
        replace hx376_3 := Y10 HB.out hx376_3
        replace hx376_4 := Y10 HB.out hx376_4
        replace p376 := eq_true p376
        replace q376 := eq_true q376
        have p377 : 0 ≤ ((rd t369 x13_1) : Int) := Y9
        have q377 : (rd t369 x13_1) < (x11_1.length : Int) := Y9
        obtain ⟨ad377,e377,hx377_0,hx377_1⟩ := at_T59 (Kd.R_reads' HO_11.out).2.2 (rd t369 x13_1) p377 q377
        (try rw [← Nbq23.out] at hx377_0)
        (try rw [← Nbq23.out] at hw377_0)
        obtain rfl : ad375 = ad377 := (by injection e377)
        replace p377 := eq_true p377
        replace q377 := eq_true q377
        refine start_ (n := 27) (S := fun w' => w'.cell? (ad375.add (((rd t369 x13_1)).toNat * 2)) = some (.bool false) ∧ w'.cell? ⟨(ad375.add (((rd t369 x13_1)).toNat * 2)).block,(ad375.add (((rd t369 x13_1)).toNat * 2)).off + 1,none⟩ = some (.int .i64 ((rd_T59 x11_1 (rd t369 x13_1)).f1)) ∧ w'.cell? (ad376.add (((rd t369 x13_1)).toNat * 5)) = some (.string ((rd_T43 l0 (rd t369 x13_1)).f0)) ∧ w'.cell? ⟨(ad376.add (((rd t369 x13_1)).toNat * 5)).block,(ad376.add (((rd t369 x13_1)).toNat * 5)).off + 1,none⟩ = some (.int .i64 ((rd_T43 l0 (rd t369 x13_1)).f1)) ∧ w'.cell? ⟨(ad376.add (((rd t369 x13_1)).toNat * 5)).block,(ad376.add (((rd t369 x13_1)).toNat * 5)).off + 2,none⟩ = some (.int .i64 ((rd_T43 l0 (rd t369 x13_1)).f2)) ∧ w'.cell? ⟨(ad376.add (((rd t369 x13_1)).toNat * 5)).block,(ad376.add (((rd t369 x13_1)).toNat * 5)).off + 3,none⟩ = some (.int .i64 ((rd_T43 l0 (rd t369 x13_1)).f3)) ∧ w'.cell? ⟨(ad376.add (((rd t369 x13_1)).toNat * 5)).block,(ad376.add (((rd t369 x13_1)).toNat * 5)).off + 4,none⟩ = some (.int .i64 ((rd_T43 l0 (rd t369 x13_1)).f4)) ∧ w'.cell? (ad375.add (((rd t369 x13_1)).toNat * 2)) = some (.bool (false)) ∧ w'.cell? ⟨(ad375.add (((rd t369 x13_1)).toNat * 2)).block,(ad375.add (((rd t369 x13_1)).toNat * 2)).off + 1,none⟩ = some (.int .i64 ((rd_T59 x11_1 (rd t369 x13_1)).f1))) (ds := []) #[YF,YF,YF,YF,YF,YF,YF,YF,YF,YF,YF,YF,YF,YF,YF,YF,YF,YF,YF,YF,YF,YF,YF,YF,YF,YF,YF] (by kernel_rfl) rfl rfl ⟨hx375_0,hx375_1,(Y10 HB.out hw376_0 :),(Y10 HB.out hw376_1 :),(Y10 HB.out hw376_2 :),(Y10 HB.out hw376_3 :),(Y10 HB.out hw376_4 :),hx377_0,hx377_1⟩ (fun hHeld => ?_);refine with_tabW plenumref56_Step.tab8 plenumref56_Step.bits8 (fun HT_ HW_ => ?_)
        generalize wr.drew = w28 at HO_11 HO_12 HB hx375_0 hx375_1 hx376_0 hx376_1 hx376_2 hx376_3 hx376_4 hx377_0 hx377_1 hHeld ⊢
        refine pure_ (i := 0) (N := some 39) (v := ?_) (a' := ?_) #[YT,YF,YF,YF,YF,YF,YF,YF,YF,YF,YF,YF,YF,YF,YF,YF,YF,YF,YF,YF,YF,YF,YF,YF,YF,YF,YF] rfl rfl (any_of HT_.out (by kernel_rfl)) (fun _ _ _ h => h) (Or.inl ⟨by rfl,?_⟩) ?_ ?_
        rotate_left
        ·intro w'
         go_simp
         with_reducible rfl
        rotate_left
        ·simp only [Act.put,Ya,Yb,Yc,i64_w,i32_w]
         rfl
        refine pure_ (i := 1) (N := some 40) (v := ?_) (a' := ?_) #[YT,YT,YF,YF,YF,YF,YF,YF,YF,YF,YF,YF,YF,YF,YF,YF,YF,YF,YF,YF,YF,YF,YF,YF,YF,YF,YF] rfl rfl (any_of HT_.out (by kernel_rfl)) (fun _ _ _ h => h) (Or.inl ⟨by rfl,?_⟩) ?_ ?_
        rotate_left
        ·intro w'
         go_simp
         with_reducible rfl
        rotate_left
        ·simp only [Act.put,Ya,Yb,Yc,i64_w,i32_w]
         rfl
        refine pure_ (i := 2) (N := some 41) (v := ?_) (a' := ?_) #[YT,YT,YT,YF,YF,YF,YF,YF,YF,YF,YF,YF,YF,YF,YF,YF,YF,YF,YF,YF,YF,YF,YF,YF,YF,YF,YF] rfl rfl (any_of HT_.out (by kernel_rfl)) (fun _ _ _ h => h) (Or.inl ⟨by rfl,?_⟩) ?_ ?_
        rotate_left
        ·intro w'
         go_simp
         with_reducible rfl
        rotate_left
        ·simp only [Act.put,Ya,Yb,Yc,i64_w,i32_w]
         rfl
        refine pure_ (i := 5) (N := some 44) (v := ?_) (a' := ?_) #[YT,YT,YT,YF,YF,YT,YF,YF,YF,YF,YF,YF,YF,YF,YF,YF,YF,YF,YF,YF,YF,YF,YF,YF,YF,YF,YF] rfl rfl (any_of HT_.out (by kernel_rfl)) (fun _ _ _ h => h) (Or.inl ⟨by rfl,?_⟩) ?_ ?_
        rotate_left
        ·intro w'
         go_simp
         with_reducible rfl
        rotate_left
        ·simp only [Act.put,Ya,Yb,Yc,i64_w,i32_w]
         rfl
        refine one_ (i := 3) (N := some 42) #[YT,YT,YT,YT,YF,YT,YF,YF,YF,YF,YF,YF,YF,YF,YF,YF,YF,YF,YF,YF,YF,YF,YF,YF,YF,YF,YF] rfl rfl (one_of HT_.out (by kernel_rfl)) (by decide) (fun K hK => ?_)
        refine goes_ Try.func10 (by kernel_rfl) rfl #[.slice (some ad376) l0.length c0,.slice (some ad375) x11_1.length co14] (by rfl) rfl rfl Y8 ?_
        with_reducible refine (plenumref56_Power.calls k1 _ _ l0 _ _ x11_1 t374 _ ?side1 ?side2 ?side3 ?side4 A19.out).mono ?_
        (case side1 => exact Y11 (Kd.C_below HR0.out HB.out))
        (case side2 => exact HC0.out)
        (case side3 => repeat (first | exact (Kd.R_reads' HO_11.out).2.2 | (with_reducible refine Kd.C_alloc ?_ _) | (with_reducible refine Kd.C_drewN ?_ _) | (with_reducible refine Kd.C_drew ?_)))
        (case side4 => exact (Kd.R_reads' HO_11.out).2.1)
        rintro e w' ⟨rfl,⟨nd,rfl⟩⟩
        refine ⟨_,rfl,?_⟩
        refine hK.out _ _ ⟨hHeld.1,hHeld.2.1,(Y10 HB.out hw376_0 :),(Y10 HB.out hw376_1 :),(Y10 HB.out hw376_2 :),(Y10 HB.out hw376_3 :),(Y10 HB.out hw376_4 :),hHeld.2.2.2.2.2.2.2.1,hHeld.2.2.2.2.2.2.2.2⟩ (fun hHeld => ?_)
        clear hK K
        refine norm_ (a' := ?_) ?_ ?_
        rotate_left
        ·show Act.put _ (some 42) _ = _
         simp only [Act.put,Ya,Yb,Yc,i64_w,i32_w]
         rfl
        refine pure_ (i := 4) (N := some 43) (v := ?_) (a' := ?_) #[YT,YT,YT,YT,YT,YT,YF,YF,YF,YF,YF,YF,YF,YF,YF,YF,YF,YF,YF,YF,YF,YF,YF,YF,YF,YF,YF] rfl rfl (any_of HT_.out (by kernel_rfl)) (fun _ _ _ h => h) (Or.inl ⟨by rfl,?_⟩) ?_ ?_
        rotate_left
        ·intro w'
         go_simp
         with_reducible rfl
        rotate_left
        ·simp only [Act.put,Ya,Yb,Yc,i64_w,i32_w]
         rfl
        refine pure_ (i := 6) (N := some 45) (v := ?_) (a' := ?_) #[YT,YT,YT,YT,YT,YT,YT,YF,YF,YF,YF,YF,YF,YF,YF,YF,YF,YF,YF,YF,YF,YF,YF,YF,YF,YF,YF] rfl rfl (any_of HT_.out (by kernel_rfl)) (fun _ _ _ h => h) (Or.inl ⟨by rfl,?_⟩) ?_ ?_
        rotate_left
        ·intro w'
         go_simp
         with_reducible rfl
        rotate_left
        ·simp only [Act.put,Ya,Yb,Yc,i64_w,i32_w]
         rfl
        refine pure_ (i := 7) (N := some 46) (v := ?_) (a' := ?_) #[YT,YT,YT,YT,YT,YT,YT,YT,YF,YF,YF,YF,YF,YF,YF,YF,YF,YF,YF,YF,YF,YF,YF,YF,YF,YF,YF] rfl rfl (any_of HT_.out (by kernel_rfl)) (fun _ _ _ h => h) (Or.inl ⟨by rfl,?_⟩) ?_ ?_
        rotate_left
        ·intro w'
         go_simp
         with_reducible rfl
        rotate_left
        ·simp only [Act.put,Ya,Yb,Yc,i64_w,i32_w]
         rfl
        refine pure_ (i := 8) (N := some 47) (v := ?_) (a' := ?_) #[YT,YT,YT,YT,YT,YT,YT,YT,YT,YF,YF,YF,YF,YF,YF,YF,YF,YF,YF,YF,YF,YF,YF,YF,YF,YF,YF] rfl rfl (any_of HT_.out (by kernel_rfl)) (fun _ _ _ h => h) (Or.inl ⟨by rfl,?_⟩) ?_ ?_
        rotate_left
        ·intro w'
         go_simp
         with_reducible rfl
        rotate_left
        ·simp only [Act.put,Ya,Yb,Yc,i64_w,i32_w]
         rfl
        refine pure_ (i := 9) (N := some 48) (v := ?_) (a' := ?_) #[YT,YT,YT,YT,YT,YT,YT,YT,YT,YT,YF,YF,YF,YF,YF,YF,YF,YF,YF,YF,YF,YF,YF,YF,YF,YF,YF] rfl rfl (any_of HT_.out (by kernel_rfl)) (fun _ _ _ h => h) (Or.inl ⟨by rfl,?_⟩) ?_ ?_
        rotate_left
        ·intro w'
         go_simp
         with_reducible rfl
        rotate_left
        ·simp only [Act.put,Ya,Yb,Yc,i64_w,i32_w]
         rfl
        refine pure_ (i := 10) (N := some 49) (v := ?_) (a' := ?_) #[YT,YT,YT,YT,YT,YT,YT,YT,YT,YT,YT,YF,YF,YF,YF,YF,YF,YF,YF,YF,YF,YF,YF,YF,YF,YF,YF] rfl rfl (any_of HT_.out (by kernel_rfl)) (fun _ _ _ h => h) (Or.inl ⟨by rfl,?_⟩) ?_ ?_
        rotate_left
        ·intro w'
         go_simp
         with_reducible rfl
        rotate_left
        ·simp only [Act.put,Ya,Yb,Yc,i64_w,i32_w]
         rfl
        refine pure_ (i := 11) (N := some 50) (v := ?_) (a' := ?_) #[YT,YT,YT,YT,YT,YT,YT,YT,YT,YT,YT,YT,YF,YF,YF,YF,YF,YF,YF,YF,YF,YF,YF,YF,YF,YF,YF] rfl rfl (any_of HT_.out (by kernel_rfl)) (fun _ _ _ h => h) (Or.inl ⟨by rfl,?_⟩) ?_ ?_
        rotate_left
        ·intro w'
         go_simp
         with_reducible rfl
        rotate_left
        ·simp only [Act.put,Ya,Yb,Yc,i64_w,i32_w]
         rfl
        refine take_ (i := 12) (N := some 51) (v := ?_) (a' := ?_) #[YT,YT,YT,YT,YT,YT,YT,YT,YT,YT,YT,YT,YT,YF,YF,YF,YF,YF,YF,YF,YF,YF,YF,YF,YF,YF,YF] rfl rfl (take_ofW HT_.out HW_.out (by kernel_rfl)) (fun _ _ _ h => h) (Or.inl ⟨by rfl,?_⟩) hHeld ?_ ?_
        rotate_left
        ·rintro w' ⟨s0,s1,s2,s3,s4,s5,s6,s7,s8⟩
         go_simp
         with_reducible rfl
        rotate_left
        ·simp only [Act.put,Ya,Yb,Yc,i64_w,i32_w]
         rfl
        refine pure_ (i := 13) (N := some 52) (v := ?_) (a' := ?_) #[YT,YT,YT,YT,YT,YT,YT,YT,YT,YT,YT,YT,YT,YT,YF,YF,YF,YF,YF,YF,YF,YF,YF,YF,YF,YF,YF] rfl rfl (any_of HT_.out (by kernel_rfl)) (fun _ _ _ h => h) (Or.inl ⟨by rfl,?_⟩) ?_ ?_
        rotate_left
        ·intro w'
         go_simp
         with_reducible rfl
        rotate_left
        ·simp only [Act.put,Ya,Yb,Yc,i64_w,i32_w]
         rfl
        refine pure_ (i := 14) (N := some 53) (v := ?_) (a' := ?_) #[YT,YT,YT,YT,YT,YT,YT,YT,YT,YT,YT,YT,YT,YT,YT,YF,YF,YF,YF,YF,YF,YF,YF,YF,YF,YF,YF] rfl rfl (any_of HT_.out (by kernel_rfl)) (fun _ _ _ h => h) (Or.inl ⟨by rfl,?_⟩) ?_ ?_
        rotate_left
        ·intro w'
         go_simp
         with_reducible rfl
        rotate_left
        ·simp only [Act.put,Ya,Yb,Yc,i64_w,i32_w]
         rfl
        refine pure_ (i := 15) (N := some 54) (v := ?_) (a' := ?_) #[YT,YT,YT,YT,YT,YT,YT,YT,YT,YT,YT,YT,YT,YT,YT,YT,YF,YF,YF,YF,YF,YF,YF,YF,YF,YF,YF] rfl rfl (any_of HT_.out (by kernel_rfl)) (fun _ _ _ h => h) (Or.inl ⟨by rfl,?_⟩) ?_ ?_
        rotate_left
        ·intro w'
         go_simp
         with_reducible rfl
        rotate_left
        ·simp only [Act.put,Ya,Yb,Yc,i64_w,i32_w]
         rfl
        refine pure_ (i := 16) (N := some 55) (v := ?_) (a' := ?_) #[YT,YT,YT,YT,YT,YT,YT,YT,YT,YT,YT,YT,YT,YT,YT,YT,YT,YF,YF,YF,YF,YF,YF,YF,YF,YF,YF] rfl rfl (any_of HT_.out (by kernel_rfl)) (fun _ _ _ h => h) (Or.inl ⟨by rfl,?_⟩) ?_ ?_
        rotate_left
        ·intro w'
         go_simp
         with_reducible rfl
        rotate_left
        ·simp only [Act.put,Ya,Yb,Yc,i64_w,i32_w]
         rfl
        refine pure_ (i := 17) (N := some 56) (v := ?_) (a' := ?_) #[YT,YT,YT,YT,YT,YT,YT,YT,YT,YT,YT,YT,YT,YT,YT,YT,YT,YT,YF,YF,YF,YF,YF,YF,YF,YF,YF] rfl rfl (any_of HT_.out (by kernel_rfl)) (fun _ _ _ h => h) (Or.inl ⟨by rfl,?_⟩) ?_ ?_
        rotate_left
        ·intro w'
         go_simp
         with_reducible rfl
        rotate_left
        ·simp only [Act.put,Ya,Yb,Yc,i64_w,i32_w]
         rfl
        refine pure_ (i := 18) (N := some 57) (v := ?_) (a' := ?_) #[YT,YT,YT,YT,YT,YT,YT,YT,YT,YT,YT,YT,YT,YT,YT,YT,YT,YT,YT,YF,YF,YF,YF,YF,YF,YF,YF] rfl rfl (any_of HT_.out (by kernel_rfl)) (fun _ _ _ h => h) (Or.inl ⟨by rfl,?_⟩) ?_ ?_
        rotate_left
        ·intro w'
         go_simp
         with_reducible rfl
        rotate_left
        ·simp only [Act.put,Ya,Yb,Yc,i64_w,i32_w]
         rfl
        refine pure_ (i := 20) (N := some 59) (v := ?_) (a' := ?_) #[YT,YT,YT,YT,YT,YT,YT,YT,YT,YT,YT,YT,YT,YT,YT,YT,YT,YT,YT,YF,YT,YF,YF,YF,YF,YF,YF] rfl rfl (any_of HT_.out (by kernel_rfl)) (fun _ _ _ h => h) (Or.inl ⟨by rfl,?_⟩) ?_ ?_
        rotate_left
        ·intro w'
         go_simp
         with_reducible rfl
        rotate_left
        ·simp only [Act.put,Ya,Yb,Yc,i64_w,i32_w]
         rfl
        refine pure_ (i := 21) (N := some 60) (v := ?_) (a' := ?_) #[YT,YT,YT,YT,YT,YT,YT,YT,YT,YT,YT,YT,YT,YT,YT,YT,YT,YT,YT,YF,YT,YT,YF,YF,YF,YF,YF] rfl rfl (any_of HT_.out (by kernel_rfl)) (fun _ _ _ h => h) (Or.inl ⟨by rfl,?_⟩) ?_ ?_
        rotate_left
        ·intro w'
         go_simp
         with_reducible rfl
        rotate_left
        ·simp only [Act.put,Ya,Yb,Yc,i64_w,i32_w]
         rfl
        refine pure_ (i := 22) (N := some 61) (v := ?_) (a' := ?_) #[YT,YT,YT,YT,YT,YT,YT,YT,YT,YT,YT,YT,YT,YT,YT,YT,YT,YT,YT,YF,YT,YT,YT,YF,YF,YF,YF] rfl rfl (any_of HT_.out (by kernel_rfl)) (fun _ _ _ h => h) (Or.inl ⟨by rfl,?_⟩) ?_ ?_
        rotate_left
        ·intro w'
         go_simp
         with_reducible rfl
        rotate_left
        ·simp only [Act.put,Ya,Yb,Yc,i64_w,i32_w]
         rfl
        refine pure_ (i := 24) (N := some 63) (v := ?_) (a' := ?_) #[YT,YT,YT,YT,YT,YT,YT,YT,YT,YT,YT,YT,YT,YT,YT,YT,YT,YT,YT,YF,YT,YT,YT,YF,YT,YF,YF] rfl rfl (any_of HT_.out (by kernel_rfl)) (fun _ _ _ h => h) (Or.inl ⟨by rfl,?_⟩) ?_ ?_
        rotate_left
        ·intro w'
         go_simp
         with_reducible rfl
        rotate_left
        ·simp only [Act.put,Ya,Yb,Yc,i64_w,i32_w]
         rfl
        refine take_ (i := 19) (N := some 58) (v := ?_) (a' := ?_) #[YT,YT,YT,YT,YT,YT,YT,YT,YT,YT,YT,YT,YT,YT,YT,YT,YT,YT,YT,YT,YT,YT,YT,YF,YT,YF,YF] rfl rfl (take_ofW HT_.out HW_.out (by kernel_rfl)) (fun _ _ _ h => h) (Or.inl ⟨by rfl,?_⟩) hHeld ?_ ?_
        rotate_left
        ·rintro w' ⟨s0,s1,s2,s3,s4,s5,s6,s7,s8⟩
         go_simp
         with_reducible rfl
        rotate_left
        ·simp only [Act.put,Ya,Yb,Yc,i64_w,i32_w]
         rfl
        refine take_ (i := 23) (N := some 62) (v := ?_) (a' := ?_) #[YT,YT,YT,YT,YT,YT,YT,YT,YT,YT,YT,YT,YT,YT,YT,YT,YT,YT,YT,YT,YT,YT,YT,YT,YT,YF,YF] rfl rfl (take_ofW HT_.out HW_.out (by kernel_rfl)) (fun _ _ _ h => h) (Or.inl ⟨by rfl,?_⟩) hHeld ?_ ?_
        rotate_left
        ·rintro w' ⟨s0,s1,s2,s3,s4,s5,s6,s7,s8⟩
         go_simp
         with_reducible rfl
        rotate_left
        ·simp only [Act.put,Ya,Yb,Yc,i64_w,i32_w]
         rfl
        refine one_ (i := 25) (N := some 64) #[YT,YT,YT,YT,YT,YT,YT,YT,YT,YT,YT,YT,YT,YT,YT,YT,YT,YT,YT,YT,YT,YT,YT,YT,YT,YT,YF] rfl rfl (one_of HT_.out (by kernel_rfl)) (by decide) (fun K hK => ?_)
        refine goes_ Try.func31 (by kernel_rfl) rfl #[.agg #[.string ((rd_T43 l0 (rd t369 x13_1)).f0),.int .i64 ((rd_T43 l0 (rd t369 x13_1)).f1),.int .i64 ((rd_T43 l0 (rd t369 x13_1)).f2),.int .i64 ((rd_T43 l0 (rd t369 x13_1)).f3),.int .i64 ((rd_T43 l0 (rd t369 x13_1)).f4)],.agg #[.bool false,.int .i64 ((rd_T59 x11_1 (rd t369 x13_1)).f1)],.int .i64 a4] (by rfl) rfl rfl Y8 ?_
        with_reducible refine (plenumref56_Free.calls ((rd_T43 l0 (rd t369 x13_1)).f0) ((rd_T43 l0 (rd t369 x13_1)).f1) ((rd_T43 l0 (rd t369 x13_1)).f2) ((rd_T43 l0 (rd t369 x13_1)).f3) ((rd_T43 l0 (rd t369 x13_1)).f4) false ((rd_T59 x11_1 (rd t369 x13_1)).f1) a4 t378 _ A27.out).mono ?_
        rintro e w29 ⟨rfl,hb⟩
        have HS0_ := (hb.cell (Y13 _ _ (hHeld.1))).trans (hHeld.1)
        have HS1_ := (hb.cell (Y13 _ _ (hHeld.2.1))).trans (hHeld.2.1)
        have HS7_ := (hb.cell (Y13 _ _ (hHeld.2.2.2.2.2.2.2.1))).trans (hHeld.2.2.2.2.2.2.2.1)
        have HS8_ := (hb.cell (Y13 _ _ (hHeld.2.2.2.2.2.2.2.2))).trans (hHeld.2.2.2.2.2.2.2.2)
        refine ⟨_,rfl,?_⟩
        have n0_ := Yd (Kd.R_below (Y5 HO_11.out) hb)
        have n1_ := Yd (Kd.R_below (Y5 HO_12.out) hb)
        have n2_ := Yd (below_step (Y3 HB.out) hb)
        clear HO_11
        clear HO_12
        clear HB
        have HO_11 := n0_
        have HO_12 := n1_
        have HB := n2_
        clear n0_ n1_ n2_
        (try clear hb)
        (try clear hb2)
        (try clear hk)
        (try clear hi)
        refine hK.out _ _ ⟨HS0_,HS1_,(Y10 HB.out hw376_0 :),(Y10 HB.out hw376_1 :),(Y10 HB.out hw376_2 :),(Y10 HB.out hw376_3 :),(Y10 HB.out hw376_4 :),HS7_,HS8_⟩ (fun hHeld => ?_)
        clear hK K
        refine norm_ (a' := ?_) ?_ ?_
        rotate_left
        ·show Act.put _ (some 64) _ = _
         simp only [Act.put,Ya,Yb,Yc,i64_w,i32_w]
         rfl
        refine pure_ (i := 26) (N := some 65) (v := ?_) (a' := ?_) #[YT,YT,YT,YT,YT,YT,YT,YT,YT,YT,YT,YT,YT,YT,YT,YT,YT,YT,YT,YT,YT,YT,YT,YT,YT,YT,YT] rfl rfl (any_of HT_.out (by kernel_rfl)) (fun _ _ _ h => h) (Or.inl ⟨by rfl,?_⟩) ?_ ?_
        rotate_left
        ·intro w'
         go_simp
         with_reducible rfl
        rotate_left
        ·simp only [Act.put,Ya,Yb,Yc,i64_w,i32_w]
         rfl
        refine done_ (done_of HT_.out (by kernel_rfl)) ?_
        try go_wp2
        go_meet
        case rel => (try rw [← Nbq23.out]);exact ⟨_,(t378),Y12,H',⟨by have := HK1.out;first | omega | exact Nat.le_refl _⟩,⟨by (try simp only [hl11_1]);(with_reducible repeat (first | apply Kd.R_alloc | apply Kd.R_drewN | apply Kd.R_drew));exact HO_11.out⟩,⟨by (try simp only [hl11_1]);(with_reducible repeat (first | apply Kd.R_alloc | apply Kd.R_drewN | apply Kd.R_drew));exact HO_12.out⟩,⟨Y3 HB.out⟩⟩
      ·rw [if_neg c20] at H
       have c20b0 : decide (a3 < (wrap64 (a2 + t374))) = false := decide_eq_false c20
       clear c20
       (first | rw [c20b0] | (simp only [i64_w,i32_w];rw [c20b0]) | skip)
       have H' := Yd H
       clear H
       try go_wp2
       have n0_ := Yd (Kd.R_drew HO_11.out)
       have n1_ := Yd (Kd.R_drew HO_12.out)
       have n2_ := Yd (below_drew1 HB.out)
       clear HO_11
       clear HO_12
       clear HB
       have HO_11 := n0_
       have HO_12 := n1_
       have HB := n2_
       clear n0_ n1_ n2_
       refine start_ (n := 27) (S := fun w' => True) (ds := []) #[YF,YF,YF,YF,YF,YF,YF,YF,YF,YF,YF,YF,YF,YF,YF,YF,YF,YF,YF,YF,YF,YF,YF,YF,YF,YF,YF] (by kernel_rfl) rfl rfl trivial (fun hHeld => ?_);refine with_tabW plenumref56_Step.tab8 plenumref56_Step.bits8 (fun HT_ HW_ => ?_)
       generalize wr.drew = w30 at HO_11 HO_12 HB hHeld ⊢
       refine pure_ (i := 0) (N := some 39) (v := ?_) (a' := ?_) #[YT,YF,YF,YF,YF,YF,YF,YF,YF,YF,YF,YF,YF,YF,YF,YF,YF,YF,YF,YF,YF,YF,YF,YF,YF,YF,YF] rfl rfl (any_of HT_.out (by kernel_rfl)) (fun _ _ _ h => h) (Or.inl ⟨by rfl,?_⟩) ?_ ?_
       rotate_left
       ·intro w'
        go_simp
        with_reducible rfl
       rotate_left
       ·simp only [Act.put,Ya,Yb,Yc,i64_w,i32_w]
        rfl
       refine pure_ (i := 1) (N := some 40) (v := ?_) (a' := ?_) #[YT,YT,YF,YF,YF,YF,YF,YF,YF,YF,YF,YF,YF,YF,YF,YF,YF,YF,YF,YF,YF,YF,YF,YF,YF,YF,YF] rfl rfl (any_of HT_.out (by kernel_rfl)) (fun _ _ _ h => h) (Or.inl ⟨by rfl,?_⟩) ?_ ?_
       rotate_left
       ·intro w'
        go_simp
        with_reducible rfl
       rotate_left
       ·simp only [Act.put,Ya,Yb,Yc,i64_w,i32_w]
        rfl
       refine pure_ (i := 2) (N := some 41) (v := ?_) (a' := ?_) #[YT,YT,YT,YF,YF,YF,YF,YF,YF,YF,YF,YF,YF,YF,YF,YF,YF,YF,YF,YF,YF,YF,YF,YF,YF,YF,YF] rfl rfl (any_of HT_.out (by kernel_rfl)) (fun _ _ _ h => h) (Or.inl ⟨by rfl,?_⟩) ?_ ?_
       rotate_left
       ·intro w'
        go_simp
        with_reducible rfl
       rotate_left
       ·simp only [Act.put,Ya,Yb,Yc,i64_w,i32_w]
        rfl
       refine pure_ (i := 5) (N := some 44) (v := ?_) (a' := ?_) #[YT,YT,YT,YF,YF,YT,YF,YF,YF,YF,YF,YF,YF,YF,YF,YF,YF,YF,YF,YF,YF,YF,YF,YF,YF,YF,YF] rfl rfl (any_of HT_.out (by kernel_rfl)) (fun _ _ _ h => h) (Or.inl ⟨by rfl,?_⟩) ?_ ?_
       rotate_left
       ·intro w'
        go_simp
        with_reducible rfl
       rotate_left
       ·simp only [Act.put,Ya,Yb,Yc,i64_w,i32_w]
        rfl
       refine one_ (i := 3) (N := some 42) #[YT,YT,YT,YT,YF,YT,YF,YF,YF,YF,YF,YF,YF,YF,YF,YF,YF,YF,YF,YF,YF,YF,YF,YF,YF,YF,YF] rfl rfl (one_of HT_.out (by kernel_rfl)) (by decide) (fun K hK => ?_)
       refine goes_ Try.func10 (by kernel_rfl) rfl #[.slice A0 l0.length c0,.slice Ao14 x11_1.length co14] (by rfl) rfl rfl Y8 ?_
       with_reducible refine (plenumref56_Power.calls k1 _ _ l0 _ _ x11_1 t374 _ ?side1 ?side2 ?side3 ?side4 A19.out).mono ?_
       (case side1 => exact Y11 (Kd.C_below HR0.out HB.out))
       (case side2 => exact HC0.out)
       (case side3 => repeat (first | exact (Kd.R_reads' HO_11.out).2.2 | (with_reducible refine Kd.C_alloc ?_ _) | (with_reducible refine Kd.C_drewN ?_ _) | (with_reducible refine Kd.C_drew ?_)))
       (case side4 => exact (Kd.R_reads' HO_11.out).2.1)
       rintro e w' ⟨rfl,⟨nd,rfl⟩⟩
       refine ⟨_,rfl,?_⟩
       refine hK.out _ _ trivial (fun hHeld => ?_)
       clear hK K
       refine norm_ (a' := ?_) ?_ ?_
       rotate_left
       ·show Act.put _ (some 42) _ = _
        simp only [Act.put,Ya,Yb,Yc,i64_w,i32_w]
        rfl
       refine pure_ (i := 4) (N := some 43) (v := ?_) (a' := ?_) #[YT,YT,YT,YT,YT,YT,YF,YF,YF,YF,YF,YF,YF,YF,YF,YF,YF,YF,YF,YF,YF,YF,YF,YF,YF,YF,YF] rfl rfl (any_of HT_.out (by kernel_rfl)) (fun _ _ _ h => h) (Or.inl ⟨by rfl,?_⟩) ?_ ?_
       rotate_left
       ·intro w'
        go_simp
        with_reducible rfl
       rotate_left
       ·simp only [Act.put,Ya,Yb,Yc,i64_w,i32_w]
        rfl
       refine pure_ (i := 6) (N := some 45) (v := ?_) (a' := ?_) #[YT,YT,YT,YT,YT,YT,YT,YF,YF,YF,YF,YF,YF,YF,YF,YF,YF,YF,YF,YF,YF,YF,YF,YF,YF,YF,YF] rfl rfl (any_of HT_.out (by kernel_rfl)) (fun _ _ _ h => h) (Or.inl ⟨by rfl,?_⟩) ?_ ?_
       rotate_left
       ·intro w'
        go_simp
        with_reducible rfl
       rotate_left
       ·simp only [Act.put,Ya,Yb,Yc,i64_w,i32_w]
        rfl
       refine pure_ (i := 7) (N := some 46) (v := ?_) (a' := ?_) #[YT,YT,YT,YT,YT,YT,YT,YT,YF,YF,YF,YF,YF,YF,YF,YF,YF,YF,YF,YF,YF,YF,YF,YF,YF,YF,YF] rfl rfl (any_of HT_.out (by kernel_rfl)) (fun _ _ _ h => h) (Or.inl ⟨by rfl,?_⟩) ?_ ?_
       rotate_left
       ·intro w'
        go_simp
        with_reducible rfl
       rotate_left
       ·simp only [Act.put,Ya,Yb,Yc,i64_w,i32_w]
        rfl
       refine pure_ (i := 8) (N := some 47) (v := undef) (a' := ?_) #[YT,YT,YT,YT,YT,YT,YT,YT,YT,YF,YF,YF,YF,YF,YF,YF,YF,YF,YF,YF,YF,YF,YF,YF,YF,YF,YF] rfl rfl (any_of HT_.out (by kernel_rfl)) (fun _ _ _ h => h) (Or.inr ⟨by rfl,rfl⟩) ?_ ?_
       rotate_left
       ·simp only [Act.put,Ya,Yb,Yc,i64_w,i32_w]
        rfl
       refine pure_ (i := 9) (N := some 48) (v := undef) (a' := ?_) #[YT,YT,YT,YT,YT,YT,YT,YT,YT,YT,YF,YF,YF,YF,YF,YF,YF,YF,YF,YF,YF,YF,YF,YF,YF,YF,YF] rfl rfl (any_of HT_.out (by kernel_rfl)) (fun _ _ _ h => h) (Or.inr ⟨by rfl,rfl⟩) ?_ ?_
       rotate_left
       ·simp only [Act.put,Ya,Yb,Yc,i64_w,i32_w]
        rfl
       refine pure_ (i := 10) (N := some 49) (v := undef) (a' := ?_) #[YT,YT,YT,YT,YT,YT,YT,YT,YT,YT,YT,YF,YF,YF,YF,YF,YF,YF,YF,YF,YF,YF,YF,YF,YF,YF,YF] rfl rfl (any_of HT_.out (by kernel_rfl)) (fun _ _ _ h => h) (Or.inr ⟨by rfl,rfl⟩) ?_ ?_
       rotate_left
       ·simp only [Act.put,Ya,Yb,Yc,i64_w,i32_w]
        rfl
       refine pure_ (i := 11) (N := some 50) (v := undef) (a' := ?_) #[YT,YT,YT,YT,YT,YT,YT,YT,YT,YT,YT,YT,YF,YF,YF,YF,YF,YF,YF,YF,YF,YF,YF,YF,YF,YF,YF] rfl rfl (any_of HT_.out (by kernel_rfl)) (fun _ _ _ h => h) (Or.inr ⟨by rfl,rfl⟩) ?_ ?_
       rotate_left
       ·simp only [Act.put,Ya,Yb,Yc,i64_w,i32_w]
        rfl
       refine pure_ (i := 12) (N := some 51) (v := undef) (a' := ?_) #[YT,YT,YT,YT,YT,YT,YT,YT,YT,YT,YT,YT,YT,YF,YF,YF,YF,YF,YF,YF,YF,YF,YF,YF,YF,YF,YF] rfl rfl (any_of HT_.out (by kernel_rfl)) (fun _ _ _ h => h) (Or.inr ⟨by rfl,rfl⟩) ?_ ?_
       rotate_left
       ·simp only [Act.put,Ya,Yb,Yc,i64_w,i32_w]
        rfl
       refine pure_ (i := 13) (N := some 52) (v := undef) (a' := ?_) #[YT,YT,YT,YT,YT,YT,YT,YT,YT,YT,YT,YT,YT,YT,YF,YF,YF,YF,YF,YF,YF,YF,YF,YF,YF,YF,YF] rfl rfl (any_of HT_.out (by kernel_rfl)) (fun _ _ _ h => h) (Or.inr ⟨by rfl,rfl⟩) ?_ ?_
       rotate_left
       ·simp only [Act.put,Ya,Yb,Yc,i64_w,i32_w]
        rfl
       refine pure_ (i := 14) (N := some 53) (v := ?_) (a' := ?_) #[YT,YT,YT,YT,YT,YT,YT,YT,YT,YT,YT,YT,YT,YT,YT,YF,YF,YF,YF,YF,YF,YF,YF,YF,YF,YF,YF] rfl rfl (any_of HT_.out (by kernel_rfl)) (fun _ _ _ h => h) (Or.inl ⟨by rfl,?_⟩) ?_ ?_
       rotate_left
       ·intro w'
        go_simp
        with_reducible rfl
       rotate_left
       ·simp only [Act.put,Ya,Yb,Yc,i64_w,i32_w]
        rfl
       refine pure_ (i := 15) (N := some 54) (v := ?_) (a' := ?_) #[YT,YT,YT,YT,YT,YT,YT,YT,YT,YT,YT,YT,YT,YT,YT,YT,YF,YF,YF,YF,YF,YF,YF,YF,YF,YF,YF] rfl rfl (any_of HT_.out (by kernel_rfl)) (fun _ _ _ h => h) (Or.inl ⟨by rfl,?_⟩) ?_ ?_
       rotate_left
       ·intro w'
        go_simp
        with_reducible rfl
       rotate_left
       ·simp only [Act.put,Ya,Yb,Yc,i64_w,i32_w]
        rfl
       refine pure_ (i := 16) (N := some 55) (v := undef) (a' := ?_) #[YT,YT,YT,YT,YT,YT,YT,YT,YT,YT,YT,YT,YT,YT,YT,YT,YT,YF,YF,YF,YF,YF,YF,YF,YF,YF,YF] rfl rfl (any_of HT_.out (by kernel_rfl)) (fun _ _ _ h => h) (Or.inr ⟨by rfl,rfl⟩) ?_ ?_
       rotate_left
       ·simp only [Act.put,Ya,Yb,Yc,i64_w,i32_w]
        rfl
       refine pure_ (i := 17) (N := some 56) (v := undef) (a' := ?_) #[YT,YT,YT,YT,YT,YT,YT,YT,YT,YT,YT,YT,YT,YT,YT,YT,YT,YT,YF,YF,YF,YF,YF,YF,YF,YF,YF] rfl rfl (any_of HT_.out (by kernel_rfl)) (fun _ _ _ h => h) (Or.inr ⟨by rfl,rfl⟩) ?_ ?_
       rotate_left
       ·simp only [Act.put,Ya,Yb,Yc,i64_w,i32_w]
        rfl
       refine pure_ (i := 18) (N := some 57) (v := undef) (a' := ?_) #[YT,YT,YT,YT,YT,YT,YT,YT,YT,YT,YT,YT,YT,YT,YT,YT,YT,YT,YT,YF,YF,YF,YF,YF,YF,YF,YF] rfl rfl (any_of HT_.out (by kernel_rfl)) (fun _ _ _ h => h) (Or.inr ⟨by rfl,rfl⟩) ?_ ?_
       rotate_left
       ·simp only [Act.put,Ya,Yb,Yc,i64_w,i32_w]
        rfl
       refine pure_ (i := 19) (N := some 58) (v := undef) (a' := ?_) #[YT,YT,YT,YT,YT,YT,YT,YT,YT,YT,YT,YT,YT,YT,YT,YT,YT,YT,YT,YT,YF,YF,YF,YF,YF,YF,YF] rfl rfl (any_of HT_.out (by kernel_rfl)) (fun _ _ _ h => h) (Or.inr ⟨by rfl,rfl⟩) ?_ ?_
       rotate_left
       ·simp only [Act.put,Ya,Yb,Yc,i64_w,i32_w]
        rfl
       refine pure_ (i := 20) (N := some 59) (v := undef) (a' := ?_) #[YT,YT,YT,YT,YT,YT,YT,YT,YT,YT,YT,YT,YT,YT,YT,YT,YT,YT,YT,YT,YT,YF,YF,YF,YF,YF,YF] rfl rfl (any_of HT_.out (by kernel_rfl)) (fun _ _ _ h => h) (Or.inr ⟨by rfl,rfl⟩) ?_ ?_
       rotate_left
       ·simp only [Act.put,Ya,Yb,Yc,i64_w,i32_w]
        rfl
       refine pure_ (i := 21) (N := some 60) (v := undef) (a' := ?_) #[YT,YT,YT,YT,YT,YT,YT,YT,YT,YT,YT,YT,YT,YT,YT,YT,YT,YT,YT,YT,YT,YT,YF,YF,YF,YF,YF] rfl rfl (any_of HT_.out (by kernel_rfl)) (fun _ _ _ h => h) (Or.inr ⟨by rfl,rfl⟩) ?_ ?_
       rotate_left
       ·simp only [Act.put,Ya,Yb,Yc,i64_w,i32_w]
        rfl
       refine pure_ (i := 22) (N := some 61) (v := undef) (a' := ?_) #[YT,YT,YT,YT,YT,YT,YT,YT,YT,YT,YT,YT,YT,YT,YT,YT,YT,YT,YT,YT,YT,YT,YT,YF,YF,YF,YF] rfl rfl (any_of HT_.out (by kernel_rfl)) (fun _ _ _ h => h) (Or.inr ⟨by rfl,rfl⟩) ?_ ?_
       rotate_left
       ·simp only [Act.put,Ya,Yb,Yc,i64_w,i32_w]
        rfl
       refine pure_ (i := 23) (N := some 62) (v := undef) (a' := ?_) #[YT,YT,YT,YT,YT,YT,YT,YT,YT,YT,YT,YT,YT,YT,YT,YT,YT,YT,YT,YT,YT,YT,YT,YT,YF,YF,YF] rfl rfl (any_of HT_.out (by kernel_rfl)) (fun _ _ _ h => h) (Or.inr ⟨by rfl,rfl⟩) ?_ ?_
       rotate_left
       ·simp only [Act.put,Ya,Yb,Yc,i64_w,i32_w]
        rfl
       refine pure_ (i := 24) (N := some 63) (v := undef) (a' := ?_) #[YT,YT,YT,YT,YT,YT,YT,YT,YT,YT,YT,YT,YT,YT,YT,YT,YT,YT,YT,YT,YT,YT,YT,YT,YT,YF,YF] rfl rfl (any_of HT_.out (by kernel_rfl)) (fun _ _ _ h => h) (Or.inr ⟨by rfl,rfl⟩) ?_ ?_
       rotate_left
       ·simp only [Act.put,Ya,Yb,Yc,i64_w,i32_w]
        rfl
       refine pure_ (i := 25) (N := some 64) (v := undef) (a' := ?_) #[YT,YT,YT,YT,YT,YT,YT,YT,YT,YT,YT,YT,YT,YT,YT,YT,YT,YT,YT,YT,YT,YT,YT,YT,YT,YT,YF] rfl rfl (any_of HT_.out (by kernel_rfl)) (fun _ _ _ h => h) (Or.inr ⟨by rfl,rfl⟩) ?_ ?_
       rotate_left
       ·simp only [Act.put,Ya,Yb,Yc,i64_w,i32_w]
        rfl
       refine pure_ (i := 26) (N := some 65) (v := ?_) (a' := ?_) #[YT,YT,YT,YT,YT,YT,YT,YT,YT,YT,YT,YT,YT,YT,YT,YT,YT,YT,YT,YT,YT,YT,YT,YT,YT,YT,YT] rfl rfl (any_of HT_.out (by kernel_rfl)) (fun _ _ _ h => h) (Or.inl ⟨by rfl,?_⟩) ?_ ?_
       rotate_left
       ·intro w'
        go_simp
        with_reducible rfl
       rotate_left
       ·simp only [Act.put,Ya,Yb,Yc,i64_w,i32_w]
        rfl
       refine done_ (done_of HT_.out (by kernel_rfl)) ?_
       try go_wp2
       go_meet
       case rel => exact ⟨_,(false),Y12,H',⟨by have := HK1.out;first | omega | exact Nat.le_refl _⟩,⟨by (try simp only [hl11_1]);(with_reducible repeat (first | apply Kd.R_alloc | apply Kd.R_drewN | apply Kd.R_drew));exact HO_11.out⟩,⟨by (try simp only [hl11_1]);(with_reducible repeat (first | apply Kd.R_alloc | apply Kd.R_drewN | apply Kd.R_drew));exact HO_12.out⟩,⟨Y3 HB.out⟩⟩
     case rest =>
      clear HC17
      try clear c1
      try clear c2
      try clear p2
      try clear q2
      try clear c3
      try clear p3
      try clear q3
      try clear hx3
      try clear p6
      try clear c10
      try clear c20
      try clear c20b0
      try clear c21
      try clear c22
      try clear q23
      try clear c24
      try clear c26
      try clear c26b0
      try clear hx375_0
      try clear hx375_1
      try clear hx376_0
      try clear hx376_1
      try clear hx376_2
      try clear hx376_3
      try clear hx376_4
      try clear hx377_0
      try clear hx377_1
      try clear p375
      try clear p376
      try clear p377
      try clear q375
      try clear q376
      try clear q377
      obtain ⟨kq,x65_16,rfl,HA,HJ16,HO_11,HO_12,HB⟩ := hcut
      cases kq with
      | zero => exact absurd HA.out (by simp [plenumref56_Step.j1])
      | succ kj16 =>
       have H := HA.out
       clear HA
       simp only [plenumref56_Step.j1] at H
       by_cases c31 : x65_16 = true
       ·subst c31
        have H1 : (if 0 ≤ (rd t369 x13_1) then (if (rd t369 x13_1) < (x11_1.length : Int) then (plenumref56_Step.l0 kj16 l0 a2 a3 a4 (x11_1.set ((rd t369 x13_1) : Int).toNat (⟨true,a4⟩ : S59)) t369 (wrap64 (x13_1 + 1))) else (none)) else (none)) = some r := by rw [if_pos rfl] at H;exact H
        clear H
        have H := H1
        clear H1
        by_cases c32 : 0 ≤ (rd t369 x13_1)
        case neg => rw [if_neg c32] at H;exact absurd H (by simp)
        rw [if_pos c32] at H
        have c32b0 : decide (0 ≤ (rd t369 x13_1)) = true := decide_eq_true c32
        clear c32
        by_cases c33 : (rd t369 x13_1) < (x11_1.length : Int)
        case neg => rw [if_neg c33] at H;exact absurd H (by simp)
        rw [if_pos c33] at H
        have c33b0 : decide ((rd t369 x13_1) < (x11_1.length : Int)) = true := decide_eq_true c33
        (try simp only [hl11_1] at c33b0)
        clear c33
        obtain ⟨y379,hy379⟩ : ∃ y_ : List (S59),y_ = (x11_1.set ((rd t369 x13_1) : Int).toNat (⟨true,a4⟩ : S59)) := ⟨_,rfl⟩
        replace H : (plenumref56_Step.l0 kj16 l0 a2 a3 a4 y379 t369 (wrap64 (x13_1 + 1))) = some r := by first | (rw [hy379];with_reducible exact H) | (have H2_ := (Option.bind_some _ _).symm.trans H;rw [hy379];with_reducible exact H2_) | (have H2_ := (Option.bind_some _ _).symm.trans H;with_reducible exact H2_) | with_reducible exact H | (rw [hy379];exact H) | exact H
        have Ny379 := Yd hy379
        clear hy379
        have H' := Yd H
        clear H
        have p34 : 0 ≤ ((rd t369 x13_1) : Int) := Y9
        have q34 : ((rd t369 x13_1) : Int) < ((x11_1.length : Int) : Int) := Y9
        obtain ⟨go34,co34,eo34,gb34,gl34,cl34,HG34⟩ := Kd.R_form HO_11.out (by omega)
        (first | cases eo34 | (injection eo34 with ea_ en_ ec_;(first | subst ea_ | (injection ea_ with ea_;subst ea_));subst ec_;clear en_))
        have GB34 := Yd gb34
        have GG34 := Yd HG34
        clear gb34 gl34 HG34
        obtain ⟨ce34,hcl34,hM34,hcc34,hfr34⟩ := Kd.R_elem HO_11.out z59 ((rd t369 x13_1) : Int) p34 q34
        obtain rfl := k59_openM hM34
        have hx34_0 : wc.cell? ⟨go34,((rd t369 x13_1) : Int).toNat * 2,none⟩ = some (.bool ((rd_T59 x11_1 (rd t369 x13_1)).f0)) := hcc34 0 _ rfl
        have hx34_1 : wc.cell? ⟨go34,((rd t369 x13_1) : Int).toNat * 2 + 1,none⟩ = some (.int .i64 ((rd_T59 x11_1 (rd t369 x13_1)).f1)) := hcc34 1 _ rfl
        have hf34_0 : wc.frozen? ⟨go34,((rd t369 x13_1) : Int).toNat * 2,none⟩ = false := hfr34 0
        have hf34_1 : wc.frozen? ⟨go34,((rd t369 x13_1) : Int).toNat * 2 + 1,none⟩ = false := hfr34 1
        clear hcl34 hcc34 hfr34 hM34
        replace p34 := eq_true p34
        replace q34 := eq_true q34
        have HX35 := Yd (show Kd.R k59 59 wc w.heap.size (fun _ => True) (.slice (some ⟨go34,0,none⟩) x11_1.length co14) x11_1 from (Y5 HO_11.out))
        obtain ⟨ce35,hcl35,hM35,hcc35,hfr35⟩ := Kd.R_elem HX35.out z59 ((rd t369 x13_1) : Int) (Y9) (by have h_ : ((rd t369 x13_1) : Int) < ((x11_1.length : Int) : Int) := Y9;first | exact h_ | (have e_ := (Kd.R_reads' HO_11.out).1;omega) | simpa using h_)
        obtain rfl := k59_openM hM35
        have HP35 := Kd.R_seg HX35.out ((rd t369 x13_1) : Int) (Y9) (by have h_ : ((rd t369 x13_1) : Int) < ((x11_1.length : Int) : Int) := Y9;first | exact h_ | (have e_ := (Kd.R_reads' HO_11.out).1;omega) | simpa using h_) (seg := [.bool true,.int .i64 a4]) (j := 0) hcl35 hcc35 (show 2 ≤ 2 from by decide) (x' := (⟨true,a4⟩ : S59)) (k59_mkM _ _ _ (⟨true,a4⟩ : S59) ) (fun _ hk => hk)
        have hx35_0 := hcc35 0 _ rfl
        (try simp only [show (k59).sz = 2 from rfl,Nat.mul_one,Nat.add_zero] at hx35_0)
        have hf35_0 := hfr35 0
        (try simp only [show (k59).sz = 2 from rfl,Nat.mul_one,Nat.add_zero] at hf35_0)
        have hx35_1 := hcc35 1 _ rfl
        (try simp only [show (k59).sz = 2 from rfl,Nat.mul_one,Nat.add_zero] at hx35_1)
        have hf35_1 := hfr35 1
        (try simp only [show (k59).sz = 2 from rfl,Nat.mul_one,Nat.add_zero] at hf35_1)
        clear hcl35 hcc35 hfr35 hM35
        go_wp2_with (first | ((with_reducible refine gate_store (t := 59) (p := 70) rfl ?_);refine store_event (t := 59) (p := 70) (v := ?vo_w36) (w1 := ((wc.setCell ⟨go34,((rd t369 x13_1) : Int).toNat * 2,none⟩ (.bool true)).setCell ⟨go34,((rd t369 x13_1) : Int).toNat * 2 + 1,none⟩ (.int .i64 a4))) ?hg ?ho ?hn ?hr ?_;(case ho => rfl);(case hg => rfl);(case hn => rfl);(case hr => first | (go_simp;done) | (go_simp;rfl));intro w36 hw;have hg : wc.grownBy w36 (some go34) := (by rw [hw];exact HP35.2);have hp_ : Kd.R k59 59 w36 w.heap.size (fun _ => True) (.slice (some ⟨go34,0,none⟩) x11_1.length co14) y379 := (by rw [hw,Ny379.out];exact HP35.1);clear HP35;have n0_ := Yd (hp_);have n1_ := Yd (Kd.R_over' (v := (.slice (some ⟨go34,0,none⟩) x11_1.length co14)) (Y5 HO_12.out) (Kd.R_typed HO_11.out) (by decide) hg);have n2_ := Yd ((by rw [hw];exact below_set (below_set (HB.out) GB34.out) GB34.out : Below w.heap.size w w36));clear HO_11;clear HO_12;clear HB;have HO_11 := n0_;have HO_12 := n1_;have HB := n2_;clear n0_ n1_ n2_;clear hg hw hp_))
        (try simp only [← hl11_1])
        go_roundg kj16
        case measure => have := HK1.out;have := HJ16.out;omega
        case rel => exact ⟨(y379),(wrap64 (x13_1 + 1)),Y12,H',⟨by have := HK1.out;have := HJ16.out;omega⟩,⟨by (try simp only [hl11_1]);(with_reducible repeat (first | apply Kd.R_alloc | apply Kd.R_drewN | apply Kd.R_drew));exact HO_11.out⟩,⟨by (try simp only [hl11_1]);(with_reducible repeat (first | apply Kd.R_alloc | apply Kd.R_drewN | apply Kd.R_drew));exact HO_12.out⟩,⟨Y3 HB.out⟩⟩
       ·replace c31 := Bool.eq_false_iff.mpr c31
        subst c31
        have H1 : (plenumref56_Step.l0 kj16 l0 a2 a3 a4 x11_1 t369 (wrap64 (x13_1 + 1))) = some r := by rw [if_neg (show ¬ (false = true) by decide)] at H;exact H
        clear H
        have H := H1
        clear H1
        have H' := Yd H
        clear H
        go_wp2
        (try simp only [← hl11_1])
        go_roundg kj16
        case measure => have := HK1.out;have := HJ16.out;omega
        case rel => exact ⟨(x11_1),(wrap64 (x13_1 + 1)),Y12,H',⟨by have := HK1.out;have := HJ16.out;omega⟩,⟨by (try simp only [hl11_1]);(with_reducible repeat (first | apply Kd.R_alloc | apply Kd.R_drewN | apply Kd.R_drew));exact HO_11.out⟩,⟨by (try simp only [hl11_1]);(with_reducible repeat (first | apply Kd.R_alloc | apply Kd.R_drewN | apply Kd.R_drew));exact HO_12.out⟩,⟨Y3 HB.out⟩⟩
    ·rw [if_neg c15] at H
     have c15b0 : decide (x13_1 < (t369.length : Int)) = false := decide_eq_false c15
     (try simp only [hl11_1] at c15b0)
     clear c15
     obtain rfl := Option.some.inj H
     obtain ⟨Ao37,co37,eo37⟩ := Kd.R_slice HO_12.out
     subst eo37
     go_wp2
     go_ret
     exact ⟨_,by first | rfl | (simp [errW_none,errW_some] <;> rfl) | (simp [*,errW_none,errW_some] <;> rfl),by (with_reducible repeat (first | apply Kd.R_alloc | apply Kd.R_drewN | apply Kd.R_drew));exact HO_11.out,Y3 HB.out⟩
 ·rw [if_neg c9] at H
  have c9b0 : decide (a3 < (wrap64 (a2 + t372))) = false := decide_eq_false c9
  clear c9
  have H' := Yd H
  clear H
  go_enter Try.func15,Try.ntmps15
  go_wp2_with (first | ((with_reducible refine gate_dst (N := 17) rfl ?_);refine Kd.R_lit k59 _ 59 ?hg (N := 17) ?hd (xs := ([] : List (S59))) (inner := []) (ok := fun _ => True) (okp := fun _ => True) ?hr ?hp (fun _ hk => hk) trivial (Below.refl _ _) (Nat.le_refl _) (by simp) ?_;(case hd => rfl);(case hg => rfl);(case hr => first | (go_simp;done) | (go_simp;rfl));(case hp => exact (Reps.none _ _));intro v364 w38 ho39 hb hg_ hnew_;clear hg_ hnew_;(first | rw [← Ny363.out] at ho39 | (simp only [Int.reduceToNat] at ho39;rw [← Ny363.out] at ho39));have n0_ := Yd (Kd.R_lower ho39 (below_size (Y3 HB.out)));have n1_ := Yd (below_step (Y3 HB.out) hb);clear HB;have HO365 := n0_;have HB := n1_;clear n0_ n1_;clear hb ho39) | ((with_reducible refine gate_builtin (b := .append) (xs := #[.tmp 17,.tmp 18]) rfl ?_);at_builtin;refine Kd.R_append_rows k59 (w0 := w) w.heap.size rfl (.tmp 17) (.tmp 18) 23 59 (.agg #[(.bool false),(.int .i64 0)]) 16 rfl Try.underlying23 info59 rfl (by decide) (by omega) v364 y363 l1 _ _ _ (fun _ => True) (fun _ => False) rfl rfl ?aO ?aR (fun _ _ h => h) (fun _ h => h.elim) ?aF ?aB ?aS ?aL ?_;(case aR => repeat (first | exact (Kd.C_below HR1.out HB.out) | (with_reducible refine Kd.C_alloc ?_ _) | (with_reducible refine Kd.C_drewN ?_ _) | (with_reducible refine Kd.C_drew ?_)));(case aB => exact (Y3 HB.out));(case aF => exact (fun _ _ => trivial));(case aO => exact (Y5 HO365.out));(case aS => exact (below_size (Y3 HB.out)));(case aL => have := LMc6.out;omega);intro v367 w40 ho hb hg hat;rw [← Ny366.out] at ho;have n0_ := Yd (hb);have n1_ := Yd (ho);clear HB;clear HO365;have HB := n0_;have HO368 := n1_;clear n0_ n1_;clear ho hb hg hat) | ((with_reducible refine gate_callee (f := 30) rfl ?_);refine goesL_ (some 21) rfl rfl Try.func30 (by kernel_rfl) rfl #[.slice A0 l0.length c0] rfl Y8 ?_;(with_reducible refine (plenumref56_Order.calls k _ _ l0 t369 _ ?side1 ?side2 A7.out).mono ?_);(case side1 => exact Y11 (Kd.C_below HR0.out HB.out));(case side2 => exact HC0.out);rintro e w41 ⟨v370,rfl,ho0,hb⟩;refine ⟨_,rfl,?_⟩;have n0_ := Yd (Kd.R_below (Y5 HO368.out) hb);have n1_ := Yd (Kd.R_lower ho0 (below_size (Y3 HB.out)));have n2_ := Yd (below_step (Y3 HB.out) hb);clear HO368;clear HB;have HO368 := n0_;have HO371 := n1_;have HB := n2_;clear n0_ n1_ n2_;(try clear hb);(try clear hb2);(try clear hk);(try clear hi);(try clear ho0);obtain ⟨Ao42,co42,eo42⟩ := Kd.R_slice HO368.out;subst eo42) | ((with_reducible refine gate_callee (f := 10) rfl ?_);refine goesL_ (some 25) rfl rfl Try.func10 (by kernel_rfl) rfl #[.slice A0 l0.length c0,.slice Ao42 y366.length co42] rfl Y8 ?_;(with_reducible refine (plenumref56_Power.calls k _ _ l0 _ _ y366 t372 _ ?side1 ?side2 ?side3 ?side4 A8.out).mono ?_);(case side1 => exact Y11 (Kd.C_below HR0.out HB.out));(case side2 => exact HC0.out);(case side3 => repeat (first | exact (Kd.R_reads' HO368.out).2.2 | (with_reducible refine Kd.C_alloc ?_ _) | (with_reducible refine Kd.C_drewN ?_ _) | (with_reducible refine Kd.C_drew ?_)));(case side4 => exact (Kd.R_reads' HO368.out).2.1);rintro e w' ⟨rfl,⟨nd,rfl⟩⟩;refine ⟨_,rfl,?_⟩;obtain ⟨Ao43,co43,eo43⟩ := Kd.R_slice HO371.out;subst eo43))
  go_loopg [15] k (fun kq v15 w' => ∃ (x11_1 : List (S59)) (x15_1 : Int),v15 = .int .i64 x15_1 ∧ Aside0 (plenumref56_Step.l1 kq l0 a2 a3 a4 x11_1 t369 x15_1 = some r) ∧ Aside0 (kq ≤ k) ∧ Aside0 (Kd.R k59 59 w' w.heap.size (fun _ => True) (.slice Ao42 y366.length co42) x11_1) ∧ Aside0 (Kd.R (Kd.int .i64) 3 w' w.heap.size (fun _ => True) (.slice Ao43 t369.length co43) t369) ∧ Aside0 (Below w.heap.size w w'))
  case atStart => exact ⟨(y366),(wrap64 ((t369.length : Int) - 1)),Y12,H',⟨Nat.le_refl _⟩,⟨Y5 HO368.out⟩,⟨Y5 HO371.out⟩,⟨Y3 HB.out⟩⟩
  case round =>
   clear H'
   try clear c1
   try clear c2
   try clear p2
   try clear q2
   try clear c3
   try clear p3
   try clear q3
   try clear hx3
   try clear c6
   try clear p6
   try clear c9
   try clear c9b0
   try clear c10
   try clear c15
   try clear c15b0
   try clear c16
   try clear c20
   try clear c20b0
   try clear c21
   try clear c22
   try clear q23
   try clear c24
   try clear c26
   try clear c26b0
   try clear c30
   try clear c31
   try clear c32
   try clear c32b0
   try clear c33
   try clear c33b0
   try clear c34
   try clear p34
   try clear q34
   try clear hx34
   try clear hf34
   try clear c35
   try clear hx35
   try clear hf35
   try clear p37
   try clear q37
   try clear hx37
   try clear hx34_0
   try clear hx34_1
   try clear hx35_0
   try clear hx35_1
   try clear hx375_0
   try clear hx375_1
   try clear hx376_0
   try clear hx376_1
   try clear hx376_2
   try clear hx376_3
   try clear hx376_4
   try clear hx377_0
   try clear hx377_1
   try clear p2
   try clear p3
   try clear p34
   try clear p375
   try clear p376
   try clear p377
   try clear p6
   try clear q2
   try clear q23
   try clear q3
   try clear q34
   try clear q375
   try clear q376
   try clear q377
   obtain ⟨x11_1,x15_1,rfl,HA,HK1,HO_11,HO_12,HB⟩ := hrel
   have hl11_1 := (Kd.R_reads' HO_11.out).1
   rw [hl11_1] at HO_11
   (try simp only [hl11_1])
   (try simp only [hl11_1] at HO_12)
   cases gk with
   | zero => exact absurd HA.out (by simp [plenumref56_Step.l1])
   | succ k1 =>
    have H := HA.out
    clear HA
    simp only [plenumref56_Step.l1] at H
    by_cases c44 : x15_1 ≥ 0
    ·rw [if_pos c44] at H
     have c44b0 : decide (0 ≤ x15_1) = true := decide_eq_true c44
     clear c44
     by_cases c45 : 0 ≤ x15_1
     case neg => rw [if_neg c45] at H;exact absurd H (by simp)
     rw [if_pos c45] at H
     have c45b0 : decide (0 ≤ x15_1) = true := decide_eq_true c45
     clear c45
     by_cases c46 : x15_1 < (t369.length : Int)
     case neg => rw [if_neg c46] at H;exact absurd H (by simp)
     rw [if_pos c46] at H
     have c46b0 : decide (x15_1 < (t369.length : Int)) = true := decide_eq_true c46
     (try simp only [hl11_1] at c46b0)
     clear c46
     have HC47 := Yd H
     clear H
     have p380 : 0 ≤ (x15_1 : Int) := Y9
     have q380 : x15_1 < (t369.length : Int) := Y9
     obtain ⟨ad380,e380,hx380_0⟩ := Kd.at_int (Kd.R_reads' HO_12.out).2.2 x15_1 p380 q380
     cases e380
     replace p380 := eq_true p380
     replace q380 := eq_true q380
     go_upto_region 15 with (fail)
     go_cut [114] (fun v114 wc => ∃ (kq : Nat) (x114_46 : Bool),v114 = .bool x114_46 ∧ Aside0 (plenumref56_Step.j3 kq l0 a2 a3 a4 x11_1 t369 x15_1 (rd t369 x15_1) x114_46 = some r) ∧ Aside0 (kq ≤ k1) ∧ Aside0 (Kd.R k59 59 wc w.heap.size (fun _ => True) (.slice Ao42 x11_1.length co42) x11_1) ∧ Aside0 (Kd.R (Kd.int .i64) 3 wc w.heap.size (fun _ => True) (.slice (some ad380) t369.length co43) t369) ∧ Aside0 (Below w.heap.size w wc))
     case first =>
      have H := HC47.out
      clear HC47
      by_cases c48 : 0 ≤ (rd t369 x15_1)
      case neg => rw [if_neg c48] at H;exact absurd H (by simp)
      rw [if_pos c48] at H
      have c48b0 : decide (0 ≤ (rd t369 x15_1)) = true := decide_eq_true c48
      clear c48
      (first | rw [c48b0] | (simp only [i64_w,i32_w];rw [c48b0]) | skip)
      by_cases c49 : (rd t369 x15_1) < (x11_1.length : Int)
      case neg => rw [if_neg c49] at H;exact absurd H (by simp)
      rw [if_pos c49] at H
      have c49b0 : decide ((rd t369 x15_1) < (x11_1.length : Int)) = true := decide_eq_true c49
      (try simp only [hl11_1] at c49b0)
      clear c49
      obtain ⟨bq50,hbq50⟩ : ∃ b_ : Bool,b_ = ((rd_T59 x11_1 (rd t369 x15_1)).f0) := ⟨_,rfl⟩
      replace H : (if bq50 = true then (if (rd t369 x15_1) < (l0.length : Int) then ((plenumref56_Free.f ((rd_T43 l0 (rd t369 x15_1)).f0) ((rd_T43 l0 (rd t369 x15_1)).f1) ((rd_T43 l0 (rd t369 x15_1)).f2) ((rd_T43 l0 (rd t369 x15_1)).f3) ((rd_T43 l0 (rd t369 x15_1)).f4) (bq50) ((rd_T59 x11_1 (rd t369 x15_1)).f1) a4).bind fun t384 => (if t384 = true then ((plenumref56_Power.f k1 l0 x11_1).bind fun t385 => (plenumref56_Step.j3 k1 l0 a2 a3 a4 x11_1 t369 x15_1 (rd t369 x15_1) (decide ((wrap64 ((wrap64 (a2 + t385)) + ((rd_T43 l0 (rd t369 x15_1)).f2))) ≤ a3)))) else (plenumref56_Step.j3 k1 l0 a2 a3 a4 x11_1 t369 x15_1 (rd t369 x15_1) false))) else (none)) else (plenumref56_Step.j3 k1 l0 a2 a3 a4 x11_1 t369 x15_1 (rd t369 x15_1) false)) = some r := by rw [← hbq50] at H;exact H
      have Nbq50 := Yd hbq50
      clear hbq50
      (try rw [← Nbq50.out])
      by_cases c51 : bq50 = true
      ·subst c51
       have H1 : (if (rd t369 x15_1) < (l0.length : Int) then ((plenumref56_Free.f ((rd_T43 l0 (rd t369 x15_1)).f0) ((rd_T43 l0 (rd t369 x15_1)).f1) ((rd_T43 l0 (rd t369 x15_1)).f2) ((rd_T43 l0 (rd t369 x15_1)).f3) ((rd_T43 l0 (rd t369 x15_1)).f4) (true) ((rd_T59 x11_1 (rd t369 x15_1)).f1) a4).bind fun t384 => (if t384 = true then ((plenumref56_Power.f k1 l0 x11_1).bind fun t385 => (plenumref56_Step.j3 k1 l0 a2 a3 a4 x11_1 t369 x15_1 (rd t369 x15_1) (decide ((wrap64 ((wrap64 (a2 + t385)) + ((rd_T43 l0 (rd t369 x15_1)).f2))) ≤ a3)))) else (plenumref56_Step.j3 k1 l0 a2 a3 a4 x11_1 t369 x15_1 (rd t369 x15_1) false))) else (none)) = some r := by rw [if_pos rfl] at H;exact H
       clear H
       have H := H1
       clear H1
       by_cases c52 : (rd t369 x15_1) < (l0.length : Int)
       case neg => rw [if_neg c52] at H;exact absurd H (by simp)
       rw [if_pos c52] at H
       have c52b0 : decide ((rd t369 x15_1) < (l0.length : Int)) = true := decide_eq_true c52
       (try simp only [hl11_1] at c52b0)
       clear c52
       replace H := Option.bind_eq_some_iff.mp H
       obtain ⟨t384,A530,H⟩ := H
       replace H : (if t384 = true then ((plenumref56_Power.f k1 l0 x11_1).bind fun t385 => (plenumref56_Step.j3 k1 l0 a2 a3 a4 x11_1 t369 x15_1 (rd t369 x15_1) (decide ((wrap64 ((wrap64 (a2 + t385)) + ((rd_T43 l0 (rd t369 x15_1)).f2))) ≤ a3)))) else (plenumref56_Step.j3 k1 l0 a2 a3 a4 x11_1 t369 x15_1 (rd t369 x15_1) false)) = some r := H
       have A53 := Yd A530
       clear A530
       by_cases c54 : t384 = true
       ·subst c54
        have H1 : ((plenumref56_Power.f k1 l0 x11_1).bind fun t385 => (plenumref56_Step.j3 k1 l0 a2 a3 a4 x11_1 t369 x15_1 (rd t369 x15_1) (decide ((wrap64 ((wrap64 (a2 + t385)) + ((rd_T43 l0 (rd t369 x15_1)).f2))) ≤ a3)))) = some r := by rw [if_pos rfl] at H;exact H
        clear H
        have H := H1
        clear H1
        replace H := Option.bind_eq_some_iff.mp H
        obtain ⟨t385,A550,H⟩ := H
        replace H : (plenumref56_Step.j3 k1 l0 a2 a3 a4 x11_1 t369 x15_1 (rd t369 x15_1) (decide ((wrap64 ((wrap64 (a2 + t385)) + ((rd_T43 l0 (rd t369 x15_1)).f2))) ≤ a3))) = some r := H
        have A55 := Yd A550
        clear A550
        have H' := Yd H
        clear H
        try go_wp2
        have n0_ := Yd (Kd.R_drew HO_11.out)
        have n1_ := Yd (Kd.R_drew HO_12.out)
        have n2_ := Yd (below_drew1 HB.out)
        clear HO_11
        clear HO_12
        clear HB
        have HO_11 := n0_
        have HO_12 := n1_
        have HB := n2_
        clear n0_ n1_ n2_
        have p381 : 0 ≤ ((rd t369 x15_1) : Int) := Y9
        have q381 : (rd t369 x15_1) < (x11_1.length : Int) := Y9
        obtain ⟨ad381,e381,hx381_0,hx381_1⟩ := at_T59 (Kd.R_reads' HO_11.out).2.2 (rd t369 x15_1) p381 q381
        (try rw [← Nbq50.out] at hx381_0)
        (try rw [← Nbq50.out] at hw381_0)
        cases e381
        replace p381 := eq_true p381
        replace q381 := eq_true q381
        have p382 : 0 ≤ ((rd t369 x15_1) : Int) := Y9
        have q382 : (rd t369 x15_1) < (l0.length : Int) := Y9
        obtain ⟨ad382,e382,hx382_0,hx382_1,hx382_2,hx382_3,hx382_4⟩ := at_T43 HR0.out (rd t369 x15_1) p382 q382
        have hw382_4 := hx382_4
        have hw382_3 := hx382_3
        have hw382_2 := hx382_2
        have hw382_1 := hx382_1
        have hw382_0 := hx382_0
        cases e382
        replace hx382_0 := Y10 HB.out hx382_0
        replace hx382_1 := Y10 HB.out hx382_1
        replace hx382_2 := Y10 HB.out hx382_2
        replace hx382_3 := Y10 HB.out hx382_3
        replace hx382_4 := Y10 HB.out hx382_4
        replace p382 := eq_true p382
        replace q382 := eq_true q382
        have p383 : 0 ≤ ((rd t369 x15_1) : Int) := Y9
        have q383 : (rd t369 x15_1) < (x11_1.length : Int) := Y9
        obtain ⟨ad383,e383,hx383_0,hx383_1⟩ := at_T59 (Kd.R_reads' HO_11.out).2.2 (rd t369 x15_1) p383 q383
        (try rw [← Nbq50.out] at hx383_0)
        (try rw [← Nbq50.out] at hw383_0)
        obtain rfl : ad381 = ad383 := (by injection e383)
        replace p383 := eq_true p383
        replace q383 := eq_true q383
        have p386 : 0 ≤ ((rd t369 x15_1) : Int) := Y9
        have q386 : (rd t369 x15_1) < (l0.length : Int) := Y9
        obtain ⟨ad386,e386,hx386_0,hx386_1,hx386_2,hx386_3,hx386_4⟩ := at_T43 HR0.out (rd t369 x15_1) p386 q386
        have hw386_4 := hx386_4
        have hw386_3 := hx386_3
        have hw386_2 := hx386_2
        have hw386_1 := hx386_1
        have hw386_0 := hx386_0
        obtain rfl : ad382 = ad386 := (by injection e386)
        replace hx386_0 := Y10 HB.out hx386_0
        replace hx386_1 := Y10 HB.out hx386_1
        replace hx386_2 := Y10 HB.out hx386_2
        replace hx386_3 := Y10 HB.out hx386_3
        replace hx386_4 := Y10 HB.out hx386_4
        replace p386 := eq_true p386
        replace q386 := eq_true q386
        refine start_ (n := 32) (S := fun w' => w'.cell? (ad381.add (((rd t369 x15_1)).toNat * 2)) = some (.bool true) ∧ w'.cell? ⟨(ad381.add (((rd t369 x15_1)).toNat * 2)).block,(ad381.add (((rd t369 x15_1)).toNat * 2)).off + 1,none⟩ = some (.int .i64 ((rd_T59 x11_1 (rd t369 x15_1)).f1)) ∧ w'.cell? (ad382.add (((rd t369 x15_1)).toNat * 5)) = some (.string ((rd_T43 l0 (rd t369 x15_1)).f0)) ∧ w'.cell? ⟨(ad382.add (((rd t369 x15_1)).toNat * 5)).block,(ad382.add (((rd t369 x15_1)).toNat * 5)).off + 1,none⟩ = some (.int .i64 ((rd_T43 l0 (rd t369 x15_1)).f1)) ∧ w'.cell? ⟨(ad382.add (((rd t369 x15_1)).toNat * 5)).block,(ad382.add (((rd t369 x15_1)).toNat * 5)).off + 2,none⟩ = some (.int .i64 ((rd_T43 l0 (rd t369 x15_1)).f2)) ∧ w'.cell? ⟨(ad382.add (((rd t369 x15_1)).toNat * 5)).block,(ad382.add (((rd t369 x15_1)).toNat * 5)).off + 3,none⟩ = some (.int .i64 ((rd_T43 l0 (rd t369 x15_1)).f3)) ∧ w'.cell? ⟨(ad382.add (((rd t369 x15_1)).toNat * 5)).block,(ad382.add (((rd t369 x15_1)).toNat * 5)).off + 4,none⟩ = some (.int .i64 ((rd_T43 l0 (rd t369 x15_1)).f4)) ∧ w'.cell? (ad381.add (((rd t369 x15_1)).toNat * 2)) = some (.bool (true)) ∧ w'.cell? ⟨(ad381.add (((rd t369 x15_1)).toNat * 2)).block,(ad381.add (((rd t369 x15_1)).toNat * 2)).off + 1,none⟩ = some (.int .i64 ((rd_T59 x11_1 (rd t369 x15_1)).f1)) ∧ w'.cell? (ad382.add (((rd t369 x15_1)).toNat * 5)) = some (.string ((rd_T43 l0 (rd t369 x15_1)).f0)) ∧ w'.cell? ⟨(ad382.add (((rd t369 x15_1)).toNat * 5)).block,(ad382.add (((rd t369 x15_1)).toNat * 5)).off + 1,none⟩ = some (.int .i64 ((rd_T43 l0 (rd t369 x15_1)).f1)) ∧ w'.cell? ⟨(ad382.add (((rd t369 x15_1)).toNat * 5)).block,(ad382.add (((rd t369 x15_1)).toNat * 5)).off + 2,none⟩ = some (.int .i64 ((rd_T43 l0 (rd t369 x15_1)).f2)) ∧ w'.cell? ⟨(ad382.add (((rd t369 x15_1)).toNat * 5)).block,(ad382.add (((rd t369 x15_1)).toNat * 5)).off + 3,none⟩ = some (.int .i64 ((rd_T43 l0 (rd t369 x15_1)).f3)) ∧ w'.cell? ⟨(ad382.add (((rd t369 x15_1)).toNat * 5)).block,(ad382.add (((rd t369 x15_1)).toNat * 5)).off + 4,none⟩ = some (.int .i64 ((rd_T43 l0 (rd t369 x15_1)).f4))) (ds := []) #[YF,YF,YF,YF,YF,YF,YF,YF,YF,YF,YF,YF,YF,YF,YF,YF,YF,YF,YF,YF,YF,YF,YF,YF,YF,YF,YF,YF,YF,YF,YF,YF] (by kernel_rfl) rfl rfl ⟨hx381_0,hx381_1,(Y10 HB.out hw382_0 :),(Y10 HB.out hw382_1 :),(Y10 HB.out hw382_2 :),(Y10 HB.out hw382_3 :),(Y10 HB.out hw382_4 :),hx383_0,hx383_1,(Y10 HB.out hw386_0 :),(Y10 HB.out hw386_1 :),(Y10 HB.out hw386_2 :),(Y10 HB.out hw386_3 :),(Y10 HB.out hw386_4 :)⟩ (fun hHeld => ?_);refine with_tabW plenumref56_Step.tab15 plenumref56_Step.bits15 (fun HT_ HW_ => ?_)
        generalize wr.drew = w56 at HO_11 HO_12 HB hx381_0 hx381_1 hx382_0 hx382_1 hx382_2 hx382_3 hx382_4 hx383_0 hx383_1 hx386_0 hx386_1 hx386_2 hx386_3 hx386_4 hHeld ⊢
        refine pure_ (i := 0) (N := some 83) (v := ?_) (a' := ?_) #[YT,YF,YF,YF,YF,YF,YF,YF,YF,YF,YF,YF,YF,YF,YF,YF,YF,YF,YF,YF,YF,YF,YF,YF,YF,YF,YF,YF,YF,YF,YF,YF] rfl rfl (any_of HT_.out (by kernel_rfl)) (fun _ _ _ h => h) (Or.inl ⟨by rfl,?_⟩) ?_ ?_
        rotate_left
        ·intro w'
         go_simp
         with_reducible rfl
        rotate_left
        ·simp only [Act.put,Ya,Yb,Yc,i64_w,i32_w]
         rfl
        refine pure_ (i := 1) (N := some 84) (v := ?_) (a' := ?_) #[YT,YT,YF,YF,YF,YF,YF,YF,YF,YF,YF,YF,YF,YF,YF,YF,YF,YF,YF,YF,YF,YF,YF,YF,YF,YF,YF,YF,YF,YF,YF,YF] rfl rfl (any_of HT_.out (by kernel_rfl)) (fun _ _ _ h => h) (Or.inl ⟨by rfl,?_⟩) ?_ ?_
        rotate_left
        ·intro w'
         go_simp
         with_reducible rfl
        rotate_left
        ·simp only [Act.put,Ya,Yb,Yc,i64_w,i32_w]
         rfl
        refine pure_ (i := 2) (N := some 85) (v := ?_) (a' := ?_) #[YT,YT,YT,YF,YF,YF,YF,YF,YF,YF,YF,YF,YF,YF,YF,YF,YF,YF,YF,YF,YF,YF,YF,YF,YF,YF,YF,YF,YF,YF,YF,YF] rfl rfl (any_of HT_.out (by kernel_rfl)) (fun _ _ _ h => h) (Or.inl ⟨by rfl,?_⟩) ?_ ?_
        rotate_left
        ·intro w'
         go_simp
         with_reducible rfl
        rotate_left
        ·simp only [Act.put,Ya,Yb,Yc,i64_w,i32_w]
         rfl
        refine pure_ (i := 3) (N := some 86) (v := ?_) (a' := ?_) #[YT,YT,YT,YT,YF,YF,YF,YF,YF,YF,YF,YF,YF,YF,YF,YF,YF,YF,YF,YF,YF,YF,YF,YF,YF,YF,YF,YF,YF,YF,YF,YF] rfl rfl (any_of HT_.out (by kernel_rfl)) (fun _ _ _ h => h) (Or.inl ⟨by rfl,?_⟩) ?_ ?_
        rotate_left
        ·intro w'
         go_simp
         with_reducible rfl
        rotate_left
        ·simp only [Act.put,Ya,Yb,Yc,i64_w,i32_w]
         rfl
        refine take_ (i := 4) (N := some 87) (v := ?_) (a' := ?_) #[YT,YT,YT,YT,YT,YF,YF,YF,YF,YF,YF,YF,YF,YF,YF,YF,YF,YF,YF,YF,YF,YF,YF,YF,YF,YF,YF,YF,YF,YF,YF,YF] rfl rfl (take_ofW HT_.out HW_.out (by kernel_rfl)) (fun _ _ _ h => h) (Or.inl ⟨by rfl,?_⟩) hHeld ?_ ?_
        rotate_left
        ·rintro w' ⟨s0,s1,s2,s3,s4,s5,s6,s7,s8,s9,s10,s11,s12,s13⟩
         go_simp
         with_reducible rfl
        rotate_left
        ·simp only [Act.put,Ya,Yb,Yc,i64_w,i32_w]
         rfl
        refine pure_ (i := 5) (N := some 88) (v := ?_) (a' := ?_) #[YT,YT,YT,YT,YT,YT,YF,YF,YF,YF,YF,YF,YF,YF,YF,YF,YF,YF,YF,YF,YF,YF,YF,YF,YF,YF,YF,YF,YF,YF,YF,YF] rfl rfl (any_of HT_.out (by kernel_rfl)) (fun _ _ _ h => h) (Or.inl ⟨by rfl,?_⟩) ?_ ?_
        rotate_left
        ·intro w'
         go_simp
         with_reducible rfl
        rotate_left
        ·simp only [Act.put,Ya,Yb,Yc,i64_w,i32_w]
         rfl
        refine pure_ (i := 6) (N := some 89) (v := ?_) (a' := ?_) #[YT,YT,YT,YT,YT,YT,YT,YF,YF,YF,YF,YF,YF,YF,YF,YF,YF,YF,YF,YF,YF,YF,YF,YF,YF,YF,YF,YF,YF,YF,YF,YF] rfl rfl (any_of HT_.out (by kernel_rfl)) (fun _ _ _ h => h) (Or.inl ⟨by rfl,?_⟩) ?_ ?_
        rotate_left
        ·intro w'
         go_simp
         with_reducible rfl
        rotate_left
        ·simp only [Act.put,Ya,Yb,Yc,i64_w,i32_w]
         rfl
        refine pure_ (i := 7) (N := some 90) (v := ?_) (a' := ?_) #[YT,YT,YT,YT,YT,YT,YT,YT,YF,YF,YF,YF,YF,YF,YF,YF,YF,YF,YF,YF,YF,YF,YF,YF,YF,YF,YF,YF,YF,YF,YF,YF] rfl rfl (any_of HT_.out (by kernel_rfl)) (fun _ _ _ h => h) (Or.inl ⟨by rfl,?_⟩) ?_ ?_
        rotate_left
        ·intro w'
         go_simp
         with_reducible rfl
        rotate_left
        ·simp only [Act.put,Ya,Yb,Yc,i64_w,i32_w]
         rfl
        refine pure_ (i := 8) (N := some 91) (v := ?_) (a' := ?_) #[YT,YT,YT,YT,YT,YT,YT,YT,YT,YF,YF,YF,YF,YF,YF,YF,YF,YF,YF,YF,YF,YF,YF,YF,YF,YF,YF,YF,YF,YF,YF,YF] rfl rfl (any_of HT_.out (by kernel_rfl)) (fun _ _ _ h => h) (Or.inl ⟨by rfl,?_⟩) ?_ ?_
        rotate_left
        ·intro w'
         go_simp
         with_reducible rfl
        rotate_left
        ·simp only [Act.put,Ya,Yb,Yc,i64_w,i32_w]
         rfl
        refine pure_ (i := 10) (N := some 93) (v := ?_) (a' := ?_) #[YT,YT,YT,YT,YT,YT,YT,YT,YT,YF,YT,YF,YF,YF,YF,YF,YF,YF,YF,YF,YF,YF,YF,YF,YF,YF,YF,YF,YF,YF,YF,YF] rfl rfl (any_of HT_.out (by kernel_rfl)) (fun _ _ _ h => h) (Or.inl ⟨by rfl,?_⟩) ?_ ?_
        rotate_left
        ·intro w'
         go_simp
         with_reducible rfl
        rotate_left
        ·simp only [Act.put,Ya,Yb,Yc,i64_w,i32_w]
         rfl
        refine pure_ (i := 11) (N := some 94) (v := ?_) (a' := ?_) #[YT,YT,YT,YT,YT,YT,YT,YT,YT,YF,YT,YT,YF,YF,YF,YF,YF,YF,YF,YF,YF,YF,YF,YF,YF,YF,YF,YF,YF,YF,YF,YF] rfl rfl (any_of HT_.out (by kernel_rfl)) (fun _ _ _ h => h) (Or.inl ⟨by rfl,?_⟩) ?_ ?_
        rotate_left
        ·intro w'
         go_simp
         with_reducible rfl
        rotate_left
        ·simp only [Act.put,Ya,Yb,Yc,i64_w,i32_w]
         rfl
        refine pure_ (i := 12) (N := some 95) (v := ?_) (a' := ?_) #[YT,YT,YT,YT,YT,YT,YT,YT,YT,YF,YT,YT,YT,YF,YF,YF,YF,YF,YF,YF,YF,YF,YF,YF,YF,YF,YF,YF,YF,YF,YF,YF] rfl rfl (any_of HT_.out (by kernel_rfl)) (fun _ _ _ h => h) (Or.inl ⟨by rfl,?_⟩) ?_ ?_
        rotate_left
        ·intro w'
         go_simp
         with_reducible rfl
        rotate_left
        ·simp only [Act.put,Ya,Yb,Yc,i64_w,i32_w]
         rfl
        refine pure_ (i := 14) (N := some 97) (v := ?_) (a' := ?_) #[YT,YT,YT,YT,YT,YT,YT,YT,YT,YF,YT,YT,YT,YF,YT,YF,YF,YF,YF,YF,YF,YF,YF,YF,YF,YF,YF,YF,YF,YF,YF,YF] rfl rfl (any_of HT_.out (by kernel_rfl)) (fun _ _ _ h => h) (Or.inl ⟨by rfl,?_⟩) ?_ ?_
        rotate_left
        ·intro w'
         go_simp
         with_reducible rfl
        rotate_left
        ·simp only [Act.put,Ya,Yb,Yc,i64_w,i32_w]
         rfl
        refine take_ (i := 9) (N := some 92) (v := ?_) (a' := ?_) #[YT,YT,YT,YT,YT,YT,YT,YT,YT,YT,YT,YT,YT,YF,YT,YF,YF,YF,YF,YF,YF,YF,YF,YF,YF,YF,YF,YF,YF,YF,YF,YF] rfl rfl (take_ofW HT_.out HW_.out (by kernel_rfl)) (fun _ _ _ h => h) (Or.inl ⟨by rfl,?_⟩) hHeld ?_ ?_
        rotate_left
        ·rintro w' ⟨s0,s1,s2,s3,s4,s5,s6,s7,s8,s9,s10,s11,s12,s13⟩
         go_simp
         with_reducible rfl
        rotate_left
        ·simp only [Act.put,Ya,Yb,Yc,i64_w,i32_w]
         rfl
        refine take_ (i := 13) (N := some 96) (v := ?_) (a' := ?_) #[YT,YT,YT,YT,YT,YT,YT,YT,YT,YT,YT,YT,YT,YT,YT,YF,YF,YF,YF,YF,YF,YF,YF,YF,YF,YF,YF,YF,YF,YF,YF,YF] rfl rfl (take_ofW HT_.out HW_.out (by kernel_rfl)) (fun _ _ _ h => h) (Or.inl ⟨by rfl,?_⟩) hHeld ?_ ?_
        rotate_left
        ·rintro w' ⟨s0,s1,s2,s3,s4,s5,s6,s7,s8,s9,s10,s11,s12,s13⟩
         go_simp
         with_reducible rfl
        rotate_left
        ·simp only [Act.put,Ya,Yb,Yc,i64_w,i32_w]
         rfl
        refine one_ (i := 15) (N := some 98) #[YT,YT,YT,YT,YT,YT,YT,YT,YT,YT,YT,YT,YT,YT,YT,YT,YF,YF,YF,YF,YF,YF,YF,YF,YF,YF,YF,YF,YF,YF,YF,YF] rfl rfl (one_of HT_.out (by kernel_rfl)) (by decide) (fun K hK => ?_)
        refine goes_ Try.func31 (by kernel_rfl) rfl #[.agg #[.string ((rd_T43 l0 (rd t369 x15_1)).f0),.int .i64 ((rd_T43 l0 (rd t369 x15_1)).f1),.int .i64 ((rd_T43 l0 (rd t369 x15_1)).f2),.int .i64 ((rd_T43 l0 (rd t369 x15_1)).f3),.int .i64 ((rd_T43 l0 (rd t369 x15_1)).f4)],.agg #[.bool true,.int .i64 ((rd_T59 x11_1 (rd t369 x15_1)).f1)],.int .i64 a4] (by rfl) rfl rfl Y8 ?_
        with_reducible refine (plenumref56_Free.calls ((rd_T43 l0 (rd t369 x15_1)).f0) ((rd_T43 l0 (rd t369 x15_1)).f1) ((rd_T43 l0 (rd t369 x15_1)).f2) ((rd_T43 l0 (rd t369 x15_1)).f3) ((rd_T43 l0 (rd t369 x15_1)).f4) true ((rd_T59 x11_1 (rd t369 x15_1)).f1) a4 true _ A53.out).mono ?_
        rintro e w57 ⟨rfl,hb⟩
        have HS0_ := (hb.cell (Y13 _ _ (hHeld.1))).trans (hHeld.1)
        have HS1_ := (hb.cell (Y13 _ _ (hHeld.2.1))).trans (hHeld.2.1)
        have HS7_ := (hb.cell (Y13 _ _ (hHeld.2.2.2.2.2.2.2.1))).trans (hHeld.2.2.2.2.2.2.2.1)
        have HS8_ := (hb.cell (Y13 _ _ (hHeld.2.2.2.2.2.2.2.2.1))).trans (hHeld.2.2.2.2.2.2.2.2.1)
        refine ⟨_,rfl,?_⟩
        have n0_ := Yd (Kd.R_below (Y5 HO_11.out) hb)
        have n1_ := Yd (Kd.R_below (Y5 HO_12.out) hb)
        have n2_ := Yd (below_step (Y3 HB.out) hb)
        clear HO_11
        clear HO_12
        clear HB
        have HO_11 := n0_
        have HO_12 := n1_
        have HB := n2_
        clear n0_ n1_ n2_
        (try clear hb)
        (try clear hb2)
        (try clear hk)
        (try clear hi)
        refine hK.out _ _ ⟨HS0_,HS1_,(Y10 HB.out hw382_0 :),(Y10 HB.out hw382_1 :),(Y10 HB.out hw382_2 :),(Y10 HB.out hw382_3 :),(Y10 HB.out hw382_4 :),HS7_,HS8_,(Y10 HB.out hw386_0 :),(Y10 HB.out hw386_1 :),(Y10 HB.out hw386_2 :),(Y10 HB.out hw386_3 :),(Y10 HB.out hw386_4 :)⟩ (fun hHeld => ?_)
        clear hK K
        refine norm_ (a' := ?_) ?_ ?_
        rotate_left
        ·show Act.put _ (some 98) _ = _
         simp only [Act.put,Ya,Yb,Yc,i64_w,i32_w]
         rfl
        refine pure_ (i := 16) (N := some 99) (v := ?_) (a' := ?_) #[YT,YT,YT,YT,YT,YT,YT,YT,YT,YT,YT,YT,YT,YT,YT,YT,YT,YF,YF,YF,YF,YF,YF,YF,YF,YF,YF,YF,YF,YF,YF,YF] rfl rfl (any_of HT_.out (by kernel_rfl)) (fun _ _ _ h => h) (Or.inl ⟨by rfl,?_⟩) ?_ ?_
        rotate_left
        ·intro w'
         go_simp
         with_reducible rfl
        rotate_left
        ·simp only [Act.put,Ya,Yb,Yc,i64_w,i32_w]
         rfl
        refine pure_ (i := 17) (N := some 100) (v := ?_) (a' := ?_) #[YT,YT,YT,YT,YT,YT,YT,YT,YT,YT,YT,YT,YT,YT,YT,YT,YT,YT,YF,YF,YF,YF,YF,YF,YF,YF,YF,YF,YF,YF,YF,YF] rfl rfl (any_of HT_.out (by kernel_rfl)) (fun _ _ _ h => h) (Or.inl ⟨by rfl,?_⟩) ?_ ?_
        rotate_left
        ·intro w'
         go_simp
         with_reducible rfl
        rotate_left
        ·simp only [Act.put,Ya,Yb,Yc,i64_w,i32_w]
         rfl
        refine pure_ (i := 18) (N := some 101) (v := ?_) (a' := ?_) #[YT,YT,YT,YT,YT,YT,YT,YT,YT,YT,YT,YT,YT,YT,YT,YT,YT,YT,YT,YF,YF,YF,YF,YF,YF,YF,YF,YF,YF,YF,YF,YF] rfl rfl (any_of HT_.out (by kernel_rfl)) (fun _ _ _ h => h) (Or.inl ⟨by rfl,?_⟩) ?_ ?_
        rotate_left
        ·intro w'
         go_simp
         with_reducible rfl
        rotate_left
        ·simp only [Act.put,Ya,Yb,Yc,i64_w,i32_w]
         rfl
        refine pure_ (i := 19) (N := some 102) (v := ?_) (a' := ?_) #[YT,YT,YT,YT,YT,YT,YT,YT,YT,YT,YT,YT,YT,YT,YT,YT,YT,YT,YT,YT,YF,YF,YF,YF,YF,YF,YF,YF,YF,YF,YF,YF] rfl rfl (any_of HT_.out (by kernel_rfl)) (fun _ _ _ h => h) (Or.inl ⟨by rfl,?_⟩) ?_ ?_
        rotate_left
        ·intro w'
         go_simp
         with_reducible rfl
        rotate_left
        ·simp only [Act.put,Ya,Yb,Yc,i64_w,i32_w]
         rfl
        refine pure_ (i := 20) (N := some 103) (v := ?_) (a' := ?_) #[YT,YT,YT,YT,YT,YT,YT,YT,YT,YT,YT,YT,YT,YT,YT,YT,YT,YT,YT,YT,YT,YF,YF,YF,YF,YF,YF,YF,YF,YF,YF,YF] rfl rfl (any_of HT_.out (by kernel_rfl)) (fun _ _ _ h => h) (Or.inl ⟨by rfl,?_⟩) ?_ ?_
        rotate_left
        ·intro w'
         go_simp
         with_reducible rfl
        rotate_left
        ·simp only [Act.put,Ya,Yb,Yc,i64_w,i32_w]
         rfl
        refine pure_ (i := 23) (N := some 106) (v := ?_) (a' := ?_) #[YT,YT,YT,YT,YT,YT,YT,YT,YT,YT,YT,YT,YT,YT,YT,YT,YT,YT,YT,YT,YT,YF,YF,YT,YF,YF,YF,YF,YF,YF,YF,YF] rfl rfl (any_of HT_.out (by kernel_rfl)) (fun _ _ _ h => h) (Or.inl ⟨by rfl,?_⟩) ?_ ?_
        rotate_left
        ·intro w'
         go_simp
         with_reducible rfl
        rotate_left
        ·simp only [Act.put,Ya,Yb,Yc,i64_w,i32_w]
         rfl
        refine pure_ (i := 24) (N := some 107) (v := ?_) (a' := ?_) #[YT,YT,YT,YT,YT,YT,YT,YT,YT,YT,YT,YT,YT,YT,YT,YT,YT,YT,YT,YT,YT,YF,YF,YT,YT,YF,YF,YF,YF,YF,YF,YF] rfl rfl (any_of HT_.out (by kernel_rfl)) (fun _ _ _ h => h) (Or.inl ⟨by rfl,?_⟩) ?_ ?_
        rotate_left
        ·intro w'
         go_simp
         with_reducible rfl
        rotate_left
        ·simp only [Act.put,Ya,Yb,Yc,i64_w,i32_w]
         rfl
        refine pure_ (i := 25) (N := some 108) (v := ?_) (a' := ?_) #[YT,YT,YT,YT,YT,YT,YT,YT,YT,YT,YT,YT,YT,YT,YT,YT,YT,YT,YT,YT,YT,YF,YF,YT,YT,YT,YF,YF,YF,YF,YF,YF] rfl rfl (any_of HT_.out (by kernel_rfl)) (fun _ _ _ h => h) (Or.inl ⟨by rfl,?_⟩) ?_ ?_
        rotate_left
        ·intro w'
         go_simp
         with_reducible rfl
        rotate_left
        ·simp only [Act.put,Ya,Yb,Yc,i64_w,i32_w]
         rfl
        refine pure_ (i := 26) (N := some 109) (v := ?_) (a' := ?_) #[YT,YT,YT,YT,YT,YT,YT,YT,YT,YT,YT,YT,YT,YT,YT,YT,YT,YT,YT,YT,YT,YF,YF,YT,YT,YT,YT,YF,YF,YF,YF,YF] rfl rfl (any_of HT_.out (by kernel_rfl)) (fun _ _ _ h => h) (Or.inl ⟨by rfl,?_⟩) ?_ ?_
        rotate_left
        ·intro w'
         go_simp
         with_reducible rfl
        rotate_left
        ·simp only [Act.put,Ya,Yb,Yc,i64_w,i32_w]
         rfl
        refine pure_ (i := 29) (N := some 112) (v := ?_) (a' := ?_) #[YT,YT,YT,YT,YT,YT,YT,YT,YT,YT,YT,YT,YT,YT,YT,YT,YT,YT,YT,YT,YT,YF,YF,YT,YT,YT,YT,YF,YF,YT,YF,YF] rfl rfl (any_of HT_.out (by kernel_rfl)) (fun _ _ _ h => h) (Or.inl ⟨by rfl,?_⟩) ?_ ?_
        rotate_left
        ·intro w'
         go_simp
         with_reducible rfl
        rotate_left
        ·simp only [Act.put,Ya,Yb,Yc,i64_w,i32_w]
         rfl
        refine take_ (i := 27) (N := some 110) (v := ?_) (a' := ?_) #[YT,YT,YT,YT,YT,YT,YT,YT,YT,YT,YT,YT,YT,YT,YT,YT,YT,YT,YT,YT,YT,YF,YF,YT,YT,YT,YT,YT,YF,YT,YF,YF] rfl rfl (take_ofW HT_.out HW_.out (by kernel_rfl)) (fun _ _ _ h => h) (Or.inl ⟨by rfl,?_⟩) hHeld ?_ ?_
        rotate_left
        ·rintro w' ⟨s0,s1,s2,s3,s4,s5,s6,s7,s8,s9,s10,s11,s12,s13⟩
         go_simp
         with_reducible rfl
        rotate_left
        ·simp only [Act.put,Ya,Yb,Yc,i64_w,i32_w]
         rfl
        refine one_ (i := 21) (N := some 104) #[YT,YT,YT,YT,YT,YT,YT,YT,YT,YT,YT,YT,YT,YT,YT,YT,YT,YT,YT,YT,YT,YT,YF,YT,YT,YT,YT,YT,YF,YT,YF,YF] rfl rfl (one_of HT_.out (by kernel_rfl)) (by decide) (fun K hK => ?_)
        refine goes_ Try.func10 (by kernel_rfl) rfl #[.slice (some ad382) l0.length c0,.slice (some ad381) x11_1.length co42] (by rfl) rfl rfl Y8 ?_
        with_reducible refine (plenumref56_Power.calls k1 _ _ l0 _ _ x11_1 t385 _ ?side1 ?side2 ?side3 ?side4 A55.out).mono ?_
        (case side1 => exact Y11 (Kd.C_below HR0.out HB.out))
        (case side2 => exact HC0.out)
        (case side3 => repeat (first | exact (Kd.R_reads' HO_11.out).2.2 | (with_reducible refine Kd.C_alloc ?_ _) | (with_reducible refine Kd.C_drewN ?_ _) | (with_reducible refine Kd.C_drew ?_)))
        (case side4 => exact (Kd.R_reads' HO_11.out).2.1)
        rintro e w' ⟨rfl,⟨nd,rfl⟩⟩
        refine ⟨_,rfl,?_⟩
        refine hK.out _ _ ⟨hHeld.1,hHeld.2.1,(Y10 HB.out hw382_0 :),(Y10 HB.out hw382_1 :),(Y10 HB.out hw382_2 :),(Y10 HB.out hw382_3 :),(Y10 HB.out hw382_4 :),hHeld.2.2.2.2.2.2.2.1,hHeld.2.2.2.2.2.2.2.2.1,(Y10 HB.out hw386_0 :),(Y10 HB.out hw386_1 :),(Y10 HB.out hw386_2 :),(Y10 HB.out hw386_3 :),(Y10 HB.out hw386_4 :)⟩ (fun hHeld => ?_)
        clear hK K
        refine norm_ (a' := ?_) ?_ ?_
        rotate_left
        ·show Act.put _ (some 104) _ = _
         simp only [Act.put,Ya,Yb,Yc,i64_w,i32_w]
         rfl
        refine pure_ (i := 22) (N := some 105) (v := ?_) (a' := ?_) #[YT,YT,YT,YT,YT,YT,YT,YT,YT,YT,YT,YT,YT,YT,YT,YT,YT,YT,YT,YT,YT,YT,YT,YT,YT,YT,YT,YT,YF,YT,YF,YF] rfl rfl (any_of HT_.out (by kernel_rfl)) (fun _ _ _ h => h) (Or.inl ⟨by rfl,?_⟩) ?_ ?_
        rotate_left
        ·intro w'
         go_simp
         with_reducible rfl
        rotate_left
        ·simp only [Act.put,Ya,Yb,Yc,i64_w,i32_w]
         rfl
        refine pure_ (i := 28) (N := some 111) (v := ?_) (a' := ?_) #[YT,YT,YT,YT,YT,YT,YT,YT,YT,YT,YT,YT,YT,YT,YT,YT,YT,YT,YT,YT,YT,YT,YT,YT,YT,YT,YT,YT,YT,YT,YF,YF] rfl rfl (any_of HT_.out (by kernel_rfl)) (fun _ _ _ h => h) (Or.inl ⟨by rfl,?_⟩) ?_ ?_
        rotate_left
        ·intro w'
         go_simp
         with_reducible rfl
        rotate_left
        ·simp only [Act.put,Ya,Yb,Yc,i64_w,i32_w]
         rfl
        refine pure_ (i := 30) (N := some 113) (v := ?_) (a' := ?_) #[YT,YT,YT,YT,YT,YT,YT,YT,YT,YT,YT,YT,YT,YT,YT,YT,YT,YT,YT,YT,YT,YT,YT,YT,YT,YT,YT,YT,YT,YT,YT,YF] rfl rfl (any_of HT_.out (by kernel_rfl)) (fun _ _ _ h => h) (Or.inl ⟨by rfl,?_⟩) ?_ ?_
        rotate_left
        ·intro w'
         go_simp
         with_reducible rfl
        rotate_left
        ·simp only [Act.put,Ya,Yb,Yc,i64_w,i32_w]
         rfl
        refine pure_ (i := 31) (N := some 114) (v := ?_) (a' := ?_) #[YT,YT,YT,YT,YT,YT,YT,YT,YT,YT,YT,YT,YT,YT,YT,YT,YT,YT,YT,YT,YT,YT,YT,YT,YT,YT,YT,YT,YT,YT,YT,YT] rfl rfl (any_of HT_.out (by kernel_rfl)) (fun _ _ _ h => h) (Or.inl ⟨by rfl,?_⟩) ?_ ?_
        rotate_left
        ·intro w'
         go_simp
         with_reducible rfl
        rotate_left
        ·simp only [Act.put,Ya,Yb,Yc,i64_w,i32_w]
         rfl
        refine done_ (done_of HT_.out (by kernel_rfl)) ?_
        try go_wp2
        go_meet
        case rel => (try rw [← Nbq50.out]);exact ⟨_,(decide ((wrap64 ((wrap64 (a2 + t385)) + ((rd_T43 l0 (rd t369 x15_1)).f2))) ≤ a3)),Y12,H',⟨by have := HK1.out;first | omega | exact Nat.le_refl _⟩,⟨by (try simp only [hl11_1]);(with_reducible repeat (first | apply Kd.R_alloc | apply Kd.R_drewN | apply Kd.R_drew));exact HO_11.out⟩,⟨by (try simp only [hl11_1]);(with_reducible repeat (first | apply Kd.R_alloc | apply Kd.R_drewN | apply Kd.R_drew));exact HO_12.out⟩,⟨Y3 HB.out⟩⟩
       ·replace c54 := Bool.eq_false_iff.mpr c54
        subst c54
        have H1 : (plenumref56_Step.j3 k1 l0 a2 a3 a4 x11_1 t369 x15_1 (rd t369 x15_1) false) = some r := by rw [if_neg (show ¬ (false = true) by decide)] at H;exact H
        clear H
        have H := H1
        clear H1
        have H' := Yd H
        clear H
        try go_wp2
        have n0_ := Yd (Kd.R_drew HO_11.out)
        have n1_ := Yd (Kd.R_drew HO_12.out)
        have n2_ := Yd (below_drew1 HB.out)
        clear HO_11
        clear HO_12
        clear HB
        have HO_11 := n0_
        have HO_12 := n1_
        have HB := n2_
        clear n0_ n1_ n2_
        have p381 : 0 ≤ ((rd t369 x15_1) : Int) := Y9
        have q381 : (rd t369 x15_1) < (x11_1.length : Int) := Y9
        obtain ⟨ad381,e381,hx381_0,hx381_1⟩ := at_T59 (Kd.R_reads' HO_11.out).2.2 (rd t369 x15_1) p381 q381
        (try rw [← Nbq50.out] at hx381_0)
        (try rw [← Nbq50.out] at hw381_0)
        cases e381
        replace p381 := eq_true p381
        replace q381 := eq_true q381
        have p382 : 0 ≤ ((rd t369 x15_1) : Int) := Y9
        have q382 : (rd t369 x15_1) < (l0.length : Int) := Y9
        obtain ⟨ad382,e382,hx382_0,hx382_1,hx382_2,hx382_3,hx382_4⟩ := at_T43 HR0.out (rd t369 x15_1) p382 q382
        have hw382_4 := hx382_4
        have hw382_3 := hx382_3
        have hw382_2 := hx382_2
        have hw382_1 := hx382_1
        have hw382_0 := hx382_0
        cases e382
        replace hx382_0 := Y10 HB.out hx382_0
        replace hx382_1 := Y10 HB.out hx382_1
        replace hx382_2 := Y10 HB.out hx382_2
        replace hx382_3 := Y10 HB.out hx382_3
        replace hx382_4 := Y10 HB.out hx382_4
        replace p382 := eq_true p382
        replace q382 := eq_true q382
        have p383 : 0 ≤ ((rd t369 x15_1) : Int) := Y9
        have q383 : (rd t369 x15_1) < (x11_1.length : Int) := Y9
        obtain ⟨ad383,e383,hx383_0,hx383_1⟩ := at_T59 (Kd.R_reads' HO_11.out).2.2 (rd t369 x15_1) p383 q383
        (try rw [← Nbq50.out] at hx383_0)
        (try rw [← Nbq50.out] at hw383_0)
        obtain rfl : ad381 = ad383 := (by injection e383)
        replace p383 := eq_true p383
        replace q383 := eq_true q383
        refine start_ (n := 32) (S := fun w' => w'.cell? (ad381.add (((rd t369 x15_1)).toNat * 2)) = some (.bool true) ∧ w'.cell? ⟨(ad381.add (((rd t369 x15_1)).toNat * 2)).block,(ad381.add (((rd t369 x15_1)).toNat * 2)).off + 1,none⟩ = some (.int .i64 ((rd_T59 x11_1 (rd t369 x15_1)).f1)) ∧ w'.cell? (ad382.add (((rd t369 x15_1)).toNat * 5)) = some (.string ((rd_T43 l0 (rd t369 x15_1)).f0)) ∧ w'.cell? ⟨(ad382.add (((rd t369 x15_1)).toNat * 5)).block,(ad382.add (((rd t369 x15_1)).toNat * 5)).off + 1,none⟩ = some (.int .i64 ((rd_T43 l0 (rd t369 x15_1)).f1)) ∧ w'.cell? ⟨(ad382.add (((rd t369 x15_1)).toNat * 5)).block,(ad382.add (((rd t369 x15_1)).toNat * 5)).off + 2,none⟩ = some (.int .i64 ((rd_T43 l0 (rd t369 x15_1)).f2)) ∧ w'.cell? ⟨(ad382.add (((rd t369 x15_1)).toNat * 5)).block,(ad382.add (((rd t369 x15_1)).toNat * 5)).off + 3,none⟩ = some (.int .i64 ((rd_T43 l0 (rd t369 x15_1)).f3)) ∧ w'.cell? ⟨(ad382.add (((rd t369 x15_1)).toNat * 5)).block,(ad382.add (((rd t369 x15_1)).toNat * 5)).off + 4,none⟩ = some (.int .i64 ((rd_T43 l0 (rd t369 x15_1)).f4)) ∧ w'.cell? (ad381.add (((rd t369 x15_1)).toNat * 2)) = some (.bool (true)) ∧ w'.cell? ⟨(ad381.add (((rd t369 x15_1)).toNat * 2)).block,(ad381.add (((rd t369 x15_1)).toNat * 2)).off + 1,none⟩ = some (.int .i64 ((rd_T59 x11_1 (rd t369 x15_1)).f1))) (ds := []) #[YF,YF,YF,YF,YF,YF,YF,YF,YF,YF,YF,YF,YF,YF,YF,YF,YF,YF,YF,YF,YF,YF,YF,YF,YF,YF,YF,YF,YF,YF,YF,YF] (by kernel_rfl) rfl rfl ⟨hx381_0,hx381_1,(Y10 HB.out hw382_0 :),(Y10 HB.out hw382_1 :),(Y10 HB.out hw382_2 :),(Y10 HB.out hw382_3 :),(Y10 HB.out hw382_4 :),hx383_0,hx383_1⟩ (fun hHeld => ?_);refine with_tabW plenumref56_Step.tab15 plenumref56_Step.bits15 (fun HT_ HW_ => ?_)
        generalize wr.drew = w58 at HO_11 HO_12 HB hx381_0 hx381_1 hx382_0 hx382_1 hx382_2 hx382_3 hx382_4 hx383_0 hx383_1 hHeld ⊢
        refine pure_ (i := 0) (N := some 83) (v := ?_) (a' := ?_) #[YT,YF,YF,YF,YF,YF,YF,YF,YF,YF,YF,YF,YF,YF,YF,YF,YF,YF,YF,YF,YF,YF,YF,YF,YF,YF,YF,YF,YF,YF,YF,YF] rfl rfl (any_of HT_.out (by kernel_rfl)) (fun _ _ _ h => h) (Or.inl ⟨by rfl,?_⟩) ?_ ?_
        rotate_left
        ·intro w'
         go_simp
         with_reducible rfl
        rotate_left
        ·simp only [Act.put,Ya,Yb,Yc,i64_w,i32_w]
         rfl
        refine pure_ (i := 1) (N := some 84) (v := ?_) (a' := ?_) #[YT,YT,YF,YF,YF,YF,YF,YF,YF,YF,YF,YF,YF,YF,YF,YF,YF,YF,YF,YF,YF,YF,YF,YF,YF,YF,YF,YF,YF,YF,YF,YF] rfl rfl (any_of HT_.out (by kernel_rfl)) (fun _ _ _ h => h) (Or.inl ⟨by rfl,?_⟩) ?_ ?_
        rotate_left
        ·intro w'
         go_simp
         with_reducible rfl
        rotate_left
        ·simp only [Act.put,Ya,Yb,Yc,i64_w,i32_w]
         rfl
        refine pure_ (i := 2) (N := some 85) (v := ?_) (a' := ?_) #[YT,YT,YT,YF,YF,YF,YF,YF,YF,YF,YF,YF,YF,YF,YF,YF,YF,YF,YF,YF,YF,YF,YF,YF,YF,YF,YF,YF,YF,YF,YF,YF] rfl rfl (any_of HT_.out (by kernel_rfl)) (fun _ _ _ h => h) (Or.inl ⟨by rfl,?_⟩) ?_ ?_
        rotate_left
        ·intro w'
         go_simp
         with_reducible rfl
        rotate_left
        ·simp only [Act.put,Ya,Yb,Yc,i64_w,i32_w]
         rfl
        refine pure_ (i := 3) (N := some 86) (v := ?_) (a' := ?_) #[YT,YT,YT,YT,YF,YF,YF,YF,YF,YF,YF,YF,YF,YF,YF,YF,YF,YF,YF,YF,YF,YF,YF,YF,YF,YF,YF,YF,YF,YF,YF,YF] rfl rfl (any_of HT_.out (by kernel_rfl)) (fun _ _ _ h => h) (Or.inl ⟨by rfl,?_⟩) ?_ ?_
        rotate_left
        ·intro w'
         go_simp
         with_reducible rfl
        rotate_left
        ·simp only [Act.put,Ya,Yb,Yc,i64_w,i32_w]
         rfl
        refine take_ (i := 4) (N := some 87) (v := ?_) (a' := ?_) #[YT,YT,YT,YT,YT,YF,YF,YF,YF,YF,YF,YF,YF,YF,YF,YF,YF,YF,YF,YF,YF,YF,YF,YF,YF,YF,YF,YF,YF,YF,YF,YF] rfl rfl (take_ofW HT_.out HW_.out (by kernel_rfl)) (fun _ _ _ h => h) (Or.inl ⟨by rfl,?_⟩) hHeld ?_ ?_
        rotate_left
        ·rintro w' ⟨s0,s1,s2,s3,s4,s5,s6,s7,s8⟩
         go_simp
         with_reducible rfl
        rotate_left
        ·simp only [Act.put,Ya,Yb,Yc,i64_w,i32_w]
         rfl
        refine pure_ (i := 5) (N := some 88) (v := ?_) (a' := ?_) #[YT,YT,YT,YT,YT,YT,YF,YF,YF,YF,YF,YF,YF,YF,YF,YF,YF,YF,YF,YF,YF,YF,YF,YF,YF,YF,YF,YF,YF,YF,YF,YF] rfl rfl (any_of HT_.out (by kernel_rfl)) (fun _ _ _ h => h) (Or.inl ⟨by rfl,?_⟩) ?_ ?_
        rotate_left
        ·intro w'
         go_simp
         with_reducible rfl
        rotate_left
        ·simp only [Act.put,Ya,Yb,Yc,i64_w,i32_w]
         rfl
        refine pure_ (i := 6) (N := some 89) (v := ?_) (a' := ?_) #[YT,YT,YT,YT,YT,YT,YT,YF,YF,YF,YF,YF,YF,YF,YF,YF,YF,YF,YF,YF,YF,YF,YF,YF,YF,YF,YF,YF,YF,YF,YF,YF] rfl rfl (any_of HT_.out (by kernel_rfl)) (fun _ _ _ h => h) (Or.inl ⟨by rfl,?_⟩) ?_ ?_
        rotate_left
        ·intro w'
         go_simp
         with_reducible rfl
        rotate_left
        ·simp only [Act.put,Ya,Yb,Yc,i64_w,i32_w]
         rfl
        refine pure_ (i := 7) (N := some 90) (v := ?_) (a' := ?_) #[YT,YT,YT,YT,YT,YT,YT,YT,YF,YF,YF,YF,YF,YF,YF,YF,YF,YF,YF,YF,YF,YF,YF,YF,YF,YF,YF,YF,YF,YF,YF,YF] rfl rfl (any_of HT_.out (by kernel_rfl)) (fun _ _ _ h => h) (Or.inl ⟨by rfl,?_⟩) ?_ ?_
        rotate_left
        ·intro w'
         go_simp
         with_reducible rfl
        rotate_left
        ·simp only [Act.put,Ya,Yb,Yc,i64_w,i32_w]
         rfl
        refine pure_ (i := 8) (N := some 91) (v := ?_) (a' := ?_) #[YT,YT,YT,YT,YT,YT,YT,YT,YT,YF,YF,YF,YF,YF,YF,YF,YF,YF,YF,YF,YF,YF,YF,YF,YF,YF,YF,YF,YF,YF,YF,YF] rfl rfl (any_of HT_.out (by kernel_rfl)) (fun _ _ _ h => h) (Or.inl ⟨by rfl,?_⟩) ?_ ?_
        rotate_left
        ·intro w'
         go_simp
         with_reducible rfl
        rotate_left
        ·simp only [Act.put,Ya,Yb,Yc,i64_w,i32_w]
         rfl
        refine pure_ (i := 10) (N := some 93) (v := ?_) (a' := ?_) #[YT,YT,YT,YT,YT,YT,YT,YT,YT,YF,YT,YF,YF,YF,YF,YF,YF,YF,YF,YF,YF,YF,YF,YF,YF,YF,YF,YF,YF,YF,YF,YF] rfl rfl (any_of HT_.out (by kernel_rfl)) (fun _ _ _ h => h) (Or.inl ⟨by rfl,?_⟩) ?_ ?_
        rotate_left
        ·intro w'
         go_simp
         with_reducible rfl
        rotate_left
        ·simp only [Act.put,Ya,Yb,Yc,i64_w,i32_w]
         rfl
        refine pure_ (i := 11) (N := some 94) (v := ?_) (a' := ?_) #[YT,YT,YT,YT,YT,YT,YT,YT,YT,YF,YT,YT,YF,YF,YF,YF,YF,YF,YF,YF,YF,YF,YF,YF,YF,YF,YF,YF,YF,YF,YF,YF] rfl rfl (any_of HT_.out (by kernel_rfl)) (fun _ _ _ h => h) (Or.inl ⟨by rfl,?_⟩) ?_ ?_
        rotate_left
        ·intro w'
         go_simp
         with_reducible rfl
        rotate_left
        ·simp only [Act.put,Ya,Yb,Yc,i64_w,i32_w]
         rfl
        refine pure_ (i := 12) (N := some 95) (v := ?_) (a' := ?_) #[YT,YT,YT,YT,YT,YT,YT,YT,YT,YF,YT,YT,YT,YF,YF,YF,YF,YF,YF,YF,YF,YF,YF,YF,YF,YF,YF,YF,YF,YF,YF,YF] rfl rfl (any_of HT_.out (by kernel_rfl)) (fun _ _ _ h => h) (Or.inl ⟨by rfl,?_⟩) ?_ ?_
        rotate_left
        ·intro w'
         go_simp
         with_reducible rfl
        rotate_left
        ·simp only [Act.put,Ya,Yb,Yc,i64_w,i32_w]
         rfl
        refine pure_ (i := 14) (N := some 97) (v := ?_) (a' := ?_) #[YT,YT,YT,YT,YT,YT,YT,YT,YT,YF,YT,YT,YT,YF,YT,YF,YF,YF,YF,YF,YF,YF,YF,YF,YF,YF,YF,YF,YF,YF,YF,YF] rfl rfl (any_of HT_.out (by kernel_rfl)) (fun _ _ _ h => h) (Or.inl ⟨by rfl,?_⟩) ?_ ?_
        rotate_left
        ·intro w'
         go_simp
         with_reducible rfl
        rotate_left
        ·simp only [Act.put,Ya,Yb,Yc,i64_w,i32_w]
         rfl
        refine take_ (i := 9) (N := some 92) (v := ?_) (a' := ?_) #[YT,YT,YT,YT,YT,YT,YT,YT,YT,YT,YT,YT,YT,YF,YT,YF,YF,YF,YF,YF,YF,YF,YF,YF,YF,YF,YF,YF,YF,YF,YF,YF] rfl rfl (take_ofW HT_.out HW_.out (by kernel_rfl)) (fun _ _ _ h => h) (Or.inl ⟨by rfl,?_⟩) hHeld ?_ ?_
        rotate_left
        ·rintro w' ⟨s0,s1,s2,s3,s4,s5,s6,s7,s8⟩
         go_simp
         with_reducible rfl
        rotate_left
        ·simp only [Act.put,Ya,Yb,Yc,i64_w,i32_w]
         rfl
        refine take_ (i := 13) (N := some 96) (v := ?_) (a' := ?_) #[YT,YT,YT,YT,YT,YT,YT,YT,YT,YT,YT,YT,YT,YT,YT,YF,YF,YF,YF,YF,YF,YF,YF,YF,YF,YF,YF,YF,YF,YF,YF,YF] rfl rfl (take_ofW HT_.out HW_.out (by kernel_rfl)) (fun _ _ _ h => h) (Or.inl ⟨by rfl,?_⟩) hHeld ?_ ?_
        rotate_left
        ·rintro w' ⟨s0,s1,s2,s3,s4,s5,s6,s7,s8⟩
         go_simp
         with_reducible rfl
        rotate_left
        ·simp only [Act.put,Ya,Yb,Yc,i64_w,i32_w]
         rfl
        refine one_ (i := 15) (N := some 98) #[YT,YT,YT,YT,YT,YT,YT,YT,YT,YT,YT,YT,YT,YT,YT,YT,YF,YF,YF,YF,YF,YF,YF,YF,YF,YF,YF,YF,YF,YF,YF,YF] rfl rfl (one_of HT_.out (by kernel_rfl)) (by decide) (fun K hK => ?_)
        refine goes_ Try.func31 (by kernel_rfl) rfl #[.agg #[.string ((rd_T43 l0 (rd t369 x15_1)).f0),.int .i64 ((rd_T43 l0 (rd t369 x15_1)).f1),.int .i64 ((rd_T43 l0 (rd t369 x15_1)).f2),.int .i64 ((rd_T43 l0 (rd t369 x15_1)).f3),.int .i64 ((rd_T43 l0 (rd t369 x15_1)).f4)],.agg #[.bool true,.int .i64 ((rd_T59 x11_1 (rd t369 x15_1)).f1)],.int .i64 a4] (by rfl) rfl rfl Y8 ?_
        with_reducible refine (plenumref56_Free.calls ((rd_T43 l0 (rd t369 x15_1)).f0) ((rd_T43 l0 (rd t369 x15_1)).f1) ((rd_T43 l0 (rd t369 x15_1)).f2) ((rd_T43 l0 (rd t369 x15_1)).f3) ((rd_T43 l0 (rd t369 x15_1)).f4) true ((rd_T59 x11_1 (rd t369 x15_1)).f1) a4 false _ A53.out).mono ?_
        rintro e w59 ⟨rfl,hb⟩
        have HS0_ := (hb.cell (Y13 _ _ (hHeld.1))).trans (hHeld.1)
        have HS1_ := (hb.cell (Y13 _ _ (hHeld.2.1))).trans (hHeld.2.1)
        have HS7_ := (hb.cell (Y13 _ _ (hHeld.2.2.2.2.2.2.2.1))).trans (hHeld.2.2.2.2.2.2.2.1)
        have HS8_ := (hb.cell (Y13 _ _ (hHeld.2.2.2.2.2.2.2.2))).trans (hHeld.2.2.2.2.2.2.2.2)
        refine ⟨_,rfl,?_⟩
        have n0_ := Yd (Kd.R_below (Y5 HO_11.out) hb)
        have n1_ := Yd (Kd.R_below (Y5 HO_12.out) hb)
        have n2_ := Yd (below_step (Y3 HB.out) hb)
        clear HO_11
        clear HO_12
        clear HB
        have HO_11 := n0_
        have HO_12 := n1_
        have HB := n2_
        clear n0_ n1_ n2_
        (try clear hb)
        (try clear hb2)
        (try clear hk)
        (try clear hi)
        refine hK.out _ _ ⟨HS0_,HS1_,(Y10 HB.out hw382_0 :),(Y10 HB.out hw382_1 :),(Y10 HB.out hw382_2 :),(Y10 HB.out hw382_3 :),(Y10 HB.out hw382_4 :),HS7_,HS8_⟩ (fun hHeld => ?_)
        clear hK K
        refine norm_ (a' := ?_) ?_ ?_
        rotate_left
        ·show Act.put _ (some 98) _ = _
         simp only [Act.put,Ya,Yb,Yc,i64_w,i32_w]
         rfl
        refine pure_ (i := 16) (N := some 99) (v := ?_) (a' := ?_) #[YT,YT,YT,YT,YT,YT,YT,YT,YT,YT,YT,YT,YT,YT,YT,YT,YT,YF,YF,YF,YF,YF,YF,YF,YF,YF,YF,YF,YF,YF,YF,YF] rfl rfl (any_of HT_.out (by kernel_rfl)) (fun _ _ _ h => h) (Or.inl ⟨by rfl,?_⟩) ?_ ?_
        rotate_left
        ·intro w'
         go_simp
         with_reducible rfl
        rotate_left
        ·simp only [Act.put,Ya,Yb,Yc,i64_w,i32_w]
         rfl
        refine pure_ (i := 17) (N := some 100) (v := ?_) (a' := ?_) #[YT,YT,YT,YT,YT,YT,YT,YT,YT,YT,YT,YT,YT,YT,YT,YT,YT,YT,YF,YF,YF,YF,YF,YF,YF,YF,YF,YF,YF,YF,YF,YF] rfl rfl (any_of HT_.out (by kernel_rfl)) (fun _ _ _ h => h) (Or.inl ⟨by rfl,?_⟩) ?_ ?_
        rotate_left
        ·intro w'
         go_simp
         with_reducible rfl
        rotate_left
        ·simp only [Act.put,Ya,Yb,Yc,i64_w,i32_w]
         rfl
        refine pure_ (i := 18) (N := some 101) (v := undef) (a' := ?_) #[YT,YT,YT,YT,YT,YT,YT,YT,YT,YT,YT,YT,YT,YT,YT,YT,YT,YT,YT,YF,YF,YF,YF,YF,YF,YF,YF,YF,YF,YF,YF,YF] rfl rfl (any_of HT_.out (by kernel_rfl)) (fun _ _ _ h => h) (Or.inr ⟨by rfl,rfl⟩) ?_ ?_
        rotate_left
        ·simp only [Act.put,Ya,Yb,Yc,i64_w,i32_w]
         rfl
        refine pure_ (i := 19) (N := some 102) (v := undef) (a' := ?_) #[YT,YT,YT,YT,YT,YT,YT,YT,YT,YT,YT,YT,YT,YT,YT,YT,YT,YT,YT,YT,YF,YF,YF,YF,YF,YF,YF,YF,YF,YF,YF,YF] rfl rfl (any_of HT_.out (by kernel_rfl)) (fun _ _ _ h => h) (Or.inr ⟨by rfl,rfl⟩) ?_ ?_
        rotate_left
        ·simp only [Act.put,Ya,Yb,Yc,i64_w,i32_w]
         rfl
        refine pure_ (i := 20) (N := some 103) (v := undef) (a' := ?_) #[YT,YT,YT,YT,YT,YT,YT,YT,YT,YT,YT,YT,YT,YT,YT,YT,YT,YT,YT,YT,YT,YF,YF,YF,YF,YF,YF,YF,YF,YF,YF,YF] rfl rfl (any_of HT_.out (by kernel_rfl)) (fun _ _ _ h => h) (Or.inr ⟨by rfl,rfl⟩) ?_ ?_
        rotate_left
        ·simp only [Act.put,Ya,Yb,Yc,i64_w,i32_w]
         rfl
        refine pure_ (i := 21) (N := some 104) (v := undef) (a' := ?_) #[YT,YT,YT,YT,YT,YT,YT,YT,YT,YT,YT,YT,YT,YT,YT,YT,YT,YT,YT,YT,YT,YT,YF,YF,YF,YF,YF,YF,YF,YF,YF,YF] rfl rfl (any_of HT_.out (by kernel_rfl)) (fun _ _ _ h => h) (Or.inr ⟨by rfl,rfl⟩) ?_ ?_
        rotate_left
        ·simp only [Act.put,Ya,Yb,Yc,i64_w,i32_w]
         rfl
        refine pure_ (i := 22) (N := some 105) (v := undef) (a' := ?_) #[YT,YT,YT,YT,YT,YT,YT,YT,YT,YT,YT,YT,YT,YT,YT,YT,YT,YT,YT,YT,YT,YT,YT,YF,YF,YF,YF,YF,YF,YF,YF,YF] rfl rfl (any_of HT_.out (by kernel_rfl)) (fun _ _ _ h => h) (Or.inr ⟨by rfl,rfl⟩) ?_ ?_
        rotate_left
        ·simp only [Act.put,Ya,Yb,Yc,i64_w,i32_w]
         rfl
        refine pure_ (i := 23) (N := some 106) (v := undef) (a' := ?_) #[YT,YT,YT,YT,YT,YT,YT,YT,YT,YT,YT,YT,YT,YT,YT,YT,YT,YT,YT,YT,YT,YT,YT,YT,YF,YF,YF,YF,YF,YF,YF,YF] rfl rfl (any_of HT_.out (by kernel_rfl)) (fun _ _ _ h => h) (Or.inr ⟨by rfl,rfl⟩) ?_ ?_
        rotate_left
        ·simp only [Act.put,Ya,Yb,Yc,i64_w,i32_w]
         rfl
        refine pure_ (i := 24) (N := some 107) (v := undef) (a' := ?_) #[YT,YT,YT,YT,YT,YT,YT,YT,YT,YT,YT,YT,YT,YT,YT,YT,YT,YT,YT,YT,YT,YT,YT,YT,YT,YF,YF,YF,YF,YF,YF,YF] rfl rfl (any_of HT_.out (by kernel_rfl)) (fun _ _ _ h => h) (Or.inr ⟨by rfl,rfl⟩) ?_ ?_
        rotate_left
        ·simp only [Act.put,Ya,Yb,Yc,i64_w,i32_w]
         rfl
        refine pure_ (i := 25) (N := some 108) (v := undef) (a' := ?_) #[YT,YT,YT,YT,YT,YT,YT,YT,YT,YT,YT,YT,YT,YT,YT,YT,YT,YT,YT,YT,YT,YT,YT,YT,YT,YT,YF,YF,YF,YF,YF,YF] rfl rfl (any_of HT_.out (by kernel_rfl)) (fun _ _ _ h => h) (Or.inr ⟨by rfl,rfl⟩) ?_ ?_
        rotate_left
        ·simp only [Act.put,Ya,Yb,Yc,i64_w,i32_w]
         rfl
        refine pure_ (i := 26) (N := some 109) (v := undef) (a' := ?_) #[YT,YT,YT,YT,YT,YT,YT,YT,YT,YT,YT,YT,YT,YT,YT,YT,YT,YT,YT,YT,YT,YT,YT,YT,YT,YT,YT,YF,YF,YF,YF,YF] rfl rfl (any_of HT_.out (by kernel_rfl)) (fun _ _ _ h => h) (Or.inr ⟨by rfl,rfl⟩) ?_ ?_
        rotate_left
        ·simp only [Act.put,Ya,Yb,Yc,i64_w,i32_w]
         rfl
        refine pure_ (i := 27) (N := some 110) (v := undef) (a' := ?_) #[YT,YT,YT,YT,YT,YT,YT,YT,YT,YT,YT,YT,YT,YT,YT,YT,YT,YT,YT,YT,YT,YT,YT,YT,YT,YT,YT,YT,YF,YF,YF,YF] rfl rfl (any_of HT_.out (by kernel_rfl)) (fun _ _ _ h => h) (Or.inr ⟨by rfl,rfl⟩) ?_ ?_
        rotate_left
        ·simp only [Act.put,Ya,Yb,Yc,i64_w,i32_w]
         rfl
        refine pure_ (i := 28) (N := some 111) (v := undef) (a' := ?_) #[YT,YT,YT,YT,YT,YT,YT,YT,YT,YT,YT,YT,YT,YT,YT,YT,YT,YT,YT,YT,YT,YT,YT,YT,YT,YT,YT,YT,YT,YF,YF,YF] rfl rfl (any_of HT_.out (by kernel_rfl)) (fun _ _ _ h => h) (Or.inr ⟨by rfl,rfl⟩) ?_ ?_
        rotate_left
        ·simp only [Act.put,Ya,Yb,Yc,i64_w,i32_w]
         rfl
        refine pure_ (i := 29) (N := some 112) (v := undef) (a' := ?_) #[YT,YT,YT,YT,YT,YT,YT,YT,YT,YT,YT,YT,YT,YT,YT,YT,YT,YT,YT,YT,YT,YT,YT,YT,YT,YT,YT,YT,YT,YT,YF,YF] rfl rfl (any_of HT_.out (by kernel_rfl)) (fun _ _ _ h => h) (Or.inr ⟨by rfl,rfl⟩) ?_ ?_
        rotate_left
        ·simp only [Act.put,Ya,Yb,Yc,i64_w,i32_w]
         rfl
        refine pure_ (i := 30) (N := some 113) (v := undef) (a' := ?_) #[YT,YT,YT,YT,YT,YT,YT,YT,YT,YT,YT,YT,YT,YT,YT,YT,YT,YT,YT,YT,YT,YT,YT,YT,YT,YT,YT,YT,YT,YT,YT,YF] rfl rfl (any_of HT_.out (by kernel_rfl)) (fun _ _ _ h => h) (Or.inr ⟨by rfl,rfl⟩) ?_ ?_
        rotate_left
        ·simp only [Act.put,Ya,Yb,Yc,i64_w,i32_w]
         rfl
        refine pure_ (i := 31) (N := some 114) (v := ?_) (a' := ?_) #[YT,YT,YT,YT,YT,YT,YT,YT,YT,YT,YT,YT,YT,YT,YT,YT,YT,YT,YT,YT,YT,YT,YT,YT,YT,YT,YT,YT,YT,YT,YT,YT] rfl rfl (any_of HT_.out (by kernel_rfl)) (fun _ _ _ h => h) (Or.inl ⟨by rfl,?_⟩) ?_ ?_
        rotate_left
        ·intro w'
         go_simp
         with_reducible rfl
        rotate_left
        ·simp only [Act.put,Ya,Yb,Yc,i64_w,i32_w]
         rfl
        refine done_ (done_of HT_.out (by kernel_rfl)) ?_
        try go_wp2
        go_meet
        case rel => (try rw [← Nbq50.out]);exact ⟨_,(false),Y12,H',⟨by have := HK1.out;first | omega | exact Nat.le_refl _⟩,⟨by (try simp only [hl11_1]);(with_reducible repeat (first | apply Kd.R_alloc | apply Kd.R_drewN | apply Kd.R_drew));exact HO_11.out⟩,⟨by (try simp only [hl11_1]);(with_reducible repeat (first | apply Kd.R_alloc | apply Kd.R_drewN | apply Kd.R_drew));exact HO_12.out⟩,⟨Y3 HB.out⟩⟩
      ·replace c51 := Bool.eq_false_iff.mpr c51
       subst c51
       have H1 : (plenumref56_Step.j3 k1 l0 a2 a3 a4 x11_1 t369 x15_1 (rd t369 x15_1) false) = some r := by rw [if_neg (show ¬ (false = true) by decide)] at H;exact H
       clear H
       have H := H1
       clear H1
       have H' := Yd H
       clear H
       try go_wp2
       have n0_ := Yd (Kd.R_drew HO_11.out)
       have n1_ := Yd (Kd.R_drew HO_12.out)
       have n2_ := Yd (below_drew1 HB.out)
       clear HO_11
       clear HO_12
       clear HB
       have HO_11 := n0_
       have HO_12 := n1_
       have HB := n2_
       clear n0_ n1_ n2_
       have p381 : 0 ≤ ((rd t369 x15_1) : Int) := Y9
       have q381 : (rd t369 x15_1) < (x11_1.length : Int) := Y9
       obtain ⟨ad381,e381,hx381_0,hx381_1⟩ := at_T59 (Kd.R_reads' HO_11.out).2.2 (rd t369 x15_1) p381 q381
       (try rw [← Nbq50.out] at hx381_0)
       (try rw [← Nbq50.out] at hw381_0)
       cases e381
       replace p381 := eq_true p381
       replace q381 := eq_true q381
       refine start_ (n := 32) (S := fun w' => w'.cell? (ad381.add (((rd t369 x15_1)).toNat * 2)) = some (.bool false) ∧ w'.cell? ⟨(ad381.add (((rd t369 x15_1)).toNat * 2)).block,(ad381.add (((rd t369 x15_1)).toNat * 2)).off + 1,none⟩ = some (.int .i64 ((rd_T59 x11_1 (rd t369 x15_1)).f1))) (ds := []) #[YF,YF,YF,YF,YF,YF,YF,YF,YF,YF,YF,YF,YF,YF,YF,YF,YF,YF,YF,YF,YF,YF,YF,YF,YF,YF,YF,YF,YF,YF,YF,YF] (by kernel_rfl) rfl rfl ⟨hx381_0,hx381_1⟩ (fun hHeld => ?_);refine with_tabW plenumref56_Step.tab15 plenumref56_Step.bits15 (fun HT_ HW_ => ?_)
       generalize wr.drew = w60 at HO_11 HO_12 HB hx381_0 hx381_1 hHeld ⊢
       refine pure_ (i := 0) (N := some 83) (v := ?_) (a' := ?_) #[YT,YF,YF,YF,YF,YF,YF,YF,YF,YF,YF,YF,YF,YF,YF,YF,YF,YF,YF,YF,YF,YF,YF,YF,YF,YF,YF,YF,YF,YF,YF,YF] rfl rfl (any_of HT_.out (by kernel_rfl)) (fun _ _ _ h => h) (Or.inl ⟨by rfl,?_⟩) ?_ ?_
       rotate_left
       ·intro w'
        go_simp
        with_reducible rfl
       rotate_left
       ·simp only [Act.put,Ya,Yb,Yc,i64_w,i32_w]
        rfl
       refine pure_ (i := 1) (N := some 84) (v := ?_) (a' := ?_) #[YT,YT,YF,YF,YF,YF,YF,YF,YF,YF,YF,YF,YF,YF,YF,YF,YF,YF,YF,YF,YF,YF,YF,YF,YF,YF,YF,YF,YF,YF,YF,YF] rfl rfl (any_of HT_.out (by kernel_rfl)) (fun _ _ _ h => h) (Or.inl ⟨by rfl,?_⟩) ?_ ?_
       rotate_left
       ·intro w'
        go_simp
        with_reducible rfl
       rotate_left
       ·simp only [Act.put,Ya,Yb,Yc,i64_w,i32_w]
        rfl
       refine pure_ (i := 2) (N := some 85) (v := ?_) (a' := ?_) #[YT,YT,YT,YF,YF,YF,YF,YF,YF,YF,YF,YF,YF,YF,YF,YF,YF,YF,YF,YF,YF,YF,YF,YF,YF,YF,YF,YF,YF,YF,YF,YF] rfl rfl (any_of HT_.out (by kernel_rfl)) (fun _ _ _ h => h) (Or.inl ⟨by rfl,?_⟩) ?_ ?_
       rotate_left
       ·intro w'
        go_simp
        with_reducible rfl
       rotate_left
       ·simp only [Act.put,Ya,Yb,Yc,i64_w,i32_w]
        rfl
       refine pure_ (i := 3) (N := some 86) (v := ?_) (a' := ?_) #[YT,YT,YT,YT,YF,YF,YF,YF,YF,YF,YF,YF,YF,YF,YF,YF,YF,YF,YF,YF,YF,YF,YF,YF,YF,YF,YF,YF,YF,YF,YF,YF] rfl rfl (any_of HT_.out (by kernel_rfl)) (fun _ _ _ h => h) (Or.inl ⟨by rfl,?_⟩) ?_ ?_
       rotate_left
       ·intro w'
        go_simp
        with_reducible rfl
       rotate_left
       ·simp only [Act.put,Ya,Yb,Yc,i64_w,i32_w]
        rfl
       refine take_ (i := 4) (N := some 87) (v := ?_) (a' := ?_) #[YT,YT,YT,YT,YT,YF,YF,YF,YF,YF,YF,YF,YF,YF,YF,YF,YF,YF,YF,YF,YF,YF,YF,YF,YF,YF,YF,YF,YF,YF,YF,YF] rfl rfl (take_ofW HT_.out HW_.out (by kernel_rfl)) (fun _ _ _ h => h) (Or.inl ⟨by rfl,?_⟩) hHeld ?_ ?_
       rotate_left
       ·rintro w' ⟨s0,s1⟩
        go_simp
        with_reducible rfl
       rotate_left
       ·simp only [Act.put,Ya,Yb,Yc,i64_w,i32_w]
        rfl
       refine pure_ (i := 5) (N := some 88) (v := ?_) (a' := ?_) #[YT,YT,YT,YT,YT,YT,YF,YF,YF,YF,YF,YF,YF,YF,YF,YF,YF,YF,YF,YF,YF,YF,YF,YF,YF,YF,YF,YF,YF,YF,YF,YF] rfl rfl (any_of HT_.out (by kernel_rfl)) (fun _ _ _ h => h) (Or.inl ⟨by rfl,?_⟩) ?_ ?_
       rotate_left
       ·intro w'
        go_simp
        with_reducible rfl
       rotate_left
       ·simp only [Act.put,Ya,Yb,Yc,i64_w,i32_w]
        rfl
       refine pure_ (i := 6) (N := some 89) (v := undef) (a' := ?_) #[YT,YT,YT,YT,YT,YT,YT,YF,YF,YF,YF,YF,YF,YF,YF,YF,YF,YF,YF,YF,YF,YF,YF,YF,YF,YF,YF,YF,YF,YF,YF,YF] rfl rfl (any_of HT_.out (by kernel_rfl)) (fun _ _ _ h => h) (Or.inr ⟨by rfl,rfl⟩) ?_ ?_
       rotate_left
       ·simp only [Act.put,Ya,Yb,Yc,i64_w,i32_w]
        rfl
       refine pure_ (i := 7) (N := some 90) (v := undef) (a' := ?_) #[YT,YT,YT,YT,YT,YT,YT,YT,YF,YF,YF,YF,YF,YF,YF,YF,YF,YF,YF,YF,YF,YF,YF,YF,YF,YF,YF,YF,YF,YF,YF,YF] rfl rfl (any_of HT_.out (by kernel_rfl)) (fun _ _ _ h => h) (Or.inr ⟨by rfl,rfl⟩) ?_ ?_
       rotate_left
       ·simp only [Act.put,Ya,Yb,Yc,i64_w,i32_w]
        rfl
       refine pure_ (i := 8) (N := some 91) (v := undef) (a' := ?_) #[YT,YT,YT,YT,YT,YT,YT,YT,YT,YF,YF,YF,YF,YF,YF,YF,YF,YF,YF,YF,YF,YF,YF,YF,YF,YF,YF,YF,YF,YF,YF,YF] rfl rfl (any_of HT_.out (by kernel_rfl)) (fun _ _ _ h => h) (Or.inr ⟨by rfl,rfl⟩) ?_ ?_
       rotate_left
       ·simp only [Act.put,Ya,Yb,Yc,i64_w,i32_w]
        rfl
       refine pure_ (i := 9) (N := some 92) (v := undef) (a' := ?_) #[YT,YT,YT,YT,YT,YT,YT,YT,YT,YT,YF,YF,YF,YF,YF,YF,YF,YF,YF,YF,YF,YF,YF,YF,YF,YF,YF,YF,YF,YF,YF,YF] rfl rfl (any_of HT_.out (by kernel_rfl)) (fun _ _ _ h => h) (Or.inr ⟨by rfl,rfl⟩) ?_ ?_
       rotate_left
       ·simp only [Act.put,Ya,Yb,Yc,i64_w,i32_w]
        rfl
       refine pure_ (i := 10) (N := some 93) (v := undef) (a' := ?_) #[YT,YT,YT,YT,YT,YT,YT,YT,YT,YT,YT,YF,YF,YF,YF,YF,YF,YF,YF,YF,YF,YF,YF,YF,YF,YF,YF,YF,YF,YF,YF,YF] rfl rfl (any_of HT_.out (by kernel_rfl)) (fun _ _ _ h => h) (Or.inr ⟨by rfl,rfl⟩) ?_ ?_
       rotate_left
       ·simp only [Act.put,Ya,Yb,Yc,i64_w,i32_w]
        rfl
       refine pure_ (i := 11) (N := some 94) (v := undef) (a' := ?_) #[YT,YT,YT,YT,YT,YT,YT,YT,YT,YT,YT,YT,YF,YF,YF,YF,YF,YF,YF,YF,YF,YF,YF,YF,YF,YF,YF,YF,YF,YF,YF,YF] rfl rfl (any_of HT_.out (by kernel_rfl)) (fun _ _ _ h => h) (Or.inr ⟨by rfl,rfl⟩) ?_ ?_
       rotate_left
       ·simp only [Act.put,Ya,Yb,Yc,i64_w,i32_w]
        rfl
       refine pure_ (i := 12) (N := some 95) (v := undef) (a' := ?_) #[YT,YT,YT,YT,YT,YT,YT,YT,YT,YT,YT,YT,YT,YF,YF,YF,YF,YF,YF,YF,YF,YF,YF,YF,YF,YF,YF,YF,YF,YF,YF,YF] rfl rfl (any_of HT_.out (by kernel_rfl)) (fun _ _ _ h => h) (Or.inr ⟨by rfl,rfl⟩) ?_ ?_
       rotate_left
       ·simp only [Act.put,Ya,Yb,Yc,i64_w,i32_w]
        rfl
       refine pure_ (i := 13) (N := some 96) (v := undef) (a' := ?_) #[YT,YT,YT,YT,YT,YT,YT,YT,YT,YT,YT,YT,YT,YT,YF,YF,YF,YF,YF,YF,YF,YF,YF,YF,YF,YF,YF,YF,YF,YF,YF,YF] rfl rfl (any_of HT_.out (by kernel_rfl)) (fun _ _ _ h => h) (Or.inr ⟨by rfl,rfl⟩) ?_ ?_
       rotate_left
       ·simp only [Act.put,Ya,Yb,Yc,i64_w,i32_w]
        rfl
       refine pure_ (i := 14) (N := some 97) (v := undef) (a' := ?_) #[YT,YT,YT,YT,YT,YT,YT,YT,YT,YT,YT,YT,YT,YT,YT,YF,YF,YF,YF,YF,YF,YF,YF,YF,YF,YF,YF,YF,YF,YF,YF,YF] rfl rfl (any_of HT_.out (by kernel_rfl)) (fun _ _ _ h => h) (Or.inr ⟨by rfl,rfl⟩) ?_ ?_
       rotate_left
       ·simp only [Act.put,Ya,Yb,Yc,i64_w,i32_w]
        rfl
       refine pure_ (i := 15) (N := some 98) (v := undef) (a' := ?_) #[YT,YT,YT,YT,YT,YT,YT,YT,YT,YT,YT,YT,YT,YT,YT,YT,YF,YF,YF,YF,YF,YF,YF,YF,YF,YF,YF,YF,YF,YF,YF,YF] rfl rfl (any_of HT_.out (by kernel_rfl)) (fun _ _ _ h => h) (Or.inr ⟨by rfl,rfl⟩) ?_ ?_
       rotate_left
       ·simp only [Act.put,Ya,Yb,Yc,i64_w,i32_w]
        rfl
       refine pure_ (i := 16) (N := some 99) (v := ?_) (a' := ?_) #[YT,YT,YT,YT,YT,YT,YT,YT,YT,YT,YT,YT,YT,YT,YT,YT,YT,YF,YF,YF,YF,YF,YF,YF,YF,YF,YF,YF,YF,YF,YF,YF] rfl rfl (any_of HT_.out (by kernel_rfl)) (fun _ _ _ h => h) (Or.inl ⟨by rfl,?_⟩) ?_ ?_
       rotate_left
       ·intro w'
        go_simp
        with_reducible rfl
       rotate_left
       ·simp only [Act.put,Ya,Yb,Yc,i64_w,i32_w]
        rfl
       refine pure_ (i := 17) (N := some 100) (v := ?_) (a' := ?_) #[YT,YT,YT,YT,YT,YT,YT,YT,YT,YT,YT,YT,YT,YT,YT,YT,YT,YT,YF,YF,YF,YF,YF,YF,YF,YF,YF,YF,YF,YF,YF,YF] rfl rfl (any_of HT_.out (by kernel_rfl)) (fun _ _ _ h => h) (Or.inl ⟨by rfl,?_⟩) ?_ ?_
       rotate_left
       ·intro w'
        go_simp
        with_reducible rfl
       rotate_left
       ·simp only [Act.put,Ya,Yb,Yc,i64_w,i32_w]
        rfl
       refine pure_ (i := 18) (N := some 101) (v := undef) (a' := ?_) #[YT,YT,YT,YT,YT,YT,YT,YT,YT,YT,YT,YT,YT,YT,YT,YT,YT,YT,YT,YF,YF,YF,YF,YF,YF,YF,YF,YF,YF,YF,YF,YF] rfl rfl (any_of HT_.out (by kernel_rfl)) (fun _ _ _ h => h) (Or.inr ⟨by rfl,rfl⟩) ?_ ?_
       rotate_left
       ·simp only [Act.put,Ya,Yb,Yc,i64_w,i32_w]
        rfl
       refine pure_ (i := 19) (N := some 102) (v := undef) (a' := ?_) #[YT,YT,YT,YT,YT,YT,YT,YT,YT,YT,YT,YT,YT,YT,YT,YT,YT,YT,YT,YT,YF,YF,YF,YF,YF,YF,YF,YF,YF,YF,YF,YF] rfl rfl (any_of HT_.out (by kernel_rfl)) (fun _ _ _ h => h) (Or.inr ⟨by rfl,rfl⟩) ?_ ?_
       rotate_left
       ·simp only [Act.put,Ya,Yb,Yc,i64_w,i32_w]
        rfl
       refine pure_ (i := 20) (N := some 103) (v := undef) (a' := ?_) #[YT,YT,YT,YT,YT,YT,YT,YT,YT,YT,YT,YT,YT,YT,YT,YT,YT,YT,YT,YT,YT,YF,YF,YF,YF,YF,YF,YF,YF,YF,YF,YF] rfl rfl (any_of HT_.out (by kernel_rfl)) (fun _ _ _ h => h) (Or.inr ⟨by rfl,rfl⟩) ?_ ?_
       rotate_left
       ·simp only [Act.put,Ya,Yb,Yc,i64_w,i32_w]
        rfl
       refine pure_ (i := 21) (N := some 104) (v := undef) (a' := ?_) #[YT,YT,YT,YT,YT,YT,YT,YT,YT,YT,YT,YT,YT,YT,YT,YT,YT,YT,YT,YT,YT,YT,YF,YF,YF,YF,YF,YF,YF,YF,YF,YF] rfl rfl (any_of HT_.out (by kernel_rfl)) (fun _ _ _ h => h) (Or.inr ⟨by rfl,rfl⟩) ?_ ?_
       rotate_left
       ·simp only [Act.put,Ya,Yb,Yc,i64_w,i32_w]
        rfl
       refine pure_ (i := 22) (N := some 105) (v := undef) (a' := ?_) #[YT,YT,YT,YT,YT,YT,YT,YT,YT,YT,YT,YT,YT,YT,YT,YT,YT,YT,YT,YT,YT,YT,YT,YF,YF,YF,YF,YF,YF,YF,YF,YF] rfl rfl (any_of HT_.out (by kernel_rfl)) (fun _ _ _ h => h) (Or.inr ⟨by rfl,rfl⟩) ?_ ?_
       rotate_left
       ·simp only [Act.put,Ya,Yb,Yc,i64_w,i32_w]
        rfl
       refine pure_ (i := 23) (N := some 106) (v := undef) (a' := ?_) #[YT,YT,YT,YT,YT,YT,YT,YT,YT,YT,YT,YT,YT,YT,YT,YT,YT,YT,YT,YT,YT,YT,YT,YT,YF,YF,YF,YF,YF,YF,YF,YF] rfl rfl (any_of HT_.out (by kernel_rfl)) (fun _ _ _ h => h) (Or.inr ⟨by rfl,rfl⟩) ?_ ?_
       rotate_left
       ·simp only [Act.put,Ya,Yb,Yc,i64_w,i32_w]
        rfl
       refine pure_ (i := 24) (N := some 107) (v := undef) (a' := ?_) #[YT,YT,YT,YT,YT,YT,YT,YT,YT,YT,YT,YT,YT,YT,YT,YT,YT,YT,YT,YT,YT,YT,YT,YT,YT,YF,YF,YF,YF,YF,YF,YF] rfl rfl (any_of HT_.out (by kernel_rfl)) (fun _ _ _ h => h) (Or.inr ⟨by rfl,rfl⟩) ?_ ?_
       rotate_left
       ·simp only [Act.put,Ya,Yb,Yc,i64_w,i32_w]
        rfl
       refine pure_ (i := 25) (N := some 108) (v := undef) (a' := ?_) #[YT,YT,YT,YT,YT,YT,YT,YT,YT,YT,YT,YT,YT,YT,YT,YT,YT,YT,YT,YT,YT,YT,YT,YT,YT,YT,YF,YF,YF,YF,YF,YF] rfl rfl (any_of HT_.out (by kernel_rfl)) (fun _ _ _ h => h) (Or.inr ⟨by rfl,rfl⟩) ?_ ?_
       rotate_left
       ·simp only [Act.put,Ya,Yb,Yc,i64_w,i32_w]
        rfl
       refine pure_ (i := 26) (N := some 109) (v := undef) (a' := ?_) #[YT,YT,YT,YT,YT,YT,YT,YT,YT,YT,YT,YT,YT,YT,YT,YT,YT,YT,YT,YT,YT,YT,YT,YT,YT,YT,YT,YF,YF,YF,YF,YF] rfl rfl (any_of HT_.out (by kernel_rfl)) (fun _ _ _ h => h) (Or.inr ⟨by rfl,rfl⟩) ?_ ?_
       rotate_left
       ·simp only [Act.put,Ya,Yb,Yc,i64_w,i32_w]
        rfl
       refine pure_ (i := 27) (N := some 110) (v := undef) (a' := ?_) #[YT,YT,YT,YT,YT,YT,YT,YT,YT,YT,YT,YT,YT,YT,YT,YT,YT,YT,YT,YT,YT,YT,YT,YT,YT,YT,YT,YT,YF,YF,YF,YF] rfl rfl (any_of HT_.out (by kernel_rfl)) (fun _ _ _ h => h) (Or.inr ⟨by rfl,rfl⟩) ?_ ?_
       rotate_left
       ·simp only [Act.put,Ya,Yb,Yc,i64_w,i32_w]
        rfl
       refine pure_ (i := 28) (N := some 111) (v := undef) (a' := ?_) #[YT,YT,YT,YT,YT,YT,YT,YT,YT,YT,YT,YT,YT,YT,YT,YT,YT,YT,YT,YT,YT,YT,YT,YT,YT,YT,YT,YT,YT,YF,YF,YF] rfl rfl (any_of HT_.out (by kernel_rfl)) (fun _ _ _ h => h) (Or.inr ⟨by rfl,rfl⟩) ?_ ?_
       rotate_left
       ·simp only [Act.put,Ya,Yb,Yc,i64_w,i32_w]
        rfl
       refine pure_ (i := 29) (N := some 112) (v := undef) (a' := ?_) #[YT,YT,YT,YT,YT,YT,YT,YT,YT,YT,YT,YT,YT,YT,YT,YT,YT,YT,YT,YT,YT,YT,YT,YT,YT,YT,YT,YT,YT,YT,YF,YF] rfl rfl (any_of HT_.out (by kernel_rfl)) (fun _ _ _ h => h) (Or.inr ⟨by rfl,rfl⟩) ?_ ?_
       rotate_left
       ·simp only [Act.put,Ya,Yb,Yc,i64_w,i32_w]
        rfl
       refine pure_ (i := 30) (N := some 113) (v := undef) (a' := ?_) #[YT,YT,YT,YT,YT,YT,YT,YT,YT,YT,YT,YT,YT,YT,YT,YT,YT,YT,YT,YT,YT,YT,YT,YT,YT,YT,YT,YT,YT,YT,YT,YF] rfl rfl (any_of HT_.out (by kernel_rfl)) (fun _ _ _ h => h) (Or.inr ⟨by rfl,rfl⟩) ?_ ?_
       rotate_left
       ·simp only [Act.put,Ya,Yb,Yc,i64_w,i32_w]
        rfl
       refine pure_ (i := 31) (N := some 114) (v := ?_) (a' := ?_) #[YT,YT,YT,YT,YT,YT,YT,YT,YT,YT,YT,YT,YT,YT,YT,YT,YT,YT,YT,YT,YT,YT,YT,YT,YT,YT,YT,YT,YT,YT,YT,YT] rfl rfl (any_of HT_.out (by kernel_rfl)) (fun _ _ _ h => h) (Or.inl ⟨by rfl,?_⟩) ?_ ?_
       rotate_left
       ·intro w'
        go_simp
        with_reducible rfl
       rotate_left
       ·simp only [Act.put,Ya,Yb,Yc,i64_w,i32_w]
        rfl
       refine done_ (done_of HT_.out (by kernel_rfl)) ?_
       try go_wp2
       go_meet
       case rel => (try rw [← Nbq50.out]);exact ⟨_,(false),Y12,H',⟨by have := HK1.out;first | omega | exact Nat.le_refl _⟩,⟨by (try simp only [hl11_1]);(with_reducible repeat (first | apply Kd.R_alloc | apply Kd.R_drewN | apply Kd.R_drew));exact HO_11.out⟩,⟨by (try simp only [hl11_1]);(with_reducible repeat (first | apply Kd.R_alloc | apply Kd.R_drewN | apply Kd.R_drew));exact HO_12.out⟩,⟨Y3 HB.out⟩⟩
     case rest =>
      clear HC47
      try clear c1
      try clear p2
      try clear c3
      try clear p3
      try clear q3
      try clear hx3
      try clear c4
      try clear c5
      try clear q5
      try clear p6
      try clear c10
      try clear c31
      try clear p38
      try clear q38
      try clear hx38
      try clear c48
      try clear c49
      try clear q50
      try clear c51
      try clear c52
      try clear c54
      try clear hx381_0
      try clear hx381_1
      try clear hx382_0
      try clear hx382_1
      try clear hx382_2
      try clear hx382_3
      try clear hx382_4
      try clear hx383_0
      try clear hx383_1
      try clear p381
      try clear p382
      try clear p383
      try clear q381
      try clear q382
      try clear q383
      obtain ⟨kq,x114_46,rfl,HA,HJ46,HO_11,HO_12,HB⟩ := hcut
      cases kq with
      | zero => exact absurd HA.out (by simp [plenumref56_Step.j3])
      | succ kj46 =>
       have H := HA.out
       clear HA
       simp only [plenumref56_Step.j3] at H
       by_cases c61 : x114_46 = true
       ·subst c61
        have H1 : (if 0 ≤ (rd t369 x15_1) then (if (rd t369 x15_1) < (x11_1.length : Int) then (plenumref56_Step.l1 kj46 l0 a2 a3 a4 (x11_1.set ((rd t369 x15_1) : Int).toNat (⟨false,a4⟩ : S59)) t369 (wrap64 (x15_1 - 1))) else (none)) else (none)) = some r := by rw [if_pos rfl] at H;exact H
        clear H
        have H := H1
        clear H1
        by_cases c62 : 0 ≤ (rd t369 x15_1)
        case neg => rw [if_neg c62] at H;exact absurd H (by simp)
        rw [if_pos c62] at H
        have c62b0 : decide (0 ≤ (rd t369 x15_1)) = true := decide_eq_true c62
        clear c62
        by_cases c63 : (rd t369 x15_1) < (x11_1.length : Int)
        case neg => rw [if_neg c63] at H;exact absurd H (by simp)
        rw [if_pos c63] at H
        have c63b0 : decide ((rd t369 x15_1) < (x11_1.length : Int)) = true := decide_eq_true c63
        (try simp only [hl11_1] at c63b0)
        clear c63
        obtain ⟨y387,hy387⟩ : ∃ y_ : List (S59),y_ = (x11_1.set ((rd t369 x15_1) : Int).toNat (⟨false,a4⟩ : S59)) := ⟨_,rfl⟩
        replace H : (plenumref56_Step.l1 kj46 l0 a2 a3 a4 y387 t369 (wrap64 (x15_1 - 1))) = some r := by first | (rw [hy387];with_reducible exact H) | (have H2_ := (Option.bind_some _ _).symm.trans H;rw [hy387];with_reducible exact H2_) | (have H2_ := (Option.bind_some _ _).symm.trans H;with_reducible exact H2_) | with_reducible exact H | (rw [hy387];exact H) | exact H
        have Ny387 := Yd hy387
        clear hy387
        have H' := Yd H
        clear H
        have p64 : 0 ≤ ((rd t369 x15_1) : Int) := Y9
        have q64 : ((rd t369 x15_1) : Int) < ((x11_1.length : Int) : Int) := Y9
        obtain ⟨go64,co64,eo64,gb64,gl64,cl64,HG64⟩ := Kd.R_form HO_11.out (by omega)
        (first | cases eo64 | (injection eo64 with ea_ en_ ec_;(first | subst ea_ | (injection ea_ with ea_;subst ea_));subst ec_;clear en_))
        have GB64 := Yd gb64
        have GG64 := Yd HG64
        clear gb64 gl64 HG64
        obtain ⟨ce64,hcl64,hM64,hcc64,hfr64⟩ := Kd.R_elem HO_11.out z59 ((rd t369 x15_1) : Int) p64 q64
        obtain rfl := k59_openM hM64
        have hx64_0 : wc.cell? ⟨go64,((rd t369 x15_1) : Int).toNat * 2,none⟩ = some (.bool ((rd_T59 x11_1 (rd t369 x15_1)).f0)) := hcc64 0 _ rfl
        have hx64_1 : wc.cell? ⟨go64,((rd t369 x15_1) : Int).toNat * 2 + 1,none⟩ = some (.int .i64 ((rd_T59 x11_1 (rd t369 x15_1)).f1)) := hcc64 1 _ rfl
        have hf64_0 : wc.frozen? ⟨go64,((rd t369 x15_1) : Int).toNat * 2,none⟩ = false := hfr64 0
        have hf64_1 : wc.frozen? ⟨go64,((rd t369 x15_1) : Int).toNat * 2 + 1,none⟩ = false := hfr64 1
        clear hcl64 hcc64 hfr64 hM64
        replace p64 := eq_true p64
        replace q64 := eq_true q64
        have HX65 := Yd (show Kd.R k59 59 wc w.heap.size (fun _ => True) (.slice (some ⟨go64,0,none⟩) x11_1.length co42) x11_1 from (Y5 HO_11.out))
        obtain ⟨ce65,hcl65,hM65,hcc65,hfr65⟩ := Kd.R_elem HX65.out z59 ((rd t369 x15_1) : Int) (Y9) (by have h_ : ((rd t369 x15_1) : Int) < ((x11_1.length : Int) : Int) := Y9;first | exact h_ | (have e_ := (Kd.R_reads' HO_11.out).1;omega) | simpa using h_)
        obtain rfl := k59_openM hM65
        have HP65 := Kd.R_seg HX65.out ((rd t369 x15_1) : Int) (Y9) (by have h_ : ((rd t369 x15_1) : Int) < ((x11_1.length : Int) : Int) := Y9;first | exact h_ | (have e_ := (Kd.R_reads' HO_11.out).1;omega) | simpa using h_) (seg := [.bool false,.int .i64 a4]) (j := 0) hcl65 hcc65 (show 2 ≤ 2 from by decide) (x' := (⟨false,a4⟩ : S59)) (k59_mkM _ _ _ (⟨false,a4⟩ : S59) ) (fun _ hk => hk)
        have hx65_0 := hcc65 0 _ rfl
        (try simp only [show (k59).sz = 2 from rfl,Nat.mul_one,Nat.add_zero] at hx65_0)
        have hf65_0 := hfr65 0
        (try simp only [show (k59).sz = 2 from rfl,Nat.mul_one,Nat.add_zero] at hf65_0)
        have hx65_1 := hcc65 1 _ rfl
        (try simp only [show (k59).sz = 2 from rfl,Nat.mul_one,Nat.add_zero] at hx65_1)
        have hf65_1 := hfr65 1
        (try simp only [show (k59).sz = 2 from rfl,Nat.mul_one,Nat.add_zero] at hf65_1)
        clear hcl65 hcc65 hfr65 hM65
        go_wp2_with (first | ((with_reducible refine gate_store (t := 59) (p := 119) rfl ?_);refine store_event (t := 59) (p := 119) (v := ?vo_w66) (w1 := ((wc.setCell ⟨go64,((rd t369 x15_1) : Int).toNat * 2,none⟩ (.bool false)).setCell ⟨go64,((rd t369 x15_1) : Int).toNat * 2 + 1,none⟩ (.int .i64 a4))) ?hg ?ho ?hn ?hr ?_;(case ho => rfl);(case hg => rfl);(case hn => rfl);(case hr => first | (go_simp;done) | (go_simp;rfl));intro w66 hw;have hg : wc.grownBy w66 (some go64) := (by rw [hw];exact HP65.2);have hp_ : Kd.R k59 59 w66 w.heap.size (fun _ => True) (.slice (some ⟨go64,0,none⟩) x11_1.length co42) y387 := (by rw [hw,Ny387.out];exact HP65.1);clear HP65;have n0_ := Yd (hp_);have n1_ := Yd (Kd.R_over' (v := (.slice (some ⟨go64,0,none⟩) x11_1.length co42)) (Y5 HO_12.out) (Kd.R_typed HO_11.out) (by decide) hg);have n2_ := Yd ((by rw [hw];exact below_set (below_set (HB.out) GB64.out) GB64.out : Below w.heap.size w w66));clear HO_11;clear HO_12;clear HB;have HO_11 := n0_;have HO_12 := n1_;have HB := n2_;clear n0_ n1_ n2_;clear hg hw hp_))
        (try simp only [← hl11_1])
        go_roundg kj46
        case measure => have := HK1.out;have := HJ46.out;omega
        case rel => exact ⟨(y387),(wrap64 (x15_1 - 1)),Y12,H',⟨by have := HK1.out;have := HJ46.out;omega⟩,⟨by (try simp only [hl11_1]);(with_reducible repeat (first | apply Kd.R_alloc | apply Kd.R_drewN | apply Kd.R_drew));exact HO_11.out⟩,⟨by (try simp only [hl11_1]);(with_reducible repeat (first | apply Kd.R_alloc | apply Kd.R_drewN | apply Kd.R_drew));exact HO_12.out⟩,⟨Y3 HB.out⟩⟩
       ·replace c61 := Bool.eq_false_iff.mpr c61
        subst c61
        have H1 : (plenumref56_Step.l1 kj46 l0 a2 a3 a4 x11_1 t369 (wrap64 (x15_1 - 1))) = some r := by rw [if_neg (show ¬ (false = true) by decide)] at H;exact H
        clear H
        have H := H1
        clear H1
        have H' := Yd H
        clear H
        go_wp2
        (try simp only [← hl11_1])
        go_roundg kj46
        case measure => have := HK1.out;have := HJ46.out;omega
        case rel => exact ⟨(x11_1),(wrap64 (x15_1 - 1)),Y12,H',⟨by have := HK1.out;have := HJ46.out;omega⟩,⟨by (try simp only [hl11_1]);(with_reducible repeat (first | apply Kd.R_alloc | apply Kd.R_drewN | apply Kd.R_drew));exact HO_11.out⟩,⟨by (try simp only [hl11_1]);(with_reducible repeat (first | apply Kd.R_alloc | apply Kd.R_drewN | apply Kd.R_drew));exact HO_12.out⟩,⟨Y3 HB.out⟩⟩
    ·rw [if_neg c44] at H
     have c44b0 : decide (0 ≤ x15_1) = false := decide_eq_false c44
     clear c44
     obtain rfl := Option.some.inj H
     go_wp2
     go_ret
     exact ⟨_,by first | rfl | (simp [errW_none,errW_some] <;> rfl) | (simp [*,errW_none,errW_some] <;> rfl),by (with_reducible repeat (first | apply Kd.R_alloc | apply Kd.R_drewN | apply Kd.R_drew));exact HO_11.out,Y3 HB.out⟩
end Go.Proofs.Ytcdjhdfjkfbgdaa.PD56
