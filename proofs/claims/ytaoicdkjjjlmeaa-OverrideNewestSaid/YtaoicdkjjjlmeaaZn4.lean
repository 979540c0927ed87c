/- Words, contracts and plain laws for this claim, part 4. -/
import Derived.Test.YtaoicdkjjjlmeaaZn3
set_option linter.unusedVariables false
set_option linter.unusedSimpArgs false
namespace Go.Proofs.Ytaoicdkjjjlmeaa.PD34
open Go.RowKit Go.Proofs.YtaoicdkjjjlmeaaW.PrintWords Go.Proofs.YtaoicdkjjjlmeaaW.PrintLast Go.Proofs.YtaoicdkjjjlmeaaW.PrintMore
attribute [local go_sem] max2_int min2_int max_two min_two max_three min_three max_four min_four
attribute [local go_sem high] eqA24
mutual
def plenumlaw34_OverrideNewest.j0 : Nat → List (S26) → Int → Int → Int → Bool → Option (Bool)
 | 0,_,_,_,_,_ => none
 | k + 1,x0,x1,x2,x3,x33 => if x33 = true then (some true) else (plenumlaw34_OverrideNewest.l0 k x0 x1 x2 x3 0 0)
def plenumlaw34_OverrideNewest.l0 : Nat → List (S26) → Int → Int → Int → Int → Int → Option (Bool)
 | 0,_,_,_,_,_,_ => none
 | k + 1,x0,x1,x2,x3,x9,x10 => if x10 < (x0.length : Int) then (if 0 ≤ x10 then (if ((rd_T26 x0 x10).f0).toList = ([122,122,122] : List UInt8) then (some true) else (if ((rd_T26 x0 x10).f4) ≥ 1000000000 then (some true) else (plenumlaw34_OverrideNewest.l0 k x0 x1 x2 x3 (mx x9 (wrap64 (((rd_T26 x0 x10).f4) + 1))) (wrap64 (x10 + 1))))) else (none)) else ((override_Add.f k x0 (⟨#[122,122,122]⟩ : ByteArray) x1 x2 3 16 x9).bind fun bt421 => (if bt421.2 = 0 then ((override_At.f k bt421.1 x3).bind fun t425 => (if t425 ≥ 0 then (if 0 ≤ t425 then (if t425 < (bt421.1.length : Int) then (plenumlaw34_OverrideNewest.j2 k x0 x1 x2 x3 bt421.1 (((rd_T26 bt421.1 t425).f0).toList == ([122,122,122] : List UInt8))) else (none)) else (none)) else (plenumlaw34_OverrideNewest.j2 k x0 x1 x2 x3 bt421.1 false))) else (some (bt421.2 == 6))))
def plenumlaw34_OverrideNewest.j2 : Nat → List (S26) → Int → Int → Int → List (S26) → Bool → Option (Bool)
 | 0,_,_,_,_,_,_ => none
 | k + 1,x0,x1,x2,x3,x12,x15 => (override_Remove.f k x12 (⟨#[122,122,122]⟩ : ByteArray)).bind fun bt427 => (if x3 ≥ x1 then (if (x15 == (decide (x3 < x2))) = true then (if x15 = true then (if bt427.2 = 0 then ((plenumref34_Same.f k bt427.1 x0).bind fun t432 => (some t432)) else (none)) else ((override_Value.f k x12 x3 0 0).bind fun bt433 => ((override_Value.f k x0 x3 0 0).bind fun bt435 => (if (bt433.1 == bt435.1 && (bt433.2 == bt435.2)) = true then (if bt427.2 = 0 then ((plenumref34_Same.f k bt427.1 x0).bind fun t437 => (some t437)) else (none)) else (none))))) else (none)) else (if (x15 == false) = true then (if x15 = true then (if bt427.2 = 0 then ((plenumref34_Same.f k bt427.1 x0).bind fun t438 => (some t438)) else (none)) else ((override_Value.f k x12 x3 0 0).bind fun bt439 => ((override_Value.f k x0 x3 0 0).bind fun bt441 => (if (bt439.1 == bt441.1 && (bt439.2 == bt441.2)) = true then (if bt427.2 = 0 then ((plenumref34_Same.f k bt427.1 x0).bind fun t443 => (some t443)) else (none)) else (none))))) else (none)))
end
def plenumlaw34_OverrideNewest.f (k : Nat) (l0 : List (S26)) (a1 : Int) (a2 : Int) (a3 : Int) : Option (Bool) := (plenumlaw34_awake.f k).bind fun t414 => (if t414 = true then ((plenumref34_Few.f k l0).bind fun t415 => (if t415 = true then (if (l0.length : Int) > 63 then (plenumlaw34_OverrideNewest.j0 k l0 a1 a2 a3 true) else ((override_Check.f k l0).bind fun t416 => (plenumlaw34_OverrideNewest.j0 k l0 a1 a2 a3 (t416 != 0)))) else (plenumlaw34_OverrideNewest.j0 k l0 a1 a2 a3 true))) else (none))
theorem plenumlaw34_OverrideNewest.mono_l : ∀ k,(∀ y0 y1 y2 y3 y4,LeO (plenumlaw34_OverrideNewest.j0 k y0 y1 y2 y3 y4) (plenumlaw34_OverrideNewest.j0 (k + 1) y0 y1 y2 y3 y4)) ∧ (∀ y0 y1 y2 y3 y4 y5,LeO (plenumlaw34_OverrideNewest.l0 k y0 y1 y2 y3 y4 y5) (plenumlaw34_OverrideNewest.l0 (k + 1) y0 y1 y2 y3 y4 y5)) ∧ (∀ y0 y1 y2 y3 y4 y5,LeO (plenumlaw34_OverrideNewest.j2 k y0 y1 y2 y3 y4 y5) (plenumlaw34_OverrideNewest.j2 (k + 1) y0 y1 y2 y3 y4 y5))
 | 0 => ⟨fun _ _ _ _ _ r h => by simp [plenumlaw34_OverrideNewest.j0] at h,fun _ _ _ _ _ _ r h => by simp [plenumlaw34_OverrideNewest.l0] at h,fun _ _ _ _ _ _ r h => by simp [plenumlaw34_OverrideNewest.j2] at h⟩
 | k + 1 => by
  obtain ⟨ih0,ih1,ih2⟩ := plenumlaw34_OverrideNewest.mono_l k
  refine ⟨?_,?_,?_⟩
  ·intro y0 y1 y2 y3 y4
   unfold plenumlaw34_OverrideNewest.j0
   repeat' first
   | (with_reducible exact ih0 _ _ _ _ _)
   | (with_reducible exact ih1 _ _ _ _ _ _)
   | (with_reducible exact ih2 _ _ _ _ _ _)
   | (with_reducible exact override_Add.mono _ _ _ _ _ _ _ _)
   | (with_reducible exact override_At.mono _ _ _)
   | (with_reducible exact override_Check.mono _ _)
   | (with_reducible exact override_Remove.mono _ _ _)
   | (with_reducible exact override_Value.mono _ _ _ _ _)
   | (with_reducible exact plenumlaw34_awake.mono _)
   | (with_reducible exact plenumref34_Few.mono _ _)
   | (with_reducible exact plenumref34_Same.mono _ _ _)
   | (with_reducible exact LeO.refl _)
   | (with_reducible exact LeO.none _)
   | (with_reducible refine LeO.ite ?_ ?_)
   | (with_reducible refine LeO.bind ?_ (fun _ => ?_))
   | exact ih0 _ _ _ _ _
   | exact ih1 _ _ _ _ _ _
   | exact ih2 _ _ _ _ _ _
   | exact override_Add.mono _ _ _ _ _ _ _ _
   | exact override_At.mono _ _ _
   | exact override_Check.mono _ _
   | exact override_Remove.mono _ _ _
   | exact override_Value.mono _ _ _ _ _
   | exact plenumlaw34_awake.mono _
   | exact plenumref34_Few.mono _ _
   | exact plenumref34_Same.mono _ _ _
   | exact LeO.none _
   | refine LeO.ite ?_ ?_
   | refine LeO.bind ?_ (fun _ => ?_)
  ·intro y0 y1 y2 y3 y4 y5
   unfold plenumlaw34_OverrideNewest.l0
   repeat' first
   | (with_reducible exact ih0 _ _ _ _ _)
   | (with_reducible exact ih1 _ _ _ _ _ _)
   | (with_reducible exact ih2 _ _ _ _ _ _)
   | (with_reducible exact override_Add.mono _ _ _ _ _ _ _ _)
   | (with_reducible exact override_At.mono _ _ _)
   | (with_reducible exact override_Check.mono _ _)
   | (with_reducible exact override_Remove.mono _ _ _)
   | (with_reducible exact override_Value.mono _ _ _ _ _)
   | (with_reducible exact plenumlaw34_awake.mono _)
   | (with_reducible exact plenumref34_Few.mono _ _)
   | (with_reducible exact plenumref34_Same.mono _ _ _)
   | (with_reducible exact LeO.refl _)
   | (with_reducible exact LeO.none _)
   | (with_reducible refine LeO.ite ?_ ?_)
   | (with_reducible refine LeO.bind ?_ (fun _ => ?_))
   | exact ih0 _ _ _ _ _
   | exact ih1 _ _ _ _ _ _
   | exact ih2 _ _ _ _ _ _
   | exact override_Add.mono _ _ _ _ _ _ _ _
   | exact override_At.mono _ _ _
   | exact override_Check.mono _ _
   | exact override_Remove.mono _ _ _
   | exact override_Value.mono _ _ _ _ _
   | exact plenumlaw34_awake.mono _
   | exact plenumref34_Few.mono _ _
   | exact plenumref34_Same.mono _ _ _
   | exact LeO.none _
   | refine LeO.ite ?_ ?_
   | refine LeO.bind ?_ (fun _ => ?_)
  ·intro y0 y1 y2 y3 y4 y5
   unfold plenumlaw34_OverrideNewest.j2
   repeat' first
   | (with_reducible exact ih0 _ _ _ _ _)
   | (with_reducible exact ih1 _ _ _ _ _ _)
   | (with_reducible exact ih2 _ _ _ _ _ _)
   | (with_reducible exact override_Add.mono _ _ _ _ _ _ _ _)
   | (with_reducible exact override_At.mono _ _ _)
   | (with_reducible exact override_Check.mono _ _)
   | (with_reducible exact override_Remove.mono _ _ _)
   | (with_reducible exact override_Value.mono _ _ _ _ _)
   | (with_reducible exact plenumlaw34_awake.mono _)
   | (with_reducible exact plenumref34_Few.mono _ _)
   | (with_reducible exact plenumref34_Same.mono _ _ _)
   | (with_reducible exact LeO.refl _)
   | (with_reducible exact LeO.none _)
   | (with_reducible refine LeO.ite ?_ ?_)
   | (with_reducible refine LeO.bind ?_ (fun _ => ?_))
   | exact ih0 _ _ _ _ _
   | exact ih1 _ _ _ _ _ _
   | exact ih2 _ _ _ _ _ _
   | exact override_Add.mono _ _ _ _ _ _ _ _
   | exact override_At.mono _ _ _
   | exact override_Check.mono _ _
   | exact override_Remove.mono _ _ _
   | exact override_Value.mono _ _ _ _ _
   | exact plenumlaw34_awake.mono _
   | exact plenumref34_Few.mono _ _
   | exact plenumref34_Same.mono _ _ _
   | exact LeO.none _
   | refine LeO.ite ?_ ?_
   | refine LeO.bind ?_ (fun _ => ?_)
theorem plenumlaw34_OverrideNewest.mono : ∀ a0 a1 a2 a3 k,LeO (plenumlaw34_OverrideNewest.f k a0 a1 a2 a3) (plenumlaw34_OverrideNewest.f (k + 1) a0 a1 a2 a3) := by
 intro a0 a1 a2 a3 k
 obtain ⟨ih0,ih1,ih2⟩ := plenumlaw34_OverrideNewest.mono_l k
 unfold plenumlaw34_OverrideNewest.f
 repeat' first
   | (with_reducible exact ih0 _ _ _ _ _)
   | (with_reducible exact ih1 _ _ _ _ _ _)
   | (with_reducible exact ih2 _ _ _ _ _ _)
   | (with_reducible exact override_Add.mono _ _ _ _ _ _ _ _)
   | (with_reducible exact override_At.mono _ _ _)
   | (with_reducible exact override_Check.mono _ _)
   | (with_reducible exact override_Remove.mono _ _ _)
   | (with_reducible exact override_Value.mono _ _ _ _ _)
   | (with_reducible exact plenumlaw34_awake.mono _)
   | (with_reducible exact plenumref34_Few.mono _ _)
   | (with_reducible exact plenumref34_Same.mono _ _ _)
   | (with_reducible exact LeO.refl _)
   | (with_reducible exact LeO.none _)
   | (with_reducible refine LeO.ite ?_ ?_)
   | (with_reducible refine LeO.bind ?_ (fun _ => ?_))
   | exact ih0 _ _ _ _ _
   | exact ih1 _ _ _ _ _ _
   | exact ih2 _ _ _ _ _ _
   | exact override_Add.mono _ _ _ _ _ _ _ _
   | exact override_At.mono _ _ _
   | exact override_Check.mono _ _
   | exact override_Remove.mono _ _ _
   | exact override_Value.mono _ _ _ _ _
   | exact plenumlaw34_awake.mono _
   | exact plenumref34_Few.mono _ _
   | exact plenumref34_Same.mono _ _ _
   | exact LeO.none _
   | refine LeO.ite ?_ ?_
   | refine LeO.bind ?_ (fun _ => ?_)
def plenumlaw34_OverrideNewest.T20 : Bool × List (List Nat × List Nat) := (true,[([],[]),([],[]),([],[]),([1,2],[1,2]),([3],[3]),([4],[4]),([4],[4]),([5,6,4],[4,5,6]),([4,7],[4,7]),([0,8],[0,8]),([9,4],[9]),([10],[10]),([11,10,10],[10,11]),([12],[12]),([12],[12]),([12],[12]),([13,14,15,12,12],[12,13,14,15]),([12],[12]),([12],[12]),([12],[12]),([17,18,19,16,12],[12,17,18,19]),([16,20,12],[12,16,20]),([12,21,10],[10,12,21]),([10,22],[10,22]),([23,20],[23]),([24],[24]),([25,24],[24,25]),([24,26],[24,26]),([27,24],[27]),([28],[28]),([28],[28]),([29,30,28,28],[28,29,30]),([28,31],[28,31]),([32,31,0,1,2,3,4,5,6,7,8,9,10,11,12,13,14,15,16,17,18,19,20,21,22,23,24,25,26,27,28,29,30,31,32],[32])])
def plenumlaw34_OverrideNewest.B20 : List Nat := [0,0,0,6,14,30,30,126,254,511,1023,2047,4095,8191,8191,8191,65535,8191,8191,8191,1048575,2097151,4194303,8388607,16777215,33554431,67108863,134217727,268435455,536870911,536870911,2147483647,4294967295,8589934591]
theorem plenumlaw34_OverrideNewest.tab20 : rtab .any (opsOf Try.f4 20) = plenumlaw34_OverrideNewest.T20 := by kernel_rfl
theorem plenumlaw34_OverrideNewest.bits20 : waitsOk plenumlaw34_OverrideNewest.T20.2 plenumlaw34_OverrideNewest.B20 = true := by kernel_rfl
set_option maxHeartbeats 100000000 in
set_option maxRecDepth 100000 in
theorem plenumlaw34_OverrideNewest.calls (k : Nat) (A0 : Option Addr) (c0 : Nat) (l0 : List (S26)) (a1 : Int) (a2 : Int) (a3 : Int) (r : Bool) (w : World) (hr0 : Kd.C k26 w A0 l0.length l0) (hc0 : l0.length ≤ c0) (h : plenumlaw34_OverrideNewest.f k l0 a1 a2 a3 = some r) :
  Calls Try.prog 4 #[.slice A0 l0.length c0,.int .i64 a1,.int .i64 a2,.int .i64 a3] w fun e w' => e = .returned (.bool r) ∧ Below w.heap.size w w' := by
 have hu24 := Try.underlying24
 have hu26 := Try.underlying26
 have HR0 := Yd hr0
 have HC0 := Yd hc0
 clear hr0 hc0
 have HB := Yd (Below.refl w.heap.size w)
 have H : ((plenumlaw34_awake.f k).bind fun t414 => (if t414 = true then ((plenumref34_Few.f k l0).bind fun t415 => (if t415 = true then (if (l0.length : Int) > 63 then (plenumlaw34_OverrideNewest.j0 k l0 a1 a2 a3 true) else ((override_Check.f k l0).bind fun t416 => (plenumlaw34_OverrideNewest.j0 k l0 a1 a2 a3 (t416 != 0)))) else (plenumlaw34_OverrideNewest.j0 k l0 a1 a2 a3 true))) else (none))) = some r := h
 clear h
 replace H := Option.bind_eq_some_iff.mp H
 obtain ⟨t414,A50,H⟩ := H
 replace H : (if t414 = true then ((plenumref34_Few.f k l0).bind fun t415 => (if t415 = true then (if (l0.length : Int) > 63 then (plenumlaw34_OverrideNewest.j0 k l0 a1 a2 a3 true) else ((override_Check.f k l0).bind fun t416 => (plenumlaw34_OverrideNewest.j0 k l0 a1 a2 a3 (t416 != 0)))) else (plenumlaw34_OverrideNewest.j0 k l0 a1 a2 a3 true))) else (none)) = some r := H
 have A5 := Yd A50
 clear A50
 by_cases c6 : t414 = true
 ·subst c6
  have H1 : ((plenumref34_Few.f k l0).bind fun t415 => (if t415 = true then (if (l0.length : Int) > 63 then (plenumlaw34_OverrideNewest.j0 k l0 a1 a2 a3 true) else ((override_Check.f k l0).bind fun t416 => (plenumlaw34_OverrideNewest.j0 k l0 a1 a2 a3 (t416 != 0)))) else (plenumlaw34_OverrideNewest.j0 k l0 a1 a2 a3 true))) = some r := by rw [if_pos rfl] at H;exact H
  clear H
  have H := H1
  clear H1
  have HC7 := Yd H
  clear H
  go_enter Try.func4,Try.ntmps4
  go_upto_region 3 with (first | ((with_reducible refine gate_callee (f := 6) rfl ?_);refine goesL_ (some 19) rfl rfl Try.func6 (by kernel_rfl) rfl #[] rfl Y8 ?_;(with_reducible refine (plenumlaw34_awake.calls k  true _ A5.out).mono ?_);rintro e w8 ⟨rfl,hb⟩;refine ⟨_,rfl,?_⟩;have n0_ := Yd (below_step (Y3 HB.out) hb);clear HB;have HB := n0_;clear n0_;(try clear hb);(try clear hb2);(try clear hk);(try clear hi)))
  (try simp only [Act.put,List.setIfInBounds_toArray,List.set_cons_zero,List.set_cons_succ])
  go_cut [33] (fun v33 wc => ∃ (kq : Nat) (x33_6 : Bool),v33 = .bool x33_6 ∧ Aside0 (plenumlaw34_OverrideNewest.j0 kq l0 a1 a2 a3 x33_6 = some r) ∧ Aside0 (kq ≤ k) ∧ Aside0 (Below w.heap.size w wc))
  case first =>
   have H := HC7.out
   clear HC7
   replace H := Option.bind_eq_some_iff.mp H
   obtain ⟨t415,A90,H⟩ := H
   replace H : (if t415 = true then (if (l0.length : Int) > 63 then (plenumlaw34_OverrideNewest.j0 k l0 a1 a2 a3 true) else ((override_Check.f k l0).bind fun t416 => (plenumlaw34_OverrideNewest.j0 k l0 a1 a2 a3 (t416 != 0)))) else (plenumlaw34_OverrideNewest.j0 k l0 a1 a2 a3 true)) = some r := H
   have A9 := Yd A90
   clear A90
   by_cases c10 : t415 = true
   ·subst c10
    have H1 : (if (l0.length : Int) > 63 then (plenumlaw34_OverrideNewest.j0 k l0 a1 a2 a3 true) else ((override_Check.f k l0).bind fun t416 => (plenumlaw34_OverrideNewest.j0 k l0 a1 a2 a3 (t416 != 0)))) = some r := by rw [if_pos rfl] at H;exact H
    clear H
    have H := H1
    clear H1
    by_cases c11 : (l0.length : Int) > 63
    ·rw [if_pos c11] at H
     have c11b0 : decide (63 < (l0.length : Int)) = true := decide_eq_true c11
     have c11b1 : decide (63 < l0.length) = true := decide_eq_true (by omega)
     clear c11
     (first | rw [c11b0] | (simp only [i64_w,i32_w];rw [c11b0]) | skip)
     have H' := Yd H
     clear H
     go_wp2_with (first | ((with_reducible refine gate_callee (f := 7) rfl ?_);refine goesL_ (some 22) rfl rfl Try.func7 (by kernel_rfl) rfl #[.slice A0 l0.length c0] rfl Y8 ?_;(with_reducible refine (plenumref34_Few.calls k _ _ l0 true _ ?side1 ?side2 A9.out).mono ?_);(case side1 => exact Y11 (Kd.C_below HR0.out HB.out));(case side2 => exact HC0.out);rintro e w' ⟨rfl,⟨nd,rfl⟩⟩;refine ⟨_,rfl,?_⟩))
     go_meet
     case rel => exact ⟨_,(true),Y12,H',⟨by first | omega | exact Nat.le_refl _⟩,⟨Y3 HB.out⟩⟩
    ·rw [if_neg c11] at H
     have c11b0 : decide (63 < (l0.length : Int)) = false := decide_eq_false c11
     have c11b1 : decide (63 < l0.length) = false := decide_eq_false (by omega)
     clear c11
     (first | rw [c11b0] | (simp only [i64_w,i32_w];rw [c11b0]) | skip)
     replace H := Option.bind_eq_some_iff.mp H
     obtain ⟨t416,A120,H⟩ := H
     replace H : (plenumlaw34_OverrideNewest.j0 k l0 a1 a2 a3 (t416 != 0)) = some r := H
     have A12 := Yd A120
     clear A120
     have H' := Yd H
     clear H
     go_wp2_with (first | ((with_reducible refine gate_callee (f := 7) rfl ?_);refine goesL_ (some 22) rfl rfl Try.func7 (by kernel_rfl) rfl #[.slice A0 l0.length c0] rfl Y8 ?_;(with_reducible refine (plenumref34_Few.calls k _ _ l0 true _ ?side1 ?side2 A9.out).mono ?_);(case side1 => exact Y11 (Kd.C_below HR0.out HB.out));(case side2 => exact HC0.out);rintro e w' ⟨rfl,⟨nd,rfl⟩⟩;refine ⟨_,rfl,?_⟩) | (go_at_call 16;(with_reducible refine (override_Check.calls k _ _ l0 t416 _ ?side1 ?side2 A12.out).mono ?_);(case side1 => exact Y11 (Kd.C_below HR0.out (Y3 HB.out)));(case side2 => exact HC0.out);rintro e w13 ⟨rfl,hb⟩;have n0_ := Yd (below_step (Y3 HB.out) hb);clear HB;have HB := n0_;clear n0_;(try clear hb);(try clear hb2);(try clear hk);(try clear hi)))
     go_meet
     case rel => exact ⟨_,((t416 != 0)),Y12,H',⟨by first | omega | exact Nat.le_refl _⟩,⟨Y3 HB.out⟩⟩
   ·replace c10 := Bool.eq_false_iff.mpr c10
    subst c10
    have H1 : (plenumlaw34_OverrideNewest.j0 k l0 a1 a2 a3 true) = some r := by rw [if_neg (show ¬ (false = true) by decide)] at H;exact H
    clear H
    have H := H1
    clear H1
    have H' := Yd H
    clear H
    go_wp2_with (first | ((with_reducible refine gate_callee (f := 7) rfl ?_);refine goesL_ (some 22) rfl rfl Try.func7 (by kernel_rfl) rfl #[.slice A0 l0.length c0] rfl Y8 ?_;(with_reducible refine (plenumref34_Few.calls k _ _ l0 false _ ?side1 ?side2 A9.out).mono ?_);(case side1 => exact Y11 (Kd.C_below HR0.out HB.out));(case side2 => exact HC0.out);rintro e w' ⟨rfl,⟨nd,rfl⟩⟩;refine ⟨_,rfl,?_⟩))
    go_meet
    case rel => exact ⟨_,(true),Y12,H',⟨by first | omega | exact Nat.le_refl _⟩,⟨Y3 HB.out⟩⟩
  case rest =>
   clear HC7
   try clear c1
   try clear p2
   try clear c4
   try clear c6
   try clear c7
   try clear c10
   try clear c11
   try clear c11b0
   try clear c11b1
   obtain ⟨kq,x33_6,rfl,HA,HJ6,HB⟩ := hcut
   cases kq with
   | zero => exact absurd HA.out (by simp [plenumlaw34_OverrideNewest.j0])
   | succ kj6 =>
    have H := HA.out
    clear HA
    simp only [plenumlaw34_OverrideNewest.j0] at H
    by_cases c14 : x33_6 = true
    ·subst c14
     have H1 : (some true) = some r := by rw [if_pos rfl] at H;exact H
     clear H
     have H := H1
     clear H1
     obtain rfl := Option.some.inj H
     go_wp2
     go_ret
     exact ⟨by first | rfl | (simp [errW_none,errW_some] <;> rfl) | (simp [*,errW_none,errW_some] <;> rfl),Y3 HB.out⟩
    ·replace c14 := Bool.eq_false_iff.mpr c14
     subst c14
     have H1 : (plenumlaw34_OverrideNewest.l0 kj6 l0 a1 a2 a3 0 0) = some r := by rw [if_neg (show ¬ (false = true) by decide)] at H;exact H
     clear H
     have H := H1
     clear H1
     have H' := Yd H
     clear H
     go_wp2
     go_loopg [9,10] kj6 (fun kq v9 v10 w' => ∃ (x9_2 : Int) (x10_2 : Int),v9 = .int .i64 x9_2 ∧ v10 = .int .i64 x10_2 ∧ Aside0 (plenumlaw34_OverrideNewest.l0 kq l0 a1 a2 a3 x9_2 x10_2 = some r) ∧ Aside0 (kq ≤ kj6) ∧ Aside0 (Below w.heap.size w w'))
     case atStart => exact ⟨(0),(0),Y12,Y12,H',⟨Nat.le_refl _⟩,⟨Y3 HB.out⟩⟩
     case round =>
      clear H'
      try clear c1
      try clear p2
      try clear c4
      try clear c6
      try clear c7
      try clear c10
      try clear c11
      try clear c11b0
      try clear c11b1
      try clear c14
      try clear p2
      obtain ⟨x9_2,x10_2,rfl,rfl,HA,HK2,HB⟩ := hrel
      cases gk with
      | zero => exact absurd HA.out (by simp [plenumlaw34_OverrideNewest.l0])
      | succ k2 =>
       have H := HA.out
       clear HA
       simp only [plenumlaw34_OverrideNewest.l0] at H
       by_cases c15 : x10_2 < (l0.length : Int)
       ·rw [if_pos c15] at H
        have c15b0 : decide (x10_2 < (l0.length : Int)) = true := decide_eq_true c15
        clear c15
        by_cases c16 : 0 ≤ x10_2
        case neg => rw [if_neg c16] at H;exact absurd H (by simp)
        rw [if_pos c16] at H
        have c16b0 : decide (0 ≤ x10_2) = true := decide_eq_true c16
        clear c16
        by_cases c17 : ((rd_T26 l0 x10_2).f0).toList = ([122,122,122] : List UInt8)
        ·rw [if_pos c17] at H
         have c17b0 : (((rd_T26 l0 x10_2).f0).toList == ([122,122,122] : List UInt8)) = true := beq_iff_eq.mpr c17
         have c17b1 : (((rd_T26 l0 x10_2).f0).toList != ([122,122,122] : List UInt8)) = false := bne_eq_false_iff_eq.mpr c17
         clear c17
         obtain rfl := Option.some.inj H
         have p417 : 0 ≤ (x10_2 : Int) := Y9
         have q417 : x10_2 < (l0.length : Int) := Y9
         obtain ⟨ad417,e417,hx417_0,hx417_1,hx417_2,hx417_3,hx417_4,hx417_5⟩ := at_T26 HR0.out x10_2 p417 q417
         cases e417
         replace hx417_0 := Y10 HB.out hx417_0
         replace hx417_1 := Y10 HB.out hx417_1
         replace hx417_2 := Y10 HB.out hx417_2
         replace hx417_3 := Y10 HB.out hx417_3
         replace hx417_4 := Y10 HB.out hx417_4
         replace hx417_5 := Y10 HB.out hx417_5
         replace p417 := eq_true p417
         replace q417 := eq_true q417
         go_wp2
         go_ret
         exact ⟨by first | rfl | (simp [errW_none,errW_some] <;> rfl) | (simp [*,errW_none,errW_some] <;> rfl),Y3 HB.out⟩
        ·rw [if_neg c17] at H
         have c17b0 : (((rd_T26 l0 x10_2).f0).toList == ([122,122,122] : List UInt8)) = false := beq_eq_false_iff_ne.mpr c17
         have c17b1 : (((rd_T26 l0 x10_2).f0).toList != ([122,122,122] : List UInt8)) = true := bne_iff_ne.mpr c17
         by_cases c18 : ((rd_T26 l0 x10_2).f4) ≥ 1000000000
         ·rw [if_pos c18] at H
          have c18b0 : decide (1000000000 ≤ ((rd_T26 l0 x10_2).f4)) = true := decide_eq_true c18
          clear c18
          obtain rfl := Option.some.inj H
          have p417 : 0 ≤ (x10_2 : Int) := Y9
          have q417 : x10_2 < (l0.length : Int) := Y9
          obtain ⟨ad417,e417,hx417_0,hx417_1,hx417_2,hx417_3,hx417_4,hx417_5⟩ := at_T26 HR0.out x10_2 p417 q417
          cases e417
          replace hx417_0 := Y10 HB.out hx417_0
          replace hx417_1 := Y10 HB.out hx417_1
          replace hx417_2 := Y10 HB.out hx417_2
          replace hx417_3 := Y10 HB.out hx417_3
          replace hx417_4 := Y10 HB.out hx417_4
          replace hx417_5 := Y10 HB.out hx417_5
          replace p417 := eq_true p417
          replace q417 := eq_true q417
          have p418 : 0 ≤ (x10_2 : Int) := Y9
          have q418 : x10_2 < (l0.length : Int) := Y9
          obtain ⟨ad418,e418,hx418_0,hx418_1,hx418_2,hx418_3,hx418_4,hx418_5⟩ := at_T26 HR0.out x10_2 p418 q418
          obtain rfl : ad417 = ad418 := (by injection e418)
          replace hx418_0 := Y10 HB.out hx418_0
          replace hx418_1 := Y10 HB.out hx418_1
          replace hx418_2 := Y10 HB.out hx418_2
          replace hx418_3 := Y10 HB.out hx418_3
          replace hx418_4 := Y10 HB.out hx418_4
          replace hx418_5 := Y10 HB.out hx418_5
          replace p418 := eq_true p418
          replace q418 := eq_true q418
          go_wp2
          go_ret
          exact ⟨by first | rfl | (simp [errW_none,errW_some] <;> rfl) | (simp [*,errW_none,errW_some] <;> rfl),Y3 HB.out⟩
         ·rw [if_neg c18] at H
          have c18b0 : decide (1000000000 ≤ ((rd_T26 l0 x10_2).f4)) = false := decide_eq_false c18
          clear c18
          obtain ⟨ji19,hji19⟩ : ∃ j_ : Int,(mx x9_2 (wrap64 (((rd_T26 l0 x10_2).f4) + 1))) = j_ := ⟨_,rfl⟩
          replace H : (plenumlaw34_OverrideNewest.l0 k2 l0 a1 a2 a3 ji19 (wrap64 (x10_2 + 1))) = some r := by first | (rw [hji19] at H;exact H) | (simp only [hji19] at H ⊢;exact H)
          have hji19_ : (if x9_2 < (wrap64 (((rd_T26 l0 x10_2).f4) + 1)) then (wrap64 (((rd_T26 l0 x10_2).f4) + 1)) else x9_2) = ji19 := hji19
          have H' := Yd H
          clear H
          have p417 : 0 ≤ (x10_2 : Int) := Y9
          have q417 : x10_2 < (l0.length : Int) := Y9
          obtain ⟨ad417,e417,hx417_0,hx417_1,hx417_2,hx417_3,hx417_4,hx417_5⟩ := at_T26 HR0.out x10_2 p417 q417
          cases e417
          replace hx417_0 := Y10 HB.out hx417_0
          replace hx417_1 := Y10 HB.out hx417_1
          replace hx417_2 := Y10 HB.out hx417_2
          replace hx417_3 := Y10 HB.out hx417_3
          replace hx417_4 := Y10 HB.out hx417_4
          replace hx417_5 := Y10 HB.out hx417_5
          replace p417 := eq_true p417
          replace q417 := eq_true q417
          have p418 : 0 ≤ (x10_2 : Int) := Y9
          have q418 : x10_2 < (l0.length : Int) := Y9
          obtain ⟨ad418,e418,hx418_0,hx418_1,hx418_2,hx418_3,hx418_4,hx418_5⟩ := at_T26 HR0.out x10_2 p418 q418
          obtain rfl : ad417 = ad418 := (by injection e418)
          replace hx418_0 := Y10 HB.out hx418_0
          replace hx418_1 := Y10 HB.out hx418_1
          replace hx418_2 := Y10 HB.out hx418_2
          replace hx418_3 := Y10 HB.out hx418_3
          replace hx418_4 := Y10 HB.out hx418_4
          replace hx418_5 := Y10 HB.out hx418_5
          replace p418 := eq_true p418
          replace q418 := eq_true q418
          have p419 : 0 ≤ (x10_2 : Int) := Y9
          have q419 : x10_2 < (l0.length : Int) := Y9
          obtain ⟨ad419,e419,hx419_0,hx419_1,hx419_2,hx419_3,hx419_4,hx419_5⟩ := at_T26 HR0.out x10_2 p419 q419
          obtain rfl : ad417 = ad419 := (by injection e419)
          replace hx419_0 := Y10 HB.out hx419_0
          replace hx419_1 := Y10 HB.out hx419_1
          replace hx419_2 := Y10 HB.out hx419_2
          replace hx419_3 := Y10 HB.out hx419_3
          replace hx419_4 := Y10 HB.out hx419_4
          replace hx419_5 := Y10 HB.out hx419_5
          replace p419 := eq_true p419
          replace q419 := eq_true q419
          go_wp2
          go_roundg k2
          case measure => have := HJ6.out;have := HK2.out;omega
          case rel => exact ⟨(ji19),(wrap64 (x10_2 + 1)),(by first | rfl | (simp;done) | (simp only [← hji19] <;> (first | rfl | simp)) | (simp [*];done)),Y12,H',⟨by have := HJ6.out;have := HK2.out;omega⟩,⟨Y3 HB.out⟩⟩
       ·rw [if_neg c15] at H
        have c15b0 : decide (x10_2 < (l0.length : Int)) = false := decide_eq_false c15
        clear c15
        replace H := Option.bind_eq_some_iff.mp H
        obtain ⟨⟨t421,t424⟩,A200,H⟩ := H
        replace H : (if t424 = 0 then ((override_At.f k2 t421 a3).bind fun t425 => (if t425 ≥ 0 then (if 0 ≤ t425 then (if t425 < (t421.length : Int) then (plenumlaw34_OverrideNewest.j2 k2 l0 a1 a2 a3 t421 (((rd_T26 t421 t425).f0).toList == ([122,122,122] : List UInt8))) else (none)) else (none)) else (plenumlaw34_OverrideNewest.j2 k2 l0 a1 a2 a3 t421 false))) else (some (t424 == 6))) = some r := H
        have A20 := Yd A200
        clear A200
        by_cases c21 : t424 = 0
        ·rw [if_pos c21] at H
         have c21b0 : (t424 == 0) = true := beq_iff_eq.mpr c21
         have c21b1 : (t424 != 0) = false := bne_eq_false_iff_eq.mpr c21
         clear c21
         replace H := Option.bind_eq_some_iff.mp H
         obtain ⟨t425,A220,H⟩ := H
         replace H : (if t425 ≥ 0 then (if 0 ≤ t425 then (if t425 < (t421.length : Int) then (plenumlaw34_OverrideNewest.j2 k2 l0 a1 a2 a3 t421 (((rd_T26 t421 t425).f0).toList == ([122,122,122] : List UInt8))) else (none)) else (none)) else (plenumlaw34_OverrideNewest.j2 k2 l0 a1 a2 a3 t421 false)) = some r := H
         have A22 := Yd A220
         clear A220
         have HC23 := Yd H
         clear H
         go_upto_region 17 with (first | ((with_reducible refine gate_dst (N := 11) rfl ?_);refine box_event ?hg (N := 11) ?hd (cs := #[.string (⟨#[]⟩ : ByteArray),.int .i64 0,.int .i64 0,.int .i64 0,.int .i64 0,.int .i64 0]) (t := 26) ?hr ?_;(case hd => rfl);(case hg => rfl);(case hr => first | (go_simp;done) | (go_simp;rfl));intro gb420 hg w24 hbox hb;have n0_ := Yd (below_step (Y3 HB.out) hb);have n1_ := Yd (hbox);have n2_ := Yd ((by rw [hg];exact (below_size (Y3 HB.out)) : w.heap.size ≤ gb420));have n3_ := Yd ((by rw [hg];exact (below_size (Y3 HB.out)) : w.heap.size ≤ gb420));clear HB;have HB := n0_;have BK420 := n1_;have GW420 := n2_;have GE420 := n3_;clear n0_ n1_ n2_ n3_;clear hb hbox hg;have hcz25_0 : w24.cell? ⟨gb420,0,none⟩ = some (.string (⟨#[]⟩ : ByteArray)) := (blk_cell BK420.out 0).trans rfl;have hcz25_1 : w24.cell? ⟨gb420,1,none⟩ = some (.int .i64 0) := (blk_cell BK420.out 1).trans rfl;have hcz25_2 : w24.cell? ⟨gb420,2,none⟩ = some (.int .i64 0) := (blk_cell BK420.out 2).trans rfl;have hcz25_3 : w24.cell? ⟨gb420,3,none⟩ = some (.int .i64 0) := (blk_cell BK420.out 3).trans rfl;have hcz25_4 : w24.cell? ⟨gb420,4,none⟩ = some (.int .i64 0) := (blk_cell BK420.out 4).trans rfl;have hcz25_5 : w24.cell? ⟨gb420,5,none⟩ = some (.int .i64 0) := (blk_cell BK420.out 5).trans rfl;have hfz25_0 := blk_frozen BK420.out 0;have hfz25_1 := blk_frozen BK420.out 1;have hfz25_2 := blk_frozen BK420.out 2;have hfz25_3 := blk_frozen BK420.out 3;have hfz25_4 := blk_frozen BK420.out 4;have hfz25_5 := blk_frozen BK420.out 5) | ((with_reducible refine gate_callee (f := 8) rfl ?_);refine goesL_ (some 70) rfl rfl Try.func8 (by kernel_rfl) rfl #[.slice A0 l0.length c0,.agg #[.string (⟨#[122,122,122]⟩ : ByteArray),.int .i64 a1,.int .i64 a2,.int .i64 3,.int .i64 16,.int .i64 x9_2]] rfl Y8 ?_;(with_reducible refine (override_Add.calls k2 _ _ l0 (⟨#[122,122,122]⟩ : ByteArray) a1 a2 3 16 x9_2 t421 t424 _ ?side1 ?side2 A20.out).mono ?_);(case side1 => exact Kd.C_below HR0.out (by first | exact Y4 HB.out GE420.out | exact Y3 HB.out));(case side2 => exact HC0.out);rintro e w26 ⟨v422,rfl,ho0,hb⟩;refine ⟨_,rfl,?_⟩;have n0_ := Yd (Kd.R_lower (Kd.R_newB ho0 (g := gb420) (o := .cells #[.string (⟨#[122,122,122]⟩ : ByteArray),.int .i64 a1,.int .i64 a2,.int .i64 3,.int .i64 16,.int .i64 x9_2] 26 (0,0)) (by (with_reducible repeat (first | refine blk_drewN ?_ _ | refine blk_drew ?_ | refine blk_alloc ?_ _));refine blk_put (cs := #[.string (⟨#[122,122,122]⟩ : ByteArray),.int .i64 a1,.int .i64 a2,.int .i64 3,.int .i64 16,.int .i64 0]) ?_ 5 _ rfl;(with_reducible repeat (first | refine blk_drewN ?_ _ | refine blk_drew ?_ | refine blk_alloc ?_ _));refine blk_put (cs := #[.string (⟨#[122,122,122]⟩ : ByteArray),.int .i64 a1,.int .i64 a2,.int .i64 3,.int .i64 0,.int .i64 0]) ?_ 4 _ rfl;(with_reducible repeat (first | refine blk_drewN ?_ _ | refine blk_drew ?_ | refine blk_alloc ?_ _));refine blk_put (cs := #[.string (⟨#[122,122,122]⟩ : ByteArray),.int .i64 a1,.int .i64 a2,.int .i64 0,.int .i64 0,.int .i64 0]) ?_ 3 _ rfl;(with_reducible repeat (first | refine blk_drewN ?_ _ | refine blk_drew ?_ | refine blk_alloc ?_ _));refine blk_put (cs := #[.string (⟨#[122,122,122]⟩ : ByteArray),.int .i64 a1,.int .i64 0,.int .i64 0,.int .i64 0,.int .i64 0]) ?_ 2 _ rfl;(with_reducible repeat (first | refine blk_drewN ?_ _ | refine blk_drew ?_ | refine blk_alloc ?_ _));refine blk_put (cs := #[.string (⟨#[122,122,122]⟩ : ByteArray),.int .i64 0,.int .i64 0,.int .i64 0,.int .i64 0,.int .i64 0]) ?_ 1 _ rfl;(with_reducible repeat (first | refine blk_drewN ?_ _ | refine blk_drew ?_ | refine blk_alloc ?_ _));refine blk_put (cs := #[.string (⟨#[]⟩ : ByteArray),.int .i64 0,.int .i64 0,.int .i64 0,.int .i64 0,.int .i64 0]) ?_ 0 _ rfl;(with_reducible repeat (first | refine blk_drewN ?_ _ | refine blk_drew ?_ | refine blk_alloc ?_ _));exact BK420.out)) (below_size (by first | exact Y4 HB.out GE420.out | exact Y3 HB.out)));have n1_ := Yd (blk_below (g := gb420) (o := .cells #[.string (⟨#[122,122,122]⟩ : ByteArray),.int .i64 a1,.int .i64 a2,.int .i64 3,.int .i64 16,.int .i64 x9_2] 26 (0,0)) (by (with_reducible repeat (first | refine blk_drewN ?_ _ | refine blk_drew ?_ | refine blk_alloc ?_ _));refine blk_put (cs := #[.string (⟨#[122,122,122]⟩ : ByteArray),.int .i64 a1,.int .i64 a2,.int .i64 3,.int .i64 16,.int .i64 0]) ?_ 5 _ rfl;(with_reducible repeat (first | refine blk_drewN ?_ _ | refine blk_drew ?_ | refine blk_alloc ?_ _));refine blk_put (cs := #[.string (⟨#[122,122,122]⟩ : ByteArray),.int .i64 a1,.int .i64 a2,.int .i64 3,.int .i64 0,.int .i64 0]) ?_ 4 _ rfl;(with_reducible repeat (first | refine blk_drewN ?_ _ | refine blk_drew ?_ | refine blk_alloc ?_ _));refine blk_put (cs := #[.string (⟨#[122,122,122]⟩ : ByteArray),.int .i64 a1,.int .i64 a2,.int .i64 0,.int .i64 0,.int .i64 0]) ?_ 3 _ rfl;(with_reducible repeat (first | refine blk_drewN ?_ _ | refine blk_drew ?_ | refine blk_alloc ?_ _));refine blk_put (cs := #[.string (⟨#[122,122,122]⟩ : ByteArray),.int .i64 a1,.int .i64 0,.int .i64 0,.int .i64 0,.int .i64 0]) ?_ 2 _ rfl;(with_reducible repeat (first | refine blk_drewN ?_ _ | refine blk_drew ?_ | refine blk_alloc ?_ _));refine blk_put (cs := #[.string (⟨#[122,122,122]⟩ : ByteArray),.int .i64 0,.int .i64 0,.int .i64 0,.int .i64 0,.int .i64 0]) ?_ 1 _ rfl;(with_reducible repeat (first | refine blk_drewN ?_ _ | refine blk_drew ?_ | refine blk_alloc ?_ _));refine blk_put (cs := #[.string (⟨#[]⟩ : ByteArray),.int .i64 0,.int .i64 0,.int .i64 0,.int .i64 0,.int .i64 0]) ?_ 0 _ rfl;(with_reducible repeat (first | refine blk_drewN ?_ _ | refine blk_drew ?_ | refine blk_alloc ?_ _));exact BK420.out) hb);have n2_ := Yd (below_step (by first | exact Y4 HB.out GE420.out | exact Y3 HB.out) hb);clear BK420;clear HB;have HO423 := n0_;have BK420 := n1_;have HB := n2_;clear n0_ n1_ n2_;(try clear hb);(try clear hb2);(try clear hk);(try clear hi);(try clear ho0);obtain ⟨Ao27,co27,eo27⟩ := Kd.R_slice HO423.out;subst eo27) | ((with_reducible refine gate_callee (f := 17) rfl ?_);refine goesL_ (some 79) rfl rfl Try.func17 (by kernel_rfl) rfl #[.slice Ao27 t421.length co27,.int .i64 a3] rfl Y8 ?_;(with_reducible refine (override_At.calls k2 _ _ t421 a3 t425 _ ?side1 ?side2 A22.out).mono ?_);(case side1 => repeat (first | exact (Kd.R_reads' HO423.out).2.2 | (with_reducible refine Kd.C_alloc ?_ _) | (with_reducible refine Kd.C_drewN ?_ _) | (with_reducible refine Kd.C_drew ?_)));(case side2 => exact (Kd.R_reads' HO423.out).2.1);rintro e w28 ⟨rfl,hb⟩;refine ⟨_,rfl,?_⟩;have n0_ := Yd (Kd.R_below (Y5 HO423.out) hb);have n1_ := Yd (blk_below (g := gb420) (o := .cells #[.string (⟨#[122,122,122]⟩ : ByteArray),.int .i64 a1,.int .i64 a2,.int .i64 3,.int .i64 16,.int .i64 x9_2] 26 (0,0)) (Y6 BK420.out) hb);have n2_ := Yd (below_step (by first | exact Y4 HB.out GE420.out | exact Y3 HB.out) hb);clear HO423;clear BK420;clear HB;have HO423 := n0_;have BK420 := n1_;have HB := n2_;clear n0_ n1_ n2_;(try clear hb);(try clear hb2);(try clear hk);(try clear hi)))
         (try simp only [Act.put,List.setIfInBounds_toArray,List.set_cons_zero,List.set_cons_succ])
         go_cut [15] (fun v15 wc => ∃ (kq : Nat) (x15_22 : Bool),v15 = .bool x15_22 ∧ Aside0 (plenumlaw34_OverrideNewest.j2 kq l0 a1 a2 a3 t421 x15_22 = some r) ∧ Aside0 (kq ≤ k2) ∧ Aside0 (Kd.R k26 26 wc w.heap.size (fun k_ => k_ ≠ gb420) (.slice Ao27 t421.length co27) t421) ∧ Aside0 (wc.heap[gb420]? = some (.cells #[.string (⟨#[122,122,122]⟩ : ByteArray),.int .i64 a1,.int .i64 a2,.int .i64 3,.int .i64 16,.int .i64 x9_2] 26 (0,0))) ∧ Aside0 (Below w.heap.size w wc))
         case first =>
          have H := HC23.out
          clear HC23
          by_cases c29 : t425 ≥ 0
          ·rw [if_pos c29] at H
           have c29b0 : decide (0 ≤ t425) = true := decide_eq_true c29
           clear c29
           (first | rw [c29b0] | (simp only [i64_w,i32_w];rw [c29b0]) | skip)
           by_cases c30 : 0 ≤ t425
           case neg => rw [if_neg c30] at H;exact absurd H (by simp)
           rw [if_pos c30] at H
           have c30b0 : decide (0 ≤ t425) = true := decide_eq_true c30
           clear c30
           by_cases c31 : t425 < (t421.length : Int)
           case neg => rw [if_neg c31] at H;exact absurd H (by simp)
           rw [if_pos c31] at H
           have c31b0 : decide (t425 < (t421.length : Int)) = true := decide_eq_true c31
           clear c31
           have H' := Yd H
           clear H
           have p426 : 0 ≤ (t425 : Int) := Y9
           have q426 : t425 < (t421.length : Int) := Y9
           obtain ⟨ad426,e426,hx426_0,hx426_1,hx426_2,hx426_3,hx426_4,hx426_5⟩ := at_T26 (Kd.R_reads' HO423.out).2.2 t425 p426 q426
           cases e426
           replace p426 := eq_true p426
           replace q426 := eq_true q426
           go_wp2
           go_meet
           case rel => exact ⟨_,((((rd_T26 t421 t425).f0).toList == ([122,122,122] : List UInt8))),Y12,H',⟨by have := HJ6.out;have := HK2.out;first | omega | exact Nat.le_refl _⟩,⟨by (with_reducible repeat (first | apply Kd.R_alloc | apply Kd.R_drewN | apply Kd.R_drew));exact Kd.R_mono HO423.out (fun _ hk => hk.2)⟩,⟨Y6 BK420.out⟩,⟨by repeat (first | (with_reducible first | exact HB.out | apply below_alloc | apply Y15 | apply below_drew1 | refine below_set ?_ GE420.out) | exact HB.out)⟩⟩
          ·rw [if_neg c29] at H
           have c29b0 : decide (0 ≤ t425) = false := decide_eq_false c29
           clear c29
           (first | rw [c29b0] | (simp only [i64_w,i32_w];rw [c29b0]) | skip)
           have H' := Yd H
           clear H
           go_wp2
           go_meet
           case rel => exact ⟨_,(false),Y12,H',⟨by have := HJ6.out;have := HK2.out;first | omega | exact Nat.le_refl _⟩,⟨by (with_reducible repeat (first | apply Kd.R_alloc | apply Kd.R_drewN | apply Kd.R_drew));exact Kd.R_mono HO423.out (fun _ hk => hk.2)⟩,⟨Y6 BK420.out⟩,⟨by repeat (first | (with_reducible first | exact HB.out | apply below_alloc | apply Y15 | apply below_drew1 | refine below_set ?_ GE420.out) | exact HB.out)⟩⟩
         case rest =>
          clear HC23
          try clear c1
          try clear c2
          try clear p2
          try clear c3
          try clear c4
          try clear p4
          try clear q4
          try clear hx4
          try clear c6
          try clear p6
          try clear c7
          try clear c8
          try clear c10
          try clear c11
          try clear c11b0
          try clear c11b1
          try clear c14
          try clear c15
          try clear c15b0
          try clear c16
          try clear c16b0
          try clear c17
          try clear c17b0
          try clear c17b1
          try clear c18
          try clear c18b0
          try clear c21
          try clear c21b0
          try clear c21b1
          try clear c29
          try clear c29b0
          try clear c30
          try clear c30b0
          try clear c31
          try clear c31b0
          try clear hcz25_0
          try clear hcz25_1
          try clear hcz25_2
          try clear hcz25_3
          try clear hcz25_4
          try clear hcz25_5
          try clear hfz25_0
          try clear hfz25_1
          try clear hfz25_2
          try clear hfz25_3
          try clear hfz25_4
          try clear hfz25_5
          try clear hx417_0
          try clear hx417_1
          try clear hx417_2
          try clear hx417_3
          try clear hx417_4
          try clear hx417_5
          try clear hx418_0
          try clear hx418_1
          try clear hx418_2
          try clear hx418_3
          try clear hx418_4
          try clear hx418_5
          try clear hx419_0
          try clear hx419_1
          try clear hx419_2
          try clear hx419_3
          try clear hx419_4
          try clear hx419_5
          try clear hx426_0
          try clear hx426_1
          try clear hx426_2
          try clear hx426_3
          try clear hx426_4
          try clear hx426_5
          try clear p2
          try clear p417
          try clear p418
          try clear p419
          try clear p426
          try clear q417
          try clear q418
          try clear q419
          try clear q426
          obtain ⟨kq,x15_22,rfl,HA,HJ22,HO_12,BK420,HB⟩ := hcut
          cases kq with
          | zero => exact absurd HA.out (by simp [plenumlaw34_OverrideNewest.j2])
          | succ kj22 =>
           have H := HA.out
           clear HA
           simp only [plenumlaw34_OverrideNewest.j2] at H
           replace H := Option.bind_eq_some_iff.mp H
           obtain ⟨⟨t427,t428⟩,A320,H⟩ := H
           replace H : (if a3 ≥ a1 then (if (x15_22 == (decide (a3 < a2))) = true then (if x15_22 = true then (if t428 = 0 then ((plenumref34_Same.f kj22 t427 l0).bind fun t432 => (some t432)) else (none)) else ((override_Value.f kj22 t421 a3 0 0).bind fun bt433 => ((override_Value.f kj22 l0 a3 0 0).bind fun bt435 => (if (bt433.1 == bt435.1 && (bt433.2 == bt435.2)) = true then (if t428 = 0 then ((plenumref34_Same.f kj22 t427 l0).bind fun t437 => (some t437)) else (none)) else (none))))) else (none)) else (if (x15_22 == false) = true then (if x15_22 = true then (if t428 = 0 then ((plenumref34_Same.f kj22 t427 l0).bind fun t438 => (some t438)) else (none)) else ((override_Value.f kj22 t421 a3 0 0).bind fun bt439 => ((override_Value.f kj22 l0 a3 0 0).bind fun bt441 => (if (bt439.1 == bt441.1 && (bt439.2 == bt441.2)) = true then (if t428 = 0 then ((plenumref34_Same.f kj22 t427 l0).bind fun t443 => (some t443)) else (none)) else (none))))) else (none))) = some r := H
           have A32 := Yd A320
           clear A320
           by_cases c33 : a3 ≥ a1
           ·rw [if_pos c33] at H
            have c33b0 : decide (a1 ≤ a3) = true := decide_eq_true c33
            clear c33
            by_cases c34 : (x15_22 == (decide (a3 < a2))) = true
            ·rw [if_pos c34] at H
             have c34b0 : (x15_22 == (decide (a3 < a2))) = true := c34
             (try (have c34b1 : decide (x15_22 = (decide (a3 < a2))) = true := by simpa using c34))
             (try (have c34b2 : (x15_22 == (decide (a3 < a2))) = true := by simpa using c34))
             clear c34
             by_cases c35 : x15_22 = true
             ·subst c35
              have H1 : (if t428 = 0 then ((plenumref34_Same.f kj22 t427 l0).bind fun t432 => (some t432)) else (none)) = some r := by rw [if_pos rfl] at H;exact H
              clear H
              have H := H1
              clear H1
              by_cases c36 : t428 = 0
              ·rw [if_pos c36] at H
               have c36b0 : (t428 == 0) = true := beq_iff_eq.mpr c36
               have c36b1 : (t428 != 0) = false := bne_eq_false_iff_eq.mpr c36
               clear c36
               replace H := Option.bind_eq_some_iff.mp H
               obtain ⟨t432,A370,H⟩ := H
               replace H : (some t432) = some r := H
               have A37 := Yd A370
               clear A370
               obtain rfl := Option.some.inj H
               try go_wp2_with (first | ((with_reducible refine gate_callee (f := 9) rfl ?_);refine goesL_ (some 92) rfl rfl Try.func9 (by kernel_rfl) rfl #[.slice Ao27 t421.length co27,.string (⟨#[122,122,122]⟩ : ByteArray)] rfl Y8 ?_;(with_reducible refine (override_Remove.calls kj22 _ _ t421 (⟨#[122,122,122]⟩ : ByteArray) t427 t428 _ ?side1 ?side2 A32.out).mono ?_);(case side1 => repeat (first | exact (Kd.R_reads' HO_12.out).2.2 | (with_reducible refine Kd.C_alloc ?_ _) | (with_reducible refine Kd.C_drewN ?_ _) | (with_reducible refine Kd.C_drew ?_)));(case side2 => exact (Kd.R_reads' HO_12.out).2.1);rintro e w38 ⟨v429,rfl,ho0,hb⟩;refine ⟨_,rfl,?_⟩;have n0_ := Yd (Kd.R_elder' (Y5 HO_12.out) (Kd.R_base ho0) hb);have n1_ := Yd (Kd.R_lower (Kd.R_newB (Kd.R_new' ho0 (Kd.R_lt (Y5 HO_12.out))) (g := gb420) (o := .cells #[.string (⟨#[122,122,122]⟩ : ByteArray),.int .i64 a1,.int .i64 a2,.int .i64 3,.int .i64 16,.int .i64 x9_2] 26 (0,0)) (Y6 BK420.out)) (below_size (by first | exact Y4 HB.out GE420.out | exact Y3 HB.out)));have n2_ := Yd (blk_below (g := gb420) (o := .cells #[.string (⟨#[122,122,122]⟩ : ByteArray),.int .i64 a1,.int .i64 a2,.int .i64 3,.int .i64 16,.int .i64 x9_2] 26 (0,0)) (Y6 BK420.out) hb);have n3_ := Yd (below_step (by first | exact Y4 HB.out GE420.out | exact Y3 HB.out) hb);clear HO_12;clear BK420;clear HB;have HO_12 := n0_;have HO430 := n1_;have BK420 := n2_;have HB := n3_;clear n0_ n1_ n2_ n3_;(try clear hb);(try clear hb2);(try clear hk);(try clear hi);(try clear ho0)) | ((with_reducible refine gate_dst (N := 18) rfl ?_);refine box_event ?hg (N := 18) ?hd (cs := #[.int .i64 0,.int .i64 0]) (t := 24) ?hr ?_;(case hd => rfl);(case hg => rfl);(case hr => first | (go_simp;done) | (go_simp;rfl));intro gb431 hg w39 hbox hb;have n0_ := Yd (Kd.R_below (Y5 HO_12.out) hb);have n1_ := Yd (Kd.R_below (Y5 HO430.out) hb);have n2_ := Yd (blk_below (g := gb420) (o := .cells #[.string (⟨#[122,122,122]⟩ : ByteArray),.int .i64 a1,.int .i64 a2,.int .i64 3,.int .i64 16,.int .i64 x9_2] 26 (0,0)) (Y6 BK420.out) hb);have n3_ := Yd (below_step (by first | exact Y4 HB.out GE420.out | exact Y3 HB.out) hb);have n4_ := Yd (hbox);have n5_ := Yd ((by rw [hg];exact (below_size (by first | exact Y4 HB.out GE420.out | exact Y3 HB.out)) : w.heap.size ≤ gb431));have n6_ := Yd ((by rw [hg];exact (below_size (by first | exact Y4 HB.out GE420.out | exact Y3 HB.out)) : w.heap.size ≤ gb431));have n7_ := Yd ((by rw [hg];exact Nat.ne_of_lt (blk_lt (g := gb420) (o := .cells #[.string (⟨#[122,122,122]⟩ : ByteArray),.int .i64 a1,.int .i64 a2,.int .i64 3,.int .i64 16,.int .i64 x9_2] 26 (0,0)) (Y6 BK420.out)) : gb420 ≠ gb431));have n8_ := Yd ((by rw [hg];exact Nat.ne_of_gt (blk_lt (g := gb420) (o := .cells #[.string (⟨#[122,122,122]⟩ : ByteArray),.int .i64 a1,.int .i64 a2,.int .i64 3,.int .i64 16,.int .i64 x9_2] 26 (0,0)) (Y6 BK420.out)) : gb431 ≠ gb420));clear HO_12;clear HO430;clear BK420;clear HB;have HO_12 := n0_;have HO430 := n1_;have BK420 := n2_;have HB := n3_;have BK431 := n4_;have GW431 := n5_;have GE431 := n6_;have NB420_431 := n7_;have NB431_420 := n8_;clear n0_ n1_ n2_ n3_ n4_ n5_ n6_ n7_ n8_;clear hb hbox hg;have hnb40 := NB431_420.out;have hnc40 := NB420_431.out;have hcz41_0 : w39.cell? ⟨gb431,0,none⟩ = some (.int .i64 0) := (blk_cell BK431.out 0).trans rfl;have hcz41_1 : w39.cell? ⟨gb431,1,none⟩ = some (.int .i64 0) := (blk_cell BK431.out 1).trans rfl;have hfz41_0 := blk_frozen BK431.out 0;have hfz41_1 := blk_frozen BK431.out 1))
               have n0_ : Aside0 (Kd.R k26 26 ((w39.setCell ⟨gb431,0,none⟩ (.int .i64 0)).setCell ⟨gb431,1,none⟩ (.int .i64 0)) w.heap.size (fun k_ => some k_ ≠ (v429 : Value).ownBlock ∧ k_ ≠ gb420) (.slice Ao27 t421.length co27) t421) := ⟨by (with_reducible repeat (first | apply Kd.R_alloc | apply Kd.R_drewN | apply Kd.R_drew));exact Kd.R_mono (Kd.R_far (p := ⟨gb431,1,none⟩) (Kd.R_far (p := ⟨gb431,0,none⟩) (Kd.R_types HO_12.out BK431.out (by decide)) (fun _ hk => hk.2) (.int .i64 0)) (fun _ hk => hk.2) (.int .i64 0)) (fun _ hk => ⟨hk.1.2,hk.1.1⟩)⟩
               have n1_ : Aside0 (Kd.R k26 26 ((w39.setCell ⟨gb431,0,none⟩ (.int .i64 0)).setCell ⟨gb431,1,none⟩ (.int .i64 0)) w.heap.size (fun k_ => some k_ ≠ (.slice Ao27 t421.length co27 : Value).ownBlock ∧ k_ ≠ gb420) v429 t427) := ⟨by (with_reducible repeat (first | apply Kd.R_alloc | apply Kd.R_drewN | apply Kd.R_drew));exact Kd.R_mono (Kd.R_far (p := ⟨gb431,1,none⟩) (Kd.R_far (p := ⟨gb431,0,none⟩) (Kd.R_types HO430.out BK431.out (by decide)) (fun _ hk => hk.2) (.int .i64 0)) (fun _ hk => hk.2) (.int .i64 0)) (fun _ hk => ⟨hk.1.1.2,hk.1.2⟩)⟩
               have n2_ : Aside0 (((w39.setCell ⟨gb431,0,none⟩ (.int .i64 0)).setCell ⟨gb431,1,none⟩ (.int .i64 0)).heap[gb420]? = some (.cells #[.string (⟨#[122,122,122]⟩ : ByteArray),.int .i64 a1,.int .i64 a2,.int .i64 3,.int .i64 16,.int .i64 x9_2] 26 (0,0))) := ⟨by (with_reducible repeat (first | refine blk_drewN ?_ _ | refine blk_drew ?_ | refine blk_alloc ?_ _));refine blk_far ?_ NB420_431.out _;(with_reducible repeat (first | refine blk_drewN ?_ _ | refine blk_drew ?_ | refine blk_alloc ?_ _));refine blk_far ?_ NB420_431.out _;(with_reducible repeat (first | refine blk_drewN ?_ _ | refine blk_drew ?_ | refine blk_alloc ?_ _));exact BK420.out⟩
               have n3_ : Aside0 (((w39.setCell ⟨gb431,0,none⟩ (.int .i64 0)).setCell ⟨gb431,1,none⟩ (.int .i64 0)).heap[gb431]? = some (.cells #[.int .i64 0,.int .i64 0] 24 (0,0))) := ⟨by (with_reducible repeat (first | refine blk_drewN ?_ _ | refine blk_drew ?_ | refine blk_alloc ?_ _));refine blk_put (cs := #[.int .i64 0,.int .i64 0]) ?_ 1 _ rfl;(with_reducible repeat (first | refine blk_drewN ?_ _ | refine blk_drew ?_ | refine blk_alloc ?_ _));refine blk_put (cs := #[.int .i64 0,.int .i64 0]) ?_ 0 _ rfl;(with_reducible repeat (first | refine blk_drewN ?_ _ | refine blk_drew ?_ | refine blk_alloc ?_ _));exact BK431.out⟩
               have n4_ : Aside0 (Below w.heap.size w ((w39.setCell ⟨gb431,0,none⟩ (.int .i64 0)).setCell ⟨gb431,1,none⟩ (.int .i64 0))) := ⟨by repeat (first | (with_reducible first | exact HB.out | apply below_alloc | apply Y15 | apply below_drew1 | refine below_set ?_ GE420.out | refine below_set ?_ GE431.out) | exact HB.out)⟩
               (try clear HO_12)
               (try clear HO430)
               (try clear BK420)
               (try clear BK431)
               (try clear HB)
               generalize ((w39.setCell ⟨gb431,0,none⟩ (.int .i64 0)).setCell ⟨gb431,1,none⟩ (.int .i64 0)) = w42 at n0_ n1_ n2_ n3_ n4_ ⊢
               have HO_12 := n0_
               have HO430 := n1_
               have BK420 := n2_
               have BK431 := n3_
               have HB := n4_
               clear n0_ n1_ n2_ n3_ n4_
               have n0_ := Yd (Kd.R_drew HO_12.out)
               have n1_ := Yd (Kd.R_drew HO430.out)
               have n2_ := Yd (blk_drew BK420.out)
               have n3_ := Yd (blk_drew BK431.out)
               have n4_ := Yd (below_drew1 HB.out)
               clear HO_12
               clear HO430
               clear BK420
               clear BK431
               clear HB
               have HO_12 := n0_
               have HO430 := n1_
               have BK420 := n2_
               have BK431 := n3_
               have HB := n4_
               clear n0_ n1_ n2_ n3_ n4_
               obtain ⟨Ao44,co44,eo44⟩ := Kd.R_slice HO430.out
               (first | subst eo44 | (injection eo44 with f1_ f2_ f3_;have f4_ := f1_.symm;have f5_ := f3_.symm;clear f1_ f2_ f3_;subst f4_;subst f5_))
               refine start_ (n := 34) (S := fun w' => True) (ds := []) #[YF,YF,YF,YF,YF,YF,YF,YF,YF,YF,YF,YF,YF,YF,YF,YF,YF,YF,YF,YF,YF,YF,YF,YF,YF,YF,YF,YF,YF,YF,YF,YF,YF,YF] (by kernel_rfl) rfl rfl trivial (fun hHeld => ?_);refine with_tabW plenumlaw34_OverrideNewest.tab20 plenumlaw34_OverrideNewest.bits20 (fun HT_ HW_ => ?_)
               generalize w42.drew = w43 at HO_12 HO430 BK420 BK431 HB hHeld ⊢
               refine pure_ (i := 0) (N := some 96) (v := ?_) (a' := ?_) #[YT,YF,YF,YF,YF,YF,YF,YF,YF,YF,YF,YF,YF,YF,YF,YF,YF,YF,YF,YF,YF,YF,YF,YF,YF,YF,YF,YF,YF,YF,YF,YF,YF,YF] rfl rfl (any_of HT_.out (by kernel_rfl)) (fun _ _ _ h => h) (Or.inl ⟨by rfl,?_⟩) ?_ ?_
               rotate_left
               ·intro w'
                go_simp
                with_reducible rfl
               rotate_left
               ·simp only [Act.put,Ya,Yb,Yc,i64_w,i32_w]
                rfl
               refine pure_ (i := 1) (N := some 97) (v := ?_) (a' := ?_) #[YT,YT,YF,YF,YF,YF,YF,YF,YF,YF,YF,YF,YF,YF,YF,YF,YF,YF,YF,YF,YF,YF,YF,YF,YF,YF,YF,YF,YF,YF,YF,YF,YF,YF] rfl rfl (any_of HT_.out (by kernel_rfl)) (fun _ _ _ h => h) (Or.inl ⟨by rfl,?_⟩) ?_ ?_
               rotate_left
               ·intro w'
                go_simp
                with_reducible rfl
               rotate_left
               ·simp only [Act.put,Ya,Yb,Yc,i64_w,i32_w]
                rfl
               refine pure_ (i := 2) (N := some 98) (v := ?_) (a' := ?_) #[YT,YT,YT,YF,YF,YF,YF,YF,YF,YF,YF,YF,YF,YF,YF,YF,YF,YF,YF,YF,YF,YF,YF,YF,YF,YF,YF,YF,YF,YF,YF,YF,YF,YF] rfl rfl (any_of HT_.out (by kernel_rfl)) (fun _ _ _ h => h) (Or.inl ⟨by rfl,?_⟩) ?_ ?_
               rotate_left
               ·intro w'
                go_simp
                with_reducible rfl
               rotate_left
               ·simp only [Act.put,Ya,Yb,Yc,i64_w,i32_w]
                rfl
               refine pure_ (i := 3) (N := some 99) (v := ?_) (a' := ?_) #[YT,YT,YT,YT,YF,YF,YF,YF,YF,YF,YF,YF,YF,YF,YF,YF,YF,YF,YF,YF,YF,YF,YF,YF,YF,YF,YF,YF,YF,YF,YF,YF,YF,YF] rfl rfl (any_of HT_.out (by kernel_rfl)) (fun _ _ _ h => h) (Or.inl ⟨by rfl,?_⟩) ?_ ?_
               rotate_left
               ·intro w'
                go_simp
                with_reducible rfl
               rotate_left
               ·simp only [Act.put,Ya,Yb,Yc,i64_w,i32_w]
                rfl
               refine pure_ (i := 4) (N := some 100) (v := ?_) (a' := ?_) #[YT,YT,YT,YT,YT,YF,YF,YF,YF,YF,YF,YF,YF,YF,YF,YF,YF,YF,YF,YF,YF,YF,YF,YF,YF,YF,YF,YF,YF,YF,YF,YF,YF,YF] rfl rfl (any_of HT_.out (by kernel_rfl)) (fun _ _ _ h => h) (Or.inl ⟨by rfl,?_⟩) ?_ ?_
               rotate_left
               ·intro w'
                go_simp
                with_reducible rfl
               rotate_left
               ·simp only [Act.put,Ya,Yb,Yc,i64_w,i32_w]
                rfl
               refine pure_ (i := 5) (N := some 101) (v := ?_) (a' := ?_) #[YT,YT,YT,YT,YT,YT,YF,YF,YF,YF,YF,YF,YF,YF,YF,YF,YF,YF,YF,YF,YF,YF,YF,YF,YF,YF,YF,YF,YF,YF,YF,YF,YF,YF] rfl rfl (any_of HT_.out (by kernel_rfl)) (fun _ _ _ h => h) (Or.inl ⟨by rfl,?_⟩) ?_ ?_
               rotate_left
               ·intro w'
                go_simp
                with_reducible rfl
               rotate_left
               ·simp only [Act.put,Ya,Yb,Yc,i64_w,i32_w]
                rfl
               refine pure_ (i := 6) (N := some 102) (v := ?_) (a' := ?_) #[YT,YT,YT,YT,YT,YT,YT,YF,YF,YF,YF,YF,YF,YF,YF,YF,YF,YF,YF,YF,YF,YF,YF,YF,YF,YF,YF,YF,YF,YF,YF,YF,YF,YF] rfl rfl (any_of HT_.out (by kernel_rfl)) (fun _ _ _ h => h) (Or.inl ⟨by rfl,?_⟩) ?_ ?_
               rotate_left
               ·intro w'
                go_simp
                with_reducible rfl
               rotate_left
               ·simp only [Act.put,Ya,Yb,Yc,i64_w,i32_w]
                rfl
               refine pure_ (i := 7) (N := some 103) (v := ?_) (a' := ?_) #[YT,YT,YT,YT,YT,YT,YT,YT,YF,YF,YF,YF,YF,YF,YF,YF,YF,YF,YF,YF,YF,YF,YF,YF,YF,YF,YF,YF,YF,YF,YF,YF,YF,YF] rfl rfl (any_of HT_.out (by kernel_rfl)) (fun _ _ _ h => h) (Or.inl ⟨by rfl,?_⟩) ?_ ?_
               rotate_left
               ·intro w'
                go_simp
                with_reducible rfl
               rotate_left
               ·simp only [Act.put,Ya,Yb,Yc,i64_w,i32_w]
                rfl
               refine pure_ (i := 8) (N := some 104) (v := ?_) (a' := ?_) #[YT,YT,YT,YT,YT,YT,YT,YT,YT,YF,YF,YF,YF,YF,YF,YF,YF,YF,YF,YF,YF,YF,YF,YF,YF,YF,YF,YF,YF,YF,YF,YF,YF,YF] rfl rfl (any_of HT_.out (by kernel_rfl)) (fun _ _ _ h => h) (Or.inl ⟨by rfl,?_⟩) ?_ ?_
               rotate_left
               ·intro w'
                go_simp
                with_reducible rfl
               rotate_left
               ·simp only [Act.put,Ya,Yb,Yc,i64_w,i32_w]
                rfl
               refine pure_ (i := 9) (N := some 105) (v := ?_) (a' := ?_) #[YT,YT,YT,YT,YT,YT,YT,YT,YT,YT,YF,YF,YF,YF,YF,YF,YF,YF,YF,YF,YF,YF,YF,YF,YF,YF,YF,YF,YF,YF,YF,YF,YF,YF] rfl rfl (any_of HT_.out (by kernel_rfl)) (fun _ _ _ h => h) (Or.inl ⟨by rfl,?_⟩) ?_ ?_
               rotate_left
               ·intro w'
                go_simp
                with_reducible rfl
               rotate_left
               ·simp only [Act.put,Ya,Yb,Yc,i64_w,i32_w]
                rfl
               refine pure_ (i := 10) (N := some 106) (v := ?_) (a' := ?_) #[YT,YT,YT,YT,YT,YT,YT,YT,YT,YT,YT,YF,YF,YF,YF,YF,YF,YF,YF,YF,YF,YF,YF,YF,YF,YF,YF,YF,YF,YF,YF,YF,YF,YF] rfl rfl (any_of HT_.out (by kernel_rfl)) (fun _ _ _ h => h) (Or.inl ⟨by rfl,?_⟩) ?_ ?_
               rotate_left
               ·intro w'
                go_simp
                with_reducible rfl
               rotate_left
               ·simp only [Act.put,Ya,Yb,Yc,i64_w,i32_w]
                rfl
               refine pure_ (i := 11) (N := some 107) (v := ?_) (a' := ?_) #[YT,YT,YT,YT,YT,YT,YT,YT,YT,YT,YT,YT,YF,YF,YF,YF,YF,YF,YF,YF,YF,YF,YF,YF,YF,YF,YF,YF,YF,YF,YF,YF,YF,YF] rfl rfl (any_of HT_.out (by kernel_rfl)) (fun _ _ _ h => h) (Or.inl ⟨by rfl,?_⟩) ?_ ?_
               rotate_left
               ·intro w'
                go_simp
                with_reducible rfl
               rotate_left
               ·simp only [Act.put,Ya,Yb,Yc,i64_w,i32_w]
                rfl
               refine pure_ (i := 12) (N := some 108) (v := ?_) (a' := ?_) #[YT,YT,YT,YT,YT,YT,YT,YT,YT,YT,YT,YT,YT,YF,YF,YF,YF,YF,YF,YF,YF,YF,YF,YF,YF,YF,YF,YF,YF,YF,YF,YF,YF,YF] rfl rfl (any_of HT_.out (by kernel_rfl)) (fun _ _ _ h => h) (Or.inl ⟨by rfl,?_⟩) ?_ ?_
               rotate_left
               ·intro w'
                go_simp
                with_reducible rfl
               rotate_left
               ·simp only [Act.put,Ya,Yb,Yc,i64_w,i32_w]
                rfl
               refine pure_ (i := 13) (N := some 109) (v := undef) (a' := ?_) #[YT,YT,YT,YT,YT,YT,YT,YT,YT,YT,YT,YT,YT,YT,YF,YF,YF,YF,YF,YF,YF,YF,YF,YF,YF,YF,YF,YF,YF,YF,YF,YF,YF,YF] rfl rfl (any_of HT_.out (by kernel_rfl)) (fun _ _ _ h => h) (Or.inr ⟨by rfl,rfl⟩) ?_ ?_
               rotate_left
               ·simp only [Act.put,Ya,Yb,Yc,i64_w,i32_w]
                rfl
               refine pure_ (i := 14) (N := some 110) (v := undef) (a' := ?_) #[YT,YT,YT,YT,YT,YT,YT,YT,YT,YT,YT,YT,YT,YT,YT,YF,YF,YF,YF,YF,YF,YF,YF,YF,YF,YF,YF,YF,YF,YF,YF,YF,YF,YF] rfl rfl (any_of HT_.out (by kernel_rfl)) (fun _ _ _ h => h) (Or.inr ⟨by rfl,rfl⟩) ?_ ?_
               rotate_left
               ·simp only [Act.put,Ya,Yb,Yc,i64_w,i32_w]
                rfl
               refine pure_ (i := 15) (N := some 111) (v := undef) (a' := ?_) #[YT,YT,YT,YT,YT,YT,YT,YT,YT,YT,YT,YT,YT,YT,YT,YT,YF,YF,YF,YF,YF,YF,YF,YF,YF,YF,YF,YF,YF,YF,YF,YF,YF,YF] rfl rfl (any_of HT_.out (by kernel_rfl)) (fun _ _ _ h => h) (Or.inr ⟨by rfl,rfl⟩) ?_ ?_
               rotate_left
               ·simp only [Act.put,Ya,Yb,Yc,i64_w,i32_w]
                rfl
               refine pure_ (i := 16) (N := some 112) (v := undef) (a' := ?_) #[YT,YT,YT,YT,YT,YT,YT,YT,YT,YT,YT,YT,YT,YT,YT,YT,YT,YF,YF,YF,YF,YF,YF,YF,YF,YF,YF,YF,YF,YF,YF,YF,YF,YF] rfl rfl (any_of HT_.out (by kernel_rfl)) (fun _ _ _ h => h) (Or.inr ⟨by rfl,rfl⟩) ?_ ?_
               rotate_left
               ·simp only [Act.put,Ya,Yb,Yc,i64_w,i32_w]
                rfl
               refine pure_ (i := 17) (N := some 113) (v := undef) (a' := ?_) #[YT,YT,YT,YT,YT,YT,YT,YT,YT,YT,YT,YT,YT,YT,YT,YT,YT,YT,YF,YF,YF,YF,YF,YF,YF,YF,YF,YF,YF,YF,YF,YF,YF,YF] rfl rfl (any_of HT_.out (by kernel_rfl)) (fun _ _ _ h => h) (Or.inr ⟨by rfl,rfl⟩) ?_ ?_
               rotate_left
               ·simp only [Act.put,Ya,Yb,Yc,i64_w,i32_w]
                rfl
               refine pure_ (i := 18) (N := some 114) (v := undef) (a' := ?_) #[YT,YT,YT,YT,YT,YT,YT,YT,YT,YT,YT,YT,YT,YT,YT,YT,YT,YT,YT,YF,YF,YF,YF,YF,YF,YF,YF,YF,YF,YF,YF,YF,YF,YF] rfl rfl (any_of HT_.out (by kernel_rfl)) (fun _ _ _ h => h) (Or.inr ⟨by rfl,rfl⟩) ?_ ?_
               rotate_left
               ·simp only [Act.put,Ya,Yb,Yc,i64_w,i32_w]
                rfl
               refine pure_ (i := 19) (N := some 115) (v := undef) (a' := ?_) #[YT,YT,YT,YT,YT,YT,YT,YT,YT,YT,YT,YT,YT,YT,YT,YT,YT,YT,YT,YT,YF,YF,YF,YF,YF,YF,YF,YF,YF,YF,YF,YF,YF,YF] rfl rfl (any_of HT_.out (by kernel_rfl)) (fun _ _ _ h => h) (Or.inr ⟨by rfl,rfl⟩) ?_ ?_
               rotate_left
               ·simp only [Act.put,Ya,Yb,Yc,i64_w,i32_w]
                rfl
               refine pure_ (i := 20) (N := some 116) (v := undef) (a' := ?_) #[YT,YT,YT,YT,YT,YT,YT,YT,YT,YT,YT,YT,YT,YT,YT,YT,YT,YT,YT,YT,YT,YF,YF,YF,YF,YF,YF,YF,YF,YF,YF,YF,YF,YF] rfl rfl (any_of HT_.out (by kernel_rfl)) (fun _ _ _ h => h) (Or.inr ⟨by rfl,rfl⟩) ?_ ?_
               rotate_left
               ·simp only [Act.put,Ya,Yb,Yc,i64_w,i32_w]
                rfl
               refine pure_ (i := 21) (N := some 117) (v := undef) (a' := ?_) #[YT,YT,YT,YT,YT,YT,YT,YT,YT,YT,YT,YT,YT,YT,YT,YT,YT,YT,YT,YT,YT,YT,YF,YF,YF,YF,YF,YF,YF,YF,YF,YF,YF,YF] rfl rfl (any_of HT_.out (by kernel_rfl)) (fun _ _ _ h => h) (Or.inr ⟨by rfl,rfl⟩) ?_ ?_
               rotate_left
               ·simp only [Act.put,Ya,Yb,Yc,i64_w,i32_w]
                rfl
               refine pure_ (i := 22) (N := some 118) (v := ?_) (a' := ?_) #[YT,YT,YT,YT,YT,YT,YT,YT,YT,YT,YT,YT,YT,YT,YT,YT,YT,YT,YT,YT,YT,YT,YT,YF,YF,YF,YF,YF,YF,YF,YF,YF,YF,YF] rfl rfl (any_of HT_.out (by kernel_rfl)) (fun _ _ _ h => h) (Or.inl ⟨by rfl,?_⟩) ?_ ?_
               rotate_left
               ·intro w'
                go_simp
                with_reducible rfl
               rotate_left
               ·simp only [Act.put,Ya,Yb,Yc,i64_w,i32_w]
                rfl
               refine pure_ (i := 23) (N := some 119) (v := ?_) (a' := ?_) #[YT,YT,YT,YT,YT,YT,YT,YT,YT,YT,YT,YT,YT,YT,YT,YT,YT,YT,YT,YT,YT,YT,YT,YT,YF,YF,YF,YF,YF,YF,YF,YF,YF,YF] rfl rfl (any_of HT_.out (by kernel_rfl)) (fun _ _ _ h => h) (Or.inl ⟨by rfl,?_⟩) ?_ ?_
               rotate_left
               ·intro w'
                go_simp
                with_reducible rfl
               rotate_left
               ·simp only [Act.put,Ya,Yb,Yc,i64_w,i32_w]
                rfl
               refine pure_ (i := 24) (N := some 120) (v := ?_) (a' := ?_) #[YT,YT,YT,YT,YT,YT,YT,YT,YT,YT,YT,YT,YT,YT,YT,YT,YT,YT,YT,YT,YT,YT,YT,YT,YT,YF,YF,YF,YF,YF,YF,YF,YF,YF] rfl rfl (any_of HT_.out (by kernel_rfl)) (fun _ _ _ h => h) (Or.inl ⟨by rfl,?_⟩) ?_ ?_
               rotate_left
               ·intro w'
                go_simp
                with_reducible rfl
               rotate_left
               ·simp only [Act.put,Ya,Yb,Yc,i64_w,i32_w]
                rfl
               refine pure_ (i := 25) (N := some 121) (v := ?_) (a' := ?_) #[YT,YT,YT,YT,YT,YT,YT,YT,YT,YT,YT,YT,YT,YT,YT,YT,YT,YT,YT,YT,YT,YT,YT,YT,YT,YT,YF,YF,YF,YF,YF,YF,YF,YF] rfl rfl (any_of HT_.out (by kernel_rfl)) (fun _ _ _ h => h) (Or.inl ⟨by rfl,?_⟩) ?_ ?_
               rotate_left
               ·intro w'
                go_simp
                with_reducible rfl
               rotate_left
               ·simp only [Act.put,Ya,Yb,Yc,i64_w,i32_w]
                rfl
               refine pure_ (i := 26) (N := some 122) (v := ?_) (a' := ?_) #[YT,YT,YT,YT,YT,YT,YT,YT,YT,YT,YT,YT,YT,YT,YT,YT,YT,YT,YT,YT,YT,YT,YT,YT,YT,YT,YT,YF,YF,YF,YF,YF,YF,YF] rfl rfl (any_of HT_.out (by kernel_rfl)) (fun _ _ _ h => h) (Or.inl ⟨by rfl,?_⟩) ?_ ?_
               rotate_left
               ·intro w'
                go_simp
                with_reducible rfl
               rotate_left
               ·simp only [Act.put,Ya,Yb,Yc,i64_w,i32_w]
                rfl
               refine pure_ (i := 27) (N := some 123) (v := ?_) (a' := ?_) #[YT,YT,YT,YT,YT,YT,YT,YT,YT,YT,YT,YT,YT,YT,YT,YT,YT,YT,YT,YT,YT,YT,YT,YT,YT,YT,YT,YT,YF,YF,YF,YF,YF,YF] rfl rfl (any_of HT_.out (by kernel_rfl)) (fun _ _ _ h => h) (Or.inl ⟨by rfl,?_⟩) ?_ ?_
               rotate_left
               ·intro w'
                go_simp
                with_reducible rfl
               rotate_left
               ·simp only [Act.put,Ya,Yb,Yc,i64_w,i32_w]
                rfl
               refine pure_ (i := 28) (N := some 124) (v := ?_) (a' := ?_) #[YT,YT,YT,YT,YT,YT,YT,YT,YT,YT,YT,YT,YT,YT,YT,YT,YT,YT,YT,YT,YT,YT,YT,YT,YT,YT,YT,YT,YT,YF,YF,YF,YF,YF] rfl rfl (any_of HT_.out (by kernel_rfl)) (fun _ _ _ h => h) (Or.inl ⟨by rfl,?_⟩) ?_ ?_
               rotate_left
               ·intro w'
                go_simp
                with_reducible rfl
               rotate_left
               ·simp only [Act.put,Ya,Yb,Yc,i64_w,i32_w]
                rfl
               refine pure_ (i := 29) (N := some 125) (v := ?_) (a' := ?_) #[YT,YT,YT,YT,YT,YT,YT,YT,YT,YT,YT,YT,YT,YT,YT,YT,YT,YT,YT,YT,YT,YT,YT,YT,YT,YT,YT,YT,YT,YT,YF,YF,YF,YF] rfl rfl (any_of HT_.out (by kernel_rfl)) (fun _ _ _ h => h) (Or.inl ⟨by rfl,?_⟩) ?_ ?_
               rotate_left
               ·intro w'
                go_simp
                with_reducible rfl
               rotate_left
               ·simp only [Act.put,Ya,Yb,Yc,i64_w,i32_w]
                rfl
               refine pure_ (i := 30) (N := some 126) (v := ?_) (a' := ?_) #[YT,YT,YT,YT,YT,YT,YT,YT,YT,YT,YT,YT,YT,YT,YT,YT,YT,YT,YT,YT,YT,YT,YT,YT,YT,YT,YT,YT,YT,YT,YT,YF,YF,YF] rfl rfl (any_of HT_.out (by kernel_rfl)) (fun _ _ _ h => h) (Or.inl ⟨by rfl,?_⟩) ?_ ?_
               rotate_left
               ·intro w'
                go_simp
                with_reducible rfl
               rotate_left
               ·simp only [Act.put,Ya,Yb,Yc,i64_w,i32_w]
                rfl
               refine one_ (i := 31) (N := some 127) #[YT,YT,YT,YT,YT,YT,YT,YT,YT,YT,YT,YT,YT,YT,YT,YT,YT,YT,YT,YT,YT,YT,YT,YT,YT,YT,YT,YT,YT,YT,YT,YT,YF,YF] rfl rfl (one_of HT_.out (by kernel_rfl)) (by decide) (fun K hK => ?_)
               refine goes_ Try.func12 (by kernel_rfl) rfl #[.slice Ao44 t427.length co44,.slice A0 l0.length c0] (by rfl) rfl rfl Y8 ?_
               with_reducible refine (plenumref34_Same.calls kj22 _ _ t427 _ _ l0 t432 _ ?side1 ?side2 ?side3 ?side4 A37.out).mono ?_
               (case side1 => repeat (first | exact (Kd.R_reads' HO430.out).2.2 | (with_reducible refine Kd.C_alloc ?_ _) | (with_reducible refine Kd.C_drewN ?_ _) | (with_reducible refine Kd.C_drew ?_)))
               (case side2 => exact (Kd.R_reads' HO430.out).2.1)
               (case side3 => exact Y11 (Kd.C_below HR0.out HB.out))
               (case side4 => exact HC0.out)
               rintro e w' ⟨rfl,⟨nd,rfl⟩⟩
               refine ⟨_,rfl,?_⟩
               refine hK.out _ _ trivial (fun hHeld => ?_)
               clear hK K
               refine norm_ (a' := ?_) ?_ ?_
               rotate_left
               ·show Act.put _ (some 127) _ = _
                simp only [Act.put,Ya,Yb,Yc,i64_w,i32_w]
                rfl
               refine pure_ (i := 32) (N := some 128) (v := ?_) (a' := ?_) #[YT,YT,YT,YT,YT,YT,YT,YT,YT,YT,YT,YT,YT,YT,YT,YT,YT,YT,YT,YT,YT,YT,YT,YT,YT,YT,YT,YT,YT,YT,YT,YT,YT,YF] rfl rfl (any_of HT_.out (by kernel_rfl)) (fun _ _ _ h => h) (Or.inl ⟨by rfl,?_⟩) ?_ ?_
               rotate_left
               ·intro w'
                go_simp
                with_reducible rfl
               rotate_left
               ·simp only [Act.put,Ya,Yb,Yc,i64_w,i32_w]
                rfl
               refine pure_ (i := 33) (N := some 8) (v := ?_) (a' := ?_) #[YT,YT,YT,YT,YT,YT,YT,YT,YT,YT,YT,YT,YT,YT,YT,YT,YT,YT,YT,YT,YT,YT,YT,YT,YT,YT,YT,YT,YT,YT,YT,YT,YT,YT] rfl rfl (any_of HT_.out (by kernel_rfl)) (fun _ _ _ h => h) (Or.inl ⟨by rfl,?_⟩) ?_ ?_
               rotate_left
               ·intro w'
                go_simp
                with_reducible rfl
               rotate_left
               ·simp only [Act.put,Ya,Yb,Yc,i64_w,i32_w]
                rfl
               refine done_ (done_of HT_.out (by kernel_rfl)) ?_
               try go_wp2
               go_ret
               exact ⟨by first | rfl | (simp [errW_none,errW_some] <;> rfl) | (simp [*,errW_none,errW_some] <;> rfl),by repeat (first | (with_reducible first | exact HB.out | apply below_alloc | apply Y15 | apply below_drew1 | refine below_set ?_ GE420.out | refine below_set ?_ GE431.out) | exact HB.out)⟩
              ·rw [if_neg c36] at H
               have c36b0 : (t428 == 0) = false := beq_eq_false_iff_ne.mpr c36
               have c36b1 : (t428 != 0) = true := bne_iff_ne.mpr c36
               exact absurd H (by simp)
             ·replace c35 := Bool.eq_false_iff.mpr c35
              subst c35
              have H1 : ((override_Value.f kj22 t421 a3 0 0).bind fun bt433 => ((override_Value.f kj22 l0 a3 0 0).bind fun bt435 => (if (bt433.1 == bt435.1 && (bt433.2 == bt435.2)) = true then (if t428 = 0 then ((plenumref34_Same.f kj22 t427 l0).bind fun t437 => (some t437)) else (none)) else (none)))) = some r := by rw [if_neg (show ¬ (false = true) by decide)] at H;exact H
              clear H
              have H := H1
              clear H1
              replace H := Option.bind_eq_some_iff.mp H
              obtain ⟨⟨t433,t434⟩,A450,H⟩ := H
              replace H : ((override_Value.f kj22 l0 a3 0 0).bind fun bt435 => (if (t433 == bt435.1 && (t434 == bt435.2)) = true then (if t428 = 0 then ((plenumref34_Same.f kj22 t427 l0).bind fun t437 => (some t437)) else (none)) else (none))) = some r := H
              have A45 := Yd A450
              clear A450
              replace H := Option.bind_eq_some_iff.mp H
              obtain ⟨⟨t435,t436⟩,A460,H⟩ := H
              replace H : (if (t433 == t435 && (t434 == t436)) = true then (if t428 = 0 then ((plenumref34_Same.f kj22 t427 l0).bind fun t437 => (some t437)) else (none)) else (none)) = some r := H
              have A46 := Yd A460
              clear A460
              by_cases c47 : (t433 == t435 && (t434 == t436)) = true
              ·rw [if_pos c47] at H
               have c47b0 : (t433 == t435 && (t434 == t436)) = true := c47
               (try (have c47b1 : decide (t433 = t435 && (t434 == t436)) = true := by simpa using c47))
               (try (have c47b2 : (t433 == t435 && (t434 == t436)) = true := by simpa using c47))
               clear c47
               by_cases c48 : t428 = 0
               ·rw [if_pos c48] at H
                have c48b0 : (t428 == 0) = true := beq_iff_eq.mpr c48
                have c48b1 : (t428 != 0) = false := bne_eq_false_iff_eq.mpr c48
                clear c48
                replace H := Option.bind_eq_some_iff.mp H
                obtain ⟨t437,A490,H⟩ := H
                replace H : (some t437) = some r := H
                have A49 := Yd A490
                clear A490
                obtain rfl := Option.some.inj H
                try go_wp2_with (first | ((with_reducible refine gate_callee (f := 9) rfl ?_);refine goesL_ (some 92) rfl rfl Try.func9 (by kernel_rfl) rfl #[.slice Ao27 t421.length co27,.string (⟨#[122,122,122]⟩ : ByteArray)] rfl Y8 ?_;(with_reducible refine (override_Remove.calls kj22 _ _ t421 (⟨#[122,122,122]⟩ : ByteArray) t427 t428 _ ?side1 ?side2 A32.out).mono ?_);(case side1 => repeat (first | exact (Kd.R_reads' HO_12.out).2.2 | (with_reducible refine Kd.C_alloc ?_ _) | (with_reducible refine Kd.C_drewN ?_ _) | (with_reducible refine Kd.C_drew ?_)));(case side2 => exact (Kd.R_reads' HO_12.out).2.1);rintro e w50 ⟨v429,rfl,ho0,hb⟩;refine ⟨_,rfl,?_⟩;have n0_ := Yd (Kd.R_elder' (Y5 HO_12.out) (Kd.R_base ho0) hb);have n1_ := Yd (Kd.R_lower (Kd.R_newB (Kd.R_new' ho0 (Kd.R_lt (Y5 HO_12.out))) (g := gb420) (o := .cells #[.string (⟨#[122,122,122]⟩ : ByteArray),.int .i64 a1,.int .i64 a2,.int .i64 3,.int .i64 16,.int .i64 x9_2] 26 (0,0)) (Y6 BK420.out)) (below_size (by first | exact Y4 HB.out GE420.out | exact Y3 HB.out)));have n2_ := Yd (blk_below (g := gb420) (o := .cells #[.string (⟨#[122,122,122]⟩ : ByteArray),.int .i64 a1,.int .i64 a2,.int .i64 3,.int .i64 16,.int .i64 x9_2] 26 (0,0)) (Y6 BK420.out) hb);have n3_ := Yd (below_step (by first | exact Y4 HB.out GE420.out | exact Y3 HB.out) hb);clear HO_12;clear BK420;clear HB;have HO_12 := n0_;have HO430 := n1_;have BK420 := n2_;have HB := n3_;clear n0_ n1_ n2_ n3_;(try clear hb);(try clear hb2);(try clear hk);(try clear hi);(try clear ho0)) | ((with_reducible refine gate_dst (N := 18) rfl ?_);refine box_event ?hg (N := 18) ?hd (cs := #[.int .i64 0,.int .i64 0]) (t := 24) ?hr ?_;(case hd => rfl);(case hg => rfl);(case hr => first | (go_simp;done) | (go_simp;rfl));intro gb431 hg w51 hbox hb;have n0_ := Yd (Kd.R_below (Y5 HO_12.out) hb);have n1_ := Yd (Kd.R_below (Y5 HO430.out) hb);have n2_ := Yd (blk_below (g := gb420) (o := .cells #[.string (⟨#[122,122,122]⟩ : ByteArray),.int .i64 a1,.int .i64 a2,.int .i64 3,.int .i64 16,.int .i64 x9_2] 26 (0,0)) (Y6 BK420.out) hb);have n3_ := Yd (below_step (by first | exact Y4 HB.out GE420.out | exact Y3 HB.out) hb);have n4_ := Yd (hbox);have n5_ := Yd ((by rw [hg];exact (below_size (by first | exact Y4 HB.out GE420.out | exact Y3 HB.out)) : w.heap.size ≤ gb431));have n6_ := Yd ((by rw [hg];exact (below_size (by first | exact Y4 HB.out GE420.out | exact Y3 HB.out)) : w.heap.size ≤ gb431));have n7_ := Yd ((by rw [hg];exact Nat.ne_of_lt (blk_lt (g := gb420) (o := .cells #[.string (⟨#[122,122,122]⟩ : ByteArray),.int .i64 a1,.int .i64 a2,.int .i64 3,.int .i64 16,.int .i64 x9_2] 26 (0,0)) (Y6 BK420.out)) : gb420 ≠ gb431));have n8_ := Yd ((by rw [hg];exact Nat.ne_of_gt (blk_lt (g := gb420) (o := .cells #[.string (⟨#[122,122,122]⟩ : ByteArray),.int .i64 a1,.int .i64 a2,.int .i64 3,.int .i64 16,.int .i64 x9_2] 26 (0,0)) (Y6 BK420.out)) : gb431 ≠ gb420));clear HO_12;clear HO430;clear BK420;clear HB;have HO_12 := n0_;have HO430 := n1_;have BK420 := n2_;have HB := n3_;have BK431 := n4_;have GW431 := n5_;have GE431 := n6_;have NB420_431 := n7_;have NB431_420 := n8_;clear n0_ n1_ n2_ n3_ n4_ n5_ n6_ n7_ n8_;clear hb hbox hg;have hnb52 := NB431_420.out;have hnc52 := NB420_431.out;have hcz53_0 : w51.cell? ⟨gb431,0,none⟩ = some (.int .i64 0) := (blk_cell BK431.out 0).trans rfl;have hcz53_1 : w51.cell? ⟨gb431,1,none⟩ = some (.int .i64 0) := (blk_cell BK431.out 1).trans rfl;have hfz53_0 := blk_frozen BK431.out 0;have hfz53_1 := blk_frozen BK431.out 1))
                have n0_ : Aside0 (Kd.R k26 26 ((w51.setCell ⟨gb431,0,none⟩ (.int .i64 0)).setCell ⟨gb431,1,none⟩ (.int .i64 0)) w.heap.size (fun k_ => some k_ ≠ (v429 : Value).ownBlock ∧ k_ ≠ gb420) (.slice Ao27 t421.length co27) t421) := ⟨by (with_reducible repeat (first | apply Kd.R_alloc | apply Kd.R_drewN | apply Kd.R_drew));exact Kd.R_mono (Kd.R_far (p := ⟨gb431,1,none⟩) (Kd.R_far (p := ⟨gb431,0,none⟩) (Kd.R_types HO_12.out BK431.out (by decide)) (fun _ hk => hk.2) (.int .i64 0)) (fun _ hk => hk.2) (.int .i64 0)) (fun _ hk => ⟨hk.1.2,hk.1.1⟩)⟩
                have n1_ : Aside0 (Kd.R k26 26 ((w51.setCell ⟨gb431,0,none⟩ (.int .i64 0)).setCell ⟨gb431,1,none⟩ (.int .i64 0)) w.heap.size (fun k_ => some k_ ≠ (.slice Ao27 t421.length co27 : Value).ownBlock ∧ k_ ≠ gb420) v429 t427) := ⟨by (with_reducible repeat (first | apply Kd.R_alloc | apply Kd.R_drewN | apply Kd.R_drew));exact Kd.R_mono (Kd.R_far (p := ⟨gb431,1,none⟩) (Kd.R_far (p := ⟨gb431,0,none⟩) (Kd.R_types HO430.out BK431.out (by decide)) (fun _ hk => hk.2) (.int .i64 0)) (fun _ hk => hk.2) (.int .i64 0)) (fun _ hk => ⟨hk.1.1.2,hk.1.2⟩)⟩
                have n2_ : Aside0 (((w51.setCell ⟨gb431,0,none⟩ (.int .i64 0)).setCell ⟨gb431,1,none⟩ (.int .i64 0)).heap[gb420]? = some (.cells #[.string (⟨#[122,122,122]⟩ : ByteArray),.int .i64 a1,.int .i64 a2,.int .i64 3,.int .i64 16,.int .i64 x9_2] 26 (0,0))) := ⟨by (with_reducible repeat (first | refine blk_drewN ?_ _ | refine blk_drew ?_ | refine blk_alloc ?_ _));refine blk_far ?_ NB420_431.out _;(with_reducible repeat (first | refine blk_drewN ?_ _ | refine blk_drew ?_ | refine blk_alloc ?_ _));refine blk_far ?_ NB420_431.out _;(with_reducible repeat (first | refine blk_drewN ?_ _ | refine blk_drew ?_ | refine blk_alloc ?_ _));exact BK420.out⟩
                have n3_ : Aside0 (((w51.setCell ⟨gb431,0,none⟩ (.int .i64 0)).setCell ⟨gb431,1,none⟩ (.int .i64 0)).heap[gb431]? = some (.cells #[.int .i64 0,.int .i64 0] 24 (0,0))) := ⟨by (with_reducible repeat (first | refine blk_drewN ?_ _ | refine blk_drew ?_ | refine blk_alloc ?_ _));refine blk_put (cs := #[.int .i64 0,.int .i64 0]) ?_ 1 _ rfl;(with_reducible repeat (first | refine blk_drewN ?_ _ | refine blk_drew ?_ | refine blk_alloc ?_ _));refine blk_put (cs := #[.int .i64 0,.int .i64 0]) ?_ 0 _ rfl;(with_reducible repeat (first | refine blk_drewN ?_ _ | refine blk_drew ?_ | refine blk_alloc ?_ _));exact BK431.out⟩
                have n4_ : Aside0 (Below w.heap.size w ((w51.setCell ⟨gb431,0,none⟩ (.int .i64 0)).setCell ⟨gb431,1,none⟩ (.int .i64 0))) := ⟨by repeat (first | (with_reducible first | exact HB.out | apply below_alloc | apply Y15 | apply below_drew1 | refine below_set ?_ GE420.out | refine below_set ?_ GE431.out) | exact HB.out)⟩
                (try clear HO_12)
                (try clear HO430)
                (try clear BK420)
                (try clear BK431)
                (try clear HB)
                generalize ((w51.setCell ⟨gb431,0,none⟩ (.int .i64 0)).setCell ⟨gb431,1,none⟩ (.int .i64 0)) = w54 at n0_ n1_ n2_ n3_ n4_ ⊢
                have HO_12 := n0_
                have HO430 := n1_
                have BK420 := n2_
                have BK431 := n3_
                have HB := n4_
                clear n0_ n1_ n2_ n3_ n4_
                have n0_ := Yd (Kd.R_drew HO_12.out)
                have n1_ := Yd (Kd.R_drew HO430.out)
                have n2_ := Yd (blk_drew BK420.out)
                have n3_ := Yd (blk_drew BK431.out)
                have n4_ := Yd (below_drew1 HB.out)
                clear HO_12
                clear HO430
                clear BK420
                clear BK431
                clear HB
                have HO_12 := n0_
                have HO430 := n1_
                have BK420 := n2_
                have BK431 := n3_
                have HB := n4_
                clear n0_ n1_ n2_ n3_ n4_
                refine start_ (n := 34) (S := fun w' => w'.cell? ⟨gb431,0,none⟩ = some (.int .i64 0) ∧ w'.cell? ⟨gb431,1,none⟩ = some (.int .i64 0)) (ds := []) #[YF,YF,YF,YF,YF,YF,YF,YF,YF,YF,YF,YF,YF,YF,YF,YF,YF,YF,YF,YF,YF,YF,YF,YF,YF,YF,YF,YF,YF,YF,YF,YF,YF,YF] (by kernel_rfl) rfl rfl ⟨(blk_cell BK431.out 0).trans rfl,(blk_cell BK431.out 1).trans rfl⟩ (fun hHeld => ?_);refine with_tabW plenumlaw34_OverrideNewest.tab20 plenumlaw34_OverrideNewest.bits20 (fun HT_ HW_ => ?_)
                generalize w54.drew = w55 at HO_12 HO430 BK420 BK431 HB hHeld ⊢
                refine pure_ (i := 0) (N := some 96) (v := ?_) (a' := ?_) #[YT,YF,YF,YF,YF,YF,YF,YF,YF,YF,YF,YF,YF,YF,YF,YF,YF,YF,YF,YF,YF,YF,YF,YF,YF,YF,YF,YF,YF,YF,YF,YF,YF,YF] rfl rfl (any_of HT_.out (by kernel_rfl)) (fun _ _ _ h => h) (Or.inl ⟨by rfl,?_⟩) ?_ ?_
                rotate_left
                ·intro w'
                 go_simp
                 with_reducible rfl
                rotate_left
                ·simp only [Act.put,Ya,Yb,Yc,i64_w,i32_w]
                 rfl
                refine pure_ (i := 1) (N := some 97) (v := ?_) (a' := ?_) #[YT,YT,YF,YF,YF,YF,YF,YF,YF,YF,YF,YF,YF,YF,YF,YF,YF,YF,YF,YF,YF,YF,YF,YF,YF,YF,YF,YF,YF,YF,YF,YF,YF,YF] rfl rfl (any_of HT_.out (by kernel_rfl)) (fun _ _ _ h => h) (Or.inl ⟨by rfl,?_⟩) ?_ ?_
                rotate_left
                ·intro w'
                 go_simp
                 with_reducible rfl
                rotate_left
                ·simp only [Act.put,Ya,Yb,Yc,i64_w,i32_w]
                 rfl
                refine pure_ (i := 2) (N := some 98) (v := ?_) (a' := ?_) #[YT,YT,YT,YF,YF,YF,YF,YF,YF,YF,YF,YF,YF,YF,YF,YF,YF,YF,YF,YF,YF,YF,YF,YF,YF,YF,YF,YF,YF,YF,YF,YF,YF,YF] rfl rfl (any_of HT_.out (by kernel_rfl)) (fun _ _ _ h => h) (Or.inl ⟨by rfl,?_⟩) ?_ ?_
                rotate_left
                ·intro w'
                 go_simp
                 with_reducible rfl
                rotate_left
                ·simp only [Act.put,Ya,Yb,Yc,i64_w,i32_w]
                 rfl
                refine pure_ (i := 3) (N := some 99) (v := ?_) (a' := ?_) #[YT,YT,YT,YT,YF,YF,YF,YF,YF,YF,YF,YF,YF,YF,YF,YF,YF,YF,YF,YF,YF,YF,YF,YF,YF,YF,YF,YF,YF,YF,YF,YF,YF,YF] rfl rfl (any_of HT_.out (by kernel_rfl)) (fun _ _ _ h => h) (Or.inl ⟨by rfl,?_⟩) ?_ ?_
                rotate_left
                ·intro w'
                 go_simp
                 with_reducible rfl
                rotate_left
                ·simp only [Act.put,Ya,Yb,Yc,i64_w,i32_w]
                 rfl
                refine pure_ (i := 4) (N := some 100) (v := ?_) (a' := ?_) #[YT,YT,YT,YT,YT,YF,YF,YF,YF,YF,YF,YF,YF,YF,YF,YF,YF,YF,YF,YF,YF,YF,YF,YF,YF,YF,YF,YF,YF,YF,YF,YF,YF,YF] rfl rfl (any_of HT_.out (by kernel_rfl)) (fun _ _ _ h => h) (Or.inl ⟨by rfl,?_⟩) ?_ ?_
                rotate_left
                ·intro w'
                 go_simp
                 with_reducible rfl
                rotate_left
                ·simp only [Act.put,Ya,Yb,Yc,i64_w,i32_w]
                 rfl
                refine pure_ (i := 5) (N := some 101) (v := ?_) (a' := ?_) #[YT,YT,YT,YT,YT,YT,YF,YF,YF,YF,YF,YF,YF,YF,YF,YF,YF,YF,YF,YF,YF,YF,YF,YF,YF,YF,YF,YF,YF,YF,YF,YF,YF,YF] rfl rfl (any_of HT_.out (by kernel_rfl)) (fun _ _ _ h => h) (Or.inl ⟨by rfl,?_⟩) ?_ ?_
                rotate_left
                ·intro w'
                 go_simp
                 with_reducible rfl
                rotate_left
                ·simp only [Act.put,Ya,Yb,Yc,i64_w,i32_w]
                 rfl
                refine pure_ (i := 6) (N := some 102) (v := ?_) (a' := ?_) #[YT,YT,YT,YT,YT,YT,YT,YF,YF,YF,YF,YF,YF,YF,YF,YF,YF,YF,YF,YF,YF,YF,YF,YF,YF,YF,YF,YF,YF,YF,YF,YF,YF,YF] rfl rfl (any_of HT_.out (by kernel_rfl)) (fun _ _ _ h => h) (Or.inl ⟨by rfl,?_⟩) ?_ ?_
                rotate_left
                ·intro w'
                 go_simp
                 with_reducible rfl
                rotate_left
                ·simp only [Act.put,Ya,Yb,Yc,i64_w,i32_w]
                 rfl
                refine pure_ (i := 7) (N := some 103) (v := ?_) (a' := ?_) #[YT,YT,YT,YT,YT,YT,YT,YT,YF,YF,YF,YF,YF,YF,YF,YF,YF,YF,YF,YF,YF,YF,YF,YF,YF,YF,YF,YF,YF,YF,YF,YF,YF,YF] rfl rfl (any_of HT_.out (by kernel_rfl)) (fun _ _ _ h => h) (Or.inl ⟨by rfl,?_⟩) ?_ ?_
                rotate_left
                ·intro w'
                 go_simp
                 with_reducible rfl
                rotate_left
                ·simp only [Act.put,Ya,Yb,Yc,i64_w,i32_w]
                 rfl
                refine pure_ (i := 8) (N := some 104) (v := ?_) (a' := ?_) #[YT,YT,YT,YT,YT,YT,YT,YT,YT,YF,YF,YF,YF,YF,YF,YF,YF,YF,YF,YF,YF,YF,YF,YF,YF,YF,YF,YF,YF,YF,YF,YF,YF,YF] rfl rfl (any_of HT_.out (by kernel_rfl)) (fun _ _ _ h => h) (Or.inl ⟨by rfl,?_⟩) ?_ ?_
                rotate_left
                ·intro w'
                 go_simp
                 with_reducible rfl
                rotate_left
                ·simp only [Act.put,Ya,Yb,Yc,i64_w,i32_w]
                 rfl
                refine pure_ (i := 9) (N := some 105) (v := ?_) (a' := ?_) #[YT,YT,YT,YT,YT,YT,YT,YT,YT,YT,YF,YF,YF,YF,YF,YF,YF,YF,YF,YF,YF,YF,YF,YF,YF,YF,YF,YF,YF,YF,YF,YF,YF,YF] rfl rfl (any_of HT_.out (by kernel_rfl)) (fun _ _ _ h => h) (Or.inl ⟨by rfl,?_⟩) ?_ ?_
                rotate_left
                ·intro w'
                 go_simp
                 with_reducible rfl
                rotate_left
                ·simp only [Act.put,Ya,Yb,Yc,i64_w,i32_w]
                 rfl
                refine pure_ (i := 10) (N := some 106) (v := ?_) (a' := ?_) #[YT,YT,YT,YT,YT,YT,YT,YT,YT,YT,YT,YF,YF,YF,YF,YF,YF,YF,YF,YF,YF,YF,YF,YF,YF,YF,YF,YF,YF,YF,YF,YF,YF,YF] rfl rfl (any_of HT_.out (by kernel_rfl)) (fun _ _ _ h => h) (Or.inl ⟨by rfl,?_⟩) ?_ ?_
                rotate_left
                ·intro w'
                 go_simp
                 with_reducible rfl
                rotate_left
                ·simp only [Act.put,Ya,Yb,Yc,i64_w,i32_w]
                 rfl
                refine pure_ (i := 11) (N := some 107) (v := ?_) (a' := ?_) #[YT,YT,YT,YT,YT,YT,YT,YT,YT,YT,YT,YT,YF,YF,YF,YF,YF,YF,YF,YF,YF,YF,YF,YF,YF,YF,YF,YF,YF,YF,YF,YF,YF,YF] rfl rfl (any_of HT_.out (by kernel_rfl)) (fun _ _ _ h => h) (Or.inl ⟨by rfl,?_⟩) ?_ ?_
                rotate_left
                ·intro w'
                 go_simp
                 with_reducible rfl
                rotate_left
                ·simp only [Act.put,Ya,Yb,Yc,i64_w,i32_w]
                 rfl
                refine pure_ (i := 12) (N := some 108) (v := ?_) (a' := ?_) #[YT,YT,YT,YT,YT,YT,YT,YT,YT,YT,YT,YT,YT,YF,YF,YF,YF,YF,YF,YF,YF,YF,YF,YF,YF,YF,YF,YF,YF,YF,YF,YF,YF,YF] rfl rfl (any_of HT_.out (by kernel_rfl)) (fun _ _ _ h => h) (Or.inl ⟨by rfl,?_⟩) ?_ ?_
                rotate_left
                ·intro w'
                 go_simp
                 with_reducible rfl
                rotate_left
                ·simp only [Act.put,Ya,Yb,Yc,i64_w,i32_w]
                 rfl
                refine pure_ (i := 13) (N := some 109) (v := ?_) (a' := ?_) #[YT,YT,YT,YT,YT,YT,YT,YT,YT,YT,YT,YT,YT,YT,YF,YF,YF,YF,YF,YF,YF,YF,YF,YF,YF,YF,YF,YF,YF,YF,YF,YF,YF,YF] rfl rfl (any_of HT_.out (by kernel_rfl)) (fun _ _ _ h => h) (Or.inl ⟨by rfl,?_⟩) ?_ ?_
                rotate_left
                ·intro w'
                 go_simp
                 with_reducible rfl
                rotate_left
                ·simp only [Act.put,Ya,Yb,Yc,i64_w,i32_w]
                 rfl
                refine pure_ (i := 14) (N := some 110) (v := ?_) (a' := ?_) #[YT,YT,YT,YT,YT,YT,YT,YT,YT,YT,YT,YT,YT,YT,YT,YF,YF,YF,YF,YF,YF,YF,YF,YF,YF,YF,YF,YF,YF,YF,YF,YF,YF,YF] rfl rfl (any_of HT_.out (by kernel_rfl)) (fun _ _ _ h => h) (Or.inl ⟨by rfl,?_⟩) ?_ ?_
                rotate_left
                ·intro w'
                 go_simp
                 with_reducible rfl
                rotate_left
                ·simp only [Act.put,Ya,Yb,Yc,i64_w,i32_w]
                 rfl
                refine pure_ (i := 17) (N := some 113) (v := ?_) (a' := ?_) #[YT,YT,YT,YT,YT,YT,YT,YT,YT,YT,YT,YT,YT,YT,YT,YF,YF,YT,YF,YF,YF,YF,YF,YF,YF,YF,YF,YF,YF,YF,YF,YF,YF,YF] rfl rfl (any_of HT_.out (by kernel_rfl)) (fun _ _ _ h => h) (Or.inl ⟨by rfl,?_⟩) ?_ ?_
                rotate_left
                ·intro w'
                 go_simp
                 with_reducible rfl
                rotate_left
                ·simp only [Act.put,Ya,Yb,Yc,i64_w,i32_w]
                 rfl
                refine pure_ (i := 18) (N := some 114) (v := ?_) (a' := ?_) #[YT,YT,YT,YT,YT,YT,YT,YT,YT,YT,YT,YT,YT,YT,YT,YF,YF,YT,YT,YF,YF,YF,YF,YF,YF,YF,YF,YF,YF,YF,YF,YF,YF,YF] rfl rfl (any_of HT_.out (by kernel_rfl)) (fun _ _ _ h => h) (Or.inl ⟨by rfl,?_⟩) ?_ ?_
                rotate_left
                ·intro w'
                 go_simp
                 with_reducible rfl
                rotate_left
                ·simp only [Act.put,Ya,Yb,Yc,i64_w,i32_w]
                 rfl
                refine take_ (i := 15) (N := some 111) (v := ?_) (a' := ?_) #[YT,YT,YT,YT,YT,YT,YT,YT,YT,YT,YT,YT,YT,YT,YT,YT,YF,YT,YT,YF,YF,YF,YF,YF,YF,YF,YF,YF,YF,YF,YF,YF,YF,YF] rfl rfl (take_ofW HT_.out HW_.out (by kernel_rfl)) (fun _ _ _ h => h) (Or.inl ⟨by rfl,?_⟩) hHeld ?_ ?_
                rotate_left
                ·rintro w' ⟨s0,s1⟩
                 go_simp
                 with_reducible rfl
                rotate_left
                ·simp only [Act.put,Ya,Yb,Yc,i64_w,i32_w]
                 rfl
                refine take_ (i := 19) (N := some 115) (v := ?_) (a' := ?_) #[YT,YT,YT,YT,YT,YT,YT,YT,YT,YT,YT,YT,YT,YT,YT,YT,YF,YT,YT,YT,YF,YF,YF,YF,YF,YF,YF,YF,YF,YF,YF,YF,YF,YF] rfl rfl (take_ofW HT_.out HW_.out (by kernel_rfl)) (fun _ _ _ h => h) (Or.inl ⟨by rfl,?_⟩) hHeld ?_ ?_
                rotate_left
                ·rintro w' ⟨s0,s1⟩
                 go_simp
                 with_reducible rfl
                rotate_left
                ·simp only [Act.put,Ya,Yb,Yc,i64_w,i32_w]
                 rfl
                refine one_ (i := 16) (N := some 112) #[YT,YT,YT,YT,YT,YT,YT,YT,YT,YT,YT,YT,YT,YT,YT,YT,YT,YT,YT,YT,YF,YF,YF,YF,YF,YF,YF,YF,YF,YF,YF,YF,YF,YF] rfl rfl (one_of HT_.out (by kernel_rfl)) (by decide) (fun K hK => ?_)
                refine goes_ Try.func18 (by kernel_rfl) rfl #[.slice Ao27 t421.length co27,.int .i64 a3,.agg #[.int .i64 0,.int .i64 0]] (by rfl) rfl rfl Y8 ?_
                with_reducible refine (override_Value.calls kj22 _ _ t421 a3 0 0 t433 t434 _ ?side1 ?side2 A45.out).mono ?_
                (case side1 => repeat (first | exact (Kd.R_reads' HO_12.out).2.2 | (with_reducible refine Kd.C_alloc ?_ _) | (with_reducible refine Kd.C_drewN ?_ _) | (with_reducible refine Kd.C_drew ?_)))
                (case side2 => exact (Kd.R_reads' HO_12.out).2.1)
                rintro e w56 ⟨rfl,hb⟩
                refine ⟨_,rfl,?_⟩
                have n0_ := Yd (Kd.R_below (Y5 HO_12.out) hb)
                have n1_ := Yd (Kd.R_below (Y5 HO430.out) hb)
                have n2_ := Yd (blk_below (g := gb420) (o := .cells #[.string (⟨#[122,122,122]⟩ : ByteArray),.int .i64 a1,.int .i64 a2,.int .i64 3,.int .i64 16,.int .i64 x9_2] 26 (0,0)) (Y6 BK420.out) hb)
                have n3_ := Yd (blk_below (g := gb431) (o := .cells #[.int .i64 0,.int .i64 0] 24 (0,0)) (Y6 BK431.out) hb)
                have n4_ := Yd (below_step (by repeat (first | (with_reducible first | exact HB.out | apply below_alloc | apply Y15 | apply below_drew1 | refine below_set ?_ GE420.out | refine below_set ?_ GE431.out) | exact HB.out)) hb)
                clear HO_12
                clear HO430
                clear BK420
                clear BK431
                clear HB
                have HO_12 := n0_
                have HO430 := n1_
                have BK420 := n2_
                have BK431 := n3_
                have HB := n4_
                clear n0_ n1_ n2_ n3_ n4_
                (try clear hb)
                (try clear hb2)
                (try clear hk)
                (try clear hi)
                refine hK.out _ _ ⟨(blk_cell BK431.out 0).trans rfl,(blk_cell BK431.out 1).trans rfl⟩ (fun hHeld => ?_)
                clear hK K
                refine norm_ (a' := ?_) ?_ ?_
                rotate_left
                ·show Act.put _ (some 112) _ = _
                 simp only [Act.put,Ya,Yb,Yc,i64_w,i32_w]
                 rfl
                refine one_ (i := 20) (N := some 116) #[YT,YT,YT,YT,YT,YT,YT,YT,YT,YT,YT,YT,YT,YT,YT,YT,YT,YT,YT,YT,YT,YF,YF,YF,YF,YF,YF,YF,YF,YF,YF,YF,YF,YF] rfl rfl (one_of HT_.out (by kernel_rfl)) (by decide) (fun K hK => ?_)
                refine goes_ Try.func18 (by kernel_rfl) rfl #[.slice A0 l0.length c0,.int .i64 a3,.agg #[.int .i64 0,.int .i64 0]] (by rfl) rfl rfl Y8 ?_
                with_reducible refine (override_Value.calls kj22 _ _ l0 a3 0 0 t435 t436 _ ?side1 ?side2 A46.out).mono ?_
                (case side1 => exact Y11 (Kd.C_below HR0.out HB.out))
                (case side2 => exact HC0.out)
                rintro e w57 ⟨rfl,hb⟩
                refine ⟨_,rfl,?_⟩
                have n0_ := Yd (Kd.R_below (Y5 HO_12.out) hb)
                have n1_ := Yd (Kd.R_below (Y5 HO430.out) hb)
                have n2_ := Yd (blk_below (g := gb420) (o := .cells #[.string (⟨#[122,122,122]⟩ : ByteArray),.int .i64 a1,.int .i64 a2,.int .i64 3,.int .i64 16,.int .i64 x9_2] 26 (0,0)) (Y6 BK420.out) hb)
                have n3_ := Yd (blk_below (g := gb431) (o := .cells #[.int .i64 0,.int .i64 0] 24 (0,0)) (Y6 BK431.out) hb)
                have n4_ := Yd (below_step (by repeat (first | (with_reducible first | exact HB.out | apply below_alloc | apply Y15 | apply below_drew1 | refine below_set ?_ GE420.out | refine below_set ?_ GE431.out) | exact HB.out)) hb)
                clear HO_12
                clear HO430
                clear BK420
                clear BK431
                clear HB
                have HO_12 := n0_
                have HO430 := n1_
                have BK420 := n2_
                have BK431 := n3_
                have HB := n4_
                clear n0_ n1_ n2_ n3_ n4_
                (try clear hb)
                (try clear hb2)
                (try clear hk)
                (try clear hi)
                obtain ⟨Ao58,co58,eo58⟩ := Kd.R_slice HO430.out
                (first | subst eo58 | (injection eo58 with f1_ f2_ f3_;have f4_ := f1_.symm;have f5_ := f3_.symm;clear f1_ f2_ f3_;subst f4_;subst f5_))
                refine hK.out _ _ ⟨(blk_cell BK431.out 0).trans rfl,(blk_cell BK431.out 1).trans rfl⟩ (fun hHeld => ?_)
                clear hK K
                refine norm_ (a' := ?_) ?_ ?_
                rotate_left
                ·show Act.put _ (some 116) _ = _
                 simp only [Act.put,Ya,Yb,Yc,i64_w,i32_w]
                 rfl
                refine pure_ (i := 21) (N := some 117) (v := ?_) (a' := ?_) #[YT,YT,YT,YT,YT,YT,YT,YT,YT,YT,YT,YT,YT,YT,YT,YT,YT,YT,YT,YT,YT,YT,YF,YF,YF,YF,YF,YF,YF,YF,YF,YF,YF,YF] rfl rfl (any_of HT_.out (by kernel_rfl)) (fun _ _ _ h => h) (Or.inl ⟨by rfl,?_⟩) ?_ ?_
                rotate_left
                ·intro w'
                 go_simp
                 with_reducible rfl
                rotate_left
                ·simp only [Act.put,Ya,Yb,Yc,i64_w,i32_w]
                 rfl
                refine pure_ (i := 22) (N := some 118) (v := ?_) (a' := ?_) #[YT,YT,YT,YT,YT,YT,YT,YT,YT,YT,YT,YT,YT,YT,YT,YT,YT,YT,YT,YT,YT,YT,YT,YF,YF,YF,YF,YF,YF,YF,YF,YF,YF,YF] rfl rfl (any_of HT_.out (by kernel_rfl)) (fun _ _ _ h => h) (Or.inl ⟨by rfl,?_⟩) ?_ ?_
                rotate_left
                ·intro w'
                 go_simp
                 with_reducible rfl
                rotate_left
                ·simp only [Act.put,Ya,Yb,Yc,i64_w,i32_w]
                 rfl
                refine pure_ (i := 23) (N := some 119) (v := ?_) (a' := ?_) #[YT,YT,YT,YT,YT,YT,YT,YT,YT,YT,YT,YT,YT,YT,YT,YT,YT,YT,YT,YT,YT,YT,YT,YT,YF,YF,YF,YF,YF,YF,YF,YF,YF,YF] rfl rfl (any_of HT_.out (by kernel_rfl)) (fun _ _ _ h => h) (Or.inl ⟨by rfl,?_⟩) ?_ ?_
                rotate_left
                ·intro w'
                 go_simp
                 with_reducible rfl
                rotate_left
                ·simp only [Act.put,Ya,Yb,Yc,i64_w,i32_w]
                 rfl
                refine pure_ (i := 24) (N := some 120) (v := ?_) (a' := ?_) #[YT,YT,YT,YT,YT,YT,YT,YT,YT,YT,YT,YT,YT,YT,YT,YT,YT,YT,YT,YT,YT,YT,YT,YT,YT,YF,YF,YF,YF,YF,YF,YF,YF,YF] rfl rfl (any_of HT_.out (by kernel_rfl)) (fun _ _ _ h => h) (Or.inl ⟨by rfl,?_⟩) ?_ ?_
                rotate_left
                ·intro w'
                 go_simp
                 with_reducible rfl
                rotate_left
                ·simp only [Act.put,Ya,Yb,Yc,i64_w,i32_w]
                 rfl
                refine pure_ (i := 25) (N := some 121) (v := ?_) (a' := ?_) #[YT,YT,YT,YT,YT,YT,YT,YT,YT,YT,YT,YT,YT,YT,YT,YT,YT,YT,YT,YT,YT,YT,YT,YT,YT,YT,YF,YF,YF,YF,YF,YF,YF,YF] rfl rfl (any_of HT_.out (by kernel_rfl)) (fun _ _ _ h => h) (Or.inl ⟨by rfl,?_⟩) ?_ ?_
                rotate_left
                ·intro w'
                 go_simp
                 with_reducible rfl
                rotate_left
                ·simp only [Act.put,Ya,Yb,Yc,i64_w,i32_w]
                 rfl
                refine pure_ (i := 26) (N := some 122) (v := ?_) (a' := ?_) #[YT,YT,YT,YT,YT,YT,YT,YT,YT,YT,YT,YT,YT,YT,YT,YT,YT,YT,YT,YT,YT,YT,YT,YT,YT,YT,YT,YF,YF,YF,YF,YF,YF,YF] rfl rfl (any_of HT_.out (by kernel_rfl)) (fun _ _ _ h => h) (Or.inl ⟨by rfl,?_⟩) ?_ ?_
                rotate_left
                ·intro w'
                 go_simp
                 with_reducible rfl
                rotate_left
                ·simp only [Act.put,Ya,Yb,Yc,i64_w,i32_w]
                 rfl
                refine pure_ (i := 27) (N := some 123) (v := ?_) (a' := ?_) #[YT,YT,YT,YT,YT,YT,YT,YT,YT,YT,YT,YT,YT,YT,YT,YT,YT,YT,YT,YT,YT,YT,YT,YT,YT,YT,YT,YT,YF,YF,YF,YF,YF,YF] rfl rfl (any_of HT_.out (by kernel_rfl)) (fun _ _ _ h => h) (Or.inl ⟨by rfl,?_⟩) ?_ ?_
                rotate_left
                ·intro w'
                 go_simp
                 with_reducible rfl
                rotate_left
                ·simp only [Act.put,Ya,Yb,Yc,i64_w,i32_w]
                 rfl
                refine pure_ (i := 28) (N := some 124) (v := ?_) (a' := ?_) #[YT,YT,YT,YT,YT,YT,YT,YT,YT,YT,YT,YT,YT,YT,YT,YT,YT,YT,YT,YT,YT,YT,YT,YT,YT,YT,YT,YT,YT,YF,YF,YF,YF,YF] rfl rfl (any_of HT_.out (by kernel_rfl)) (fun _ _ _ h => h) (Or.inl ⟨by rfl,?_⟩) ?_ ?_
                rotate_left
                ·intro w'
                 go_simp
                 with_reducible rfl
                rotate_left
                ·simp only [Act.put,Ya,Yb,Yc,i64_w,i32_w]
                 rfl
                refine pure_ (i := 29) (N := some 125) (v := ?_) (a' := ?_) #[YT,YT,YT,YT,YT,YT,YT,YT,YT,YT,YT,YT,YT,YT,YT,YT,YT,YT,YT,YT,YT,YT,YT,YT,YT,YT,YT,YT,YT,YT,YF,YF,YF,YF] rfl rfl (any_of HT_.out (by kernel_rfl)) (fun _ _ _ h => h) (Or.inl ⟨by rfl,?_⟩) ?_ ?_
                rotate_left
                ·intro w'
                 go_simp
                 with_reducible rfl
                rotate_left
                ·simp only [Act.put,Ya,Yb,Yc,i64_w,i32_w]
                 rfl
                refine pure_ (i := 30) (N := some 126) (v := ?_) (a' := ?_) #[YT,YT,YT,YT,YT,YT,YT,YT,YT,YT,YT,YT,YT,YT,YT,YT,YT,YT,YT,YT,YT,YT,YT,YT,YT,YT,YT,YT,YT,YT,YT,YF,YF,YF] rfl rfl (any_of HT_.out (by kernel_rfl)) (fun _ _ _ h => h) (Or.inl ⟨by rfl,?_⟩) ?_ ?_
                rotate_left
                ·intro w'
                 go_simp
                 with_reducible rfl
                rotate_left
                ·simp only [Act.put,Ya,Yb,Yc,i64_w,i32_w]
                 rfl
                refine one_ (i := 31) (N := some 127) #[YT,YT,YT,YT,YT,YT,YT,YT,YT,YT,YT,YT,YT,YT,YT,YT,YT,YT,YT,YT,YT,YT,YT,YT,YT,YT,YT,YT,YT,YT,YT,YT,YF,YF] rfl rfl (one_of HT_.out (by kernel_rfl)) (by decide) (fun K hK => ?_)
                refine goes_ Try.func12 (by kernel_rfl) rfl #[.slice Ao58 t427.length co58,.slice A0 l0.length c0] (by rfl) rfl rfl Y8 ?_
                with_reducible refine (plenumref34_Same.calls kj22 _ _ t427 _ _ l0 t437 _ ?side1 ?side2 ?side3 ?side4 A49.out).mono ?_
                (case side1 => repeat (first | exact (Kd.R_reads' HO430.out).2.2 | (with_reducible refine Kd.C_alloc ?_ _) | (with_reducible refine Kd.C_drewN ?_ _) | (with_reducible refine Kd.C_drew ?_)))
                (case side2 => exact (Kd.R_reads' HO430.out).2.1)
                (case side3 => exact Y11 (Kd.C_below HR0.out HB.out))
                (case side4 => exact HC0.out)
                rintro e w' ⟨rfl,⟨nd,rfl⟩⟩
                refine ⟨_,rfl,?_⟩
                refine hK.out _ _ ⟨(blk_cell BK431.out 0).trans rfl,(blk_cell BK431.out 1).trans rfl⟩ (fun hHeld => ?_)
                clear hK K
                refine norm_ (a' := ?_) ?_ ?_
                rotate_left
                ·show Act.put _ (some 127) _ = _
                 simp only [Act.put,Ya,Yb,Yc,i64_w,i32_w]
                 rfl
                refine pure_ (i := 32) (N := some 128) (v := ?_) (a' := ?_) #[YT,YT,YT,YT,YT,YT,YT,YT,YT,YT,YT,YT,YT,YT,YT,YT,YT,YT,YT,YT,YT,YT,YT,YT,YT,YT,YT,YT,YT,YT,YT,YT,YT,YF] rfl rfl (any_of HT_.out (by kernel_rfl)) (fun _ _ _ h => h) (Or.inl ⟨by rfl,?_⟩) ?_ ?_
                rotate_left
                ·intro w'
                 go_simp
                 with_reducible rfl
                rotate_left
                ·simp only [Act.put,Ya,Yb,Yc,i64_w,i32_w]
                 rfl
                refine pure_ (i := 33) (N := some 8) (v := ?_) (a' := ?_) #[YT,YT,YT,YT,YT,YT,YT,YT,YT,YT,YT,YT,YT,YT,YT,YT,YT,YT,YT,YT,YT,YT,YT,YT,YT,YT,YT,YT,YT,YT,YT,YT,YT,YT] rfl rfl (any_of HT_.out (by kernel_rfl)) (fun _ _ _ h => h) (Or.inl ⟨by rfl,?_⟩) ?_ ?_
                rotate_left
                ·intro w'
                 go_simp
                 with_reducible rfl
                rotate_left
                ·simp only [Act.put,Ya,Yb,Yc,i64_w,i32_w]
                 rfl
                refine done_ (done_of HT_.out (by kernel_rfl)) ?_
                try go_wp2
                go_ret
                exact ⟨by first | rfl | (simp [errW_none,errW_some] <;> rfl) | (simp [*,errW_none,errW_some] <;> rfl),by repeat (first | (with_reducible first | exact HB.out | apply below_alloc | apply Y15 | apply below_drew1 | refine below_set ?_ GE420.out | refine below_set ?_ GE431.out) | exact HB.out)⟩
               ·rw [if_neg c48] at H
                have c48b0 : (t428 == 0) = false := beq_eq_false_iff_ne.mpr c48
                have c48b1 : (t428 != 0) = true := bne_iff_ne.mpr c48
                exact absurd H (by simp)
              ·rw [if_neg c47] at H
               have c47b0 : (t433 == t435 && (t434 == t436)) = false := by simpa using c47
               (try (have c47b1 : decide (t433 = t435 && (t434 == t436)) = false := by simpa using c47))
               (try (have c47b2 : (t433 == t435 && (t434 == t436)) = false := by simpa using c47))
               (try (have c47b3 : ¬ (t433 = t435 && (t434 == t436)) := by simpa using c47))
               clear c47
               exact absurd H (by simp)
            ·rw [if_neg c34] at H
             have c34b0 : (x15_22 == (decide (a3 < a2))) = false := by simpa using c34
             (try (have c34b1 : decide (x15_22 = (decide (a3 < a2))) = false := by simpa using c34))
             (try (have c34b2 : (x15_22 == (decide (a3 < a2))) = false := by simpa using c34))
             (try (have c34b3 : ¬ (x15_22 = (decide (a3 < a2))) := by simpa using c34))
             clear c34
             exact absurd H (by simp)
           ·rw [if_neg c33] at H
            have c33b0 : decide (a1 ≤ a3) = false := decide_eq_false c33
            clear c33
            by_cases c59 : (x15_22 == false) = true
            ·rw [if_pos c59] at H
             have c59b0 : (x15_22 == false) = true := c59
             (try (have c59b1 : decide (x15_22 = false) = true := by simpa using c59))
             (try (have c59b2 : (x15_22 == false) = true := by simpa using c59))
             clear c59
             by_cases c60 : x15_22 = true
             ·subst c60
              have H1 : (if t428 = 0 then ((plenumref34_Same.f kj22 t427 l0).bind fun t438 => (some t438)) else (none)) = some r := by rw [if_pos rfl] at H;exact H
              clear H
              have H := H1
              clear H1
              by_cases c61 : t428 = 0
              ·rw [if_pos c61] at H
               have c61b0 : (t428 == 0) = true := beq_iff_eq.mpr c61
               have c61b1 : (t428 != 0) = false := bne_eq_false_iff_eq.mpr c61
               clear c61
               replace H := Option.bind_eq_some_iff.mp H
               obtain ⟨t438,A620,H⟩ := H
               replace H : (some t438) = some r := H
               have A62 := Yd A620
               clear A620
               obtain rfl := Option.some.inj H
               try go_wp2_with (first | ((with_reducible refine gate_callee (f := 9) rfl ?_);refine goesL_ (some 92) rfl rfl Try.func9 (by kernel_rfl) rfl #[.slice Ao27 t421.length co27,.string (⟨#[122,122,122]⟩ : ByteArray)] rfl Y8 ?_;(with_reducible refine (override_Remove.calls kj22 _ _ t421 (⟨#[122,122,122]⟩ : ByteArray) t427 t428 _ ?side1 ?side2 A32.out).mono ?_);(case side1 => repeat (first | exact (Kd.R_reads' HO_12.out).2.2 | (with_reducible refine Kd.C_alloc ?_ _) | (with_reducible refine Kd.C_drewN ?_ _) | (with_reducible refine Kd.C_drew ?_)));(case side2 => exact (Kd.R_reads' HO_12.out).2.1);rintro e w63 ⟨v429,rfl,ho0,hb⟩;refine ⟨_,rfl,?_⟩;have n0_ := Yd (Kd.R_elder' (Y5 HO_12.out) (Kd.R_base ho0) hb);have n1_ := Yd (Kd.R_lower (Kd.R_newB (Kd.R_new' ho0 (Kd.R_lt (Y5 HO_12.out))) (g := gb420) (o := .cells #[.string (⟨#[122,122,122]⟩ : ByteArray),.int .i64 a1,.int .i64 a2,.int .i64 3,.int .i64 16,.int .i64 x9_2] 26 (0,0)) (Y6 BK420.out)) (below_size (by first | exact Y4 HB.out GE420.out | exact Y3 HB.out)));have n2_ := Yd (blk_below (g := gb420) (o := .cells #[.string (⟨#[122,122,122]⟩ : ByteArray),.int .i64 a1,.int .i64 a2,.int .i64 3,.int .i64 16,.int .i64 x9_2] 26 (0,0)) (Y6 BK420.out) hb);have n3_ := Yd (below_step (by first | exact Y4 HB.out GE420.out | exact Y3 HB.out) hb);clear HO_12;clear BK420;clear HB;have HO_12 := n0_;have HO430 := n1_;have BK420 := n2_;have HB := n3_;clear n0_ n1_ n2_ n3_;(try clear hb);(try clear hb2);(try clear hk);(try clear hi);(try clear ho0)) | ((with_reducible refine gate_dst (N := 18) rfl ?_);refine box_event ?hg (N := 18) ?hd (cs := #[.int .i64 0,.int .i64 0]) (t := 24) ?hr ?_;(case hd => rfl);(case hg => rfl);(case hr => first | (go_simp;done) | (go_simp;rfl));intro gb431 hg w64 hbox hb;have n0_ := Yd (Kd.R_below (Y5 HO_12.out) hb);have n1_ := Yd (Kd.R_below (Y5 HO430.out) hb);have n2_ := Yd (blk_below (g := gb420) (o := .cells #[.string (⟨#[122,122,122]⟩ : ByteArray),.int .i64 a1,.int .i64 a2,.int .i64 3,.int .i64 16,.int .i64 x9_2] 26 (0,0)) (Y6 BK420.out) hb);have n3_ := Yd (below_step (by first | exact Y4 HB.out GE420.out | exact Y3 HB.out) hb);have n4_ := Yd (hbox);have n5_ := Yd ((by rw [hg];exact (below_size (by first | exact Y4 HB.out GE420.out | exact Y3 HB.out)) : w.heap.size ≤ gb431));have n6_ := Yd ((by rw [hg];exact (below_size (by first | exact Y4 HB.out GE420.out | exact Y3 HB.out)) : w.heap.size ≤ gb431));have n7_ := Yd ((by rw [hg];exact Nat.ne_of_lt (blk_lt (g := gb420) (o := .cells #[.string (⟨#[122,122,122]⟩ : ByteArray),.int .i64 a1,.int .i64 a2,.int .i64 3,.int .i64 16,.int .i64 x9_2] 26 (0,0)) (Y6 BK420.out)) : gb420 ≠ gb431));have n8_ := Yd ((by rw [hg];exact Nat.ne_of_gt (blk_lt (g := gb420) (o := .cells #[.string (⟨#[122,122,122]⟩ : ByteArray),.int .i64 a1,.int .i64 a2,.int .i64 3,.int .i64 16,.int .i64 x9_2] 26 (0,0)) (Y6 BK420.out)) : gb431 ≠ gb420));clear HO_12;clear HO430;clear BK420;clear HB;have HO_12 := n0_;have HO430 := n1_;have BK420 := n2_;have HB := n3_;have BK431 := n4_;have GW431 := n5_;have GE431 := n6_;have NB420_431 := n7_;have NB431_420 := n8_;clear n0_ n1_ n2_ n3_ n4_ n5_ n6_ n7_ n8_;clear hb hbox hg;have hnb65 := NB431_420.out;have hnc65 := NB420_431.out;have hcz66_0 : w64.cell? ⟨gb431,0,none⟩ = some (.int .i64 0) := (blk_cell BK431.out 0).trans rfl;have hcz66_1 : w64.cell? ⟨gb431,1,none⟩ = some (.int .i64 0) := (blk_cell BK431.out 1).trans rfl;have hfz66_0 := blk_frozen BK431.out 0;have hfz66_1 := blk_frozen BK431.out 1))
               have n0_ : Aside0 (Kd.R k26 26 ((w64.setCell ⟨gb431,0,none⟩ (.int .i64 0)).setCell ⟨gb431,1,none⟩ (.int .i64 0)) w.heap.size (fun k_ => some k_ ≠ (v429 : Value).ownBlock ∧ k_ ≠ gb420) (.slice Ao27 t421.length co27) t421) := ⟨by (with_reducible repeat (first | apply Kd.R_alloc | apply Kd.R_drewN | apply Kd.R_drew));exact Kd.R_mono (Kd.R_far (p := ⟨gb431,1,none⟩) (Kd.R_far (p := ⟨gb431,0,none⟩) (Kd.R_types HO_12.out BK431.out (by decide)) (fun _ hk => hk.2) (.int .i64 0)) (fun _ hk => hk.2) (.int .i64 0)) (fun _ hk => ⟨hk.1.2,hk.1.1⟩)⟩
               have n1_ : Aside0 (Kd.R k26 26 ((w64.setCell ⟨gb431,0,none⟩ (.int .i64 0)).setCell ⟨gb431,1,none⟩ (.int .i64 0)) w.heap.size (fun k_ => some k_ ≠ (.slice Ao27 t421.length co27 : Value).ownBlock ∧ k_ ≠ gb420) v429 t427) := ⟨by (with_reducible repeat (first | apply Kd.R_alloc | apply Kd.R_drewN | apply Kd.R_drew));exact Kd.R_mono (Kd.R_far (p := ⟨gb431,1,none⟩) (Kd.R_far (p := ⟨gb431,0,none⟩) (Kd.R_types HO430.out BK431.out (by decide)) (fun _ hk => hk.2) (.int .i64 0)) (fun _ hk => hk.2) (.int .i64 0)) (fun _ hk => ⟨hk.1.1.2,hk.1.2⟩)⟩
               have n2_ : Aside0 (((w64.setCell ⟨gb431,0,none⟩ (.int .i64 0)).setCell ⟨gb431,1,none⟩ (.int .i64 0)).heap[gb420]? = some (.cells #[.string (⟨#[122,122,122]⟩ : ByteArray),.int .i64 a1,.int .i64 a2,.int .i64 3,.int .i64 16,.int .i64 x9_2] 26 (0,0))) := ⟨by (with_reducible repeat (first | refine blk_drewN ?_ _ | refine blk_drew ?_ | refine blk_alloc ?_ _));refine blk_far ?_ NB420_431.out _;(with_reducible repeat (first | refine blk_drewN ?_ _ | refine blk_drew ?_ | refine blk_alloc ?_ _));refine blk_far ?_ NB420_431.out _;(with_reducible repeat (first | refine blk_drewN ?_ _ | refine blk_drew ?_ | refine blk_alloc ?_ _));exact BK420.out⟩
               have n3_ : Aside0 (((w64.setCell ⟨gb431,0,none⟩ (.int .i64 0)).setCell ⟨gb431,1,none⟩ (.int .i64 0)).heap[gb431]? = some (.cells #[.int .i64 0,.int .i64 0] 24 (0,0))) := ⟨by (with_reducible repeat (first | refine blk_drewN ?_ _ | refine blk_drew ?_ | refine blk_alloc ?_ _));refine blk_put (cs := #[.int .i64 0,.int .i64 0]) ?_ 1 _ rfl;(with_reducible repeat (first | refine blk_drewN ?_ _ | refine blk_drew ?_ | refine blk_alloc ?_ _));refine blk_put (cs := #[.int .i64 0,.int .i64 0]) ?_ 0 _ rfl;(with_reducible repeat (first | refine blk_drewN ?_ _ | refine blk_drew ?_ | refine blk_alloc ?_ _));exact BK431.out⟩
               have n4_ : Aside0 (Below w.heap.size w ((w64.setCell ⟨gb431,0,none⟩ (.int .i64 0)).setCell ⟨gb431,1,none⟩ (.int .i64 0))) := ⟨by repeat (first | (with_reducible first | exact HB.out | apply below_alloc | apply Y15 | apply below_drew1 | refine below_set ?_ GE420.out | refine below_set ?_ GE431.out) | exact HB.out)⟩
               (try clear HO_12)
               (try clear HO430)
               (try clear BK420)
               (try clear BK431)
               (try clear HB)
               generalize ((w64.setCell ⟨gb431,0,none⟩ (.int .i64 0)).setCell ⟨gb431,1,none⟩ (.int .i64 0)) = w67 at n0_ n1_ n2_ n3_ n4_ ⊢
               have HO_12 := n0_
               have HO430 := n1_
               have BK420 := n2_
               have BK431 := n3_
               have HB := n4_
               clear n0_ n1_ n2_ n3_ n4_
               have n0_ := Yd (Kd.R_drew HO_12.out)
               have n1_ := Yd (Kd.R_drew HO430.out)
               have n2_ := Yd (blk_drew BK420.out)
               have n3_ := Yd (blk_drew BK431.out)
               have n4_ := Yd (below_drew1 HB.out)
               clear HO_12
               clear HO430
               clear BK420
               clear BK431
               clear HB
               have HO_12 := n0_
               have HO430 := n1_
               have BK420 := n2_
               have BK431 := n3_
               have HB := n4_
               clear n0_ n1_ n2_ n3_ n4_
               obtain ⟨Ao69,co69,eo69⟩ := Kd.R_slice HO430.out
               (first | subst eo69 | (injection eo69 with f1_ f2_ f3_;have f4_ := f1_.symm;have f5_ := f3_.symm;clear f1_ f2_ f3_;subst f4_;subst f5_))
               refine start_ (n := 34) (S := fun w' => True) (ds := []) #[YF,YF,YF,YF,YF,YF,YF,YF,YF,YF,YF,YF,YF,YF,YF,YF,YF,YF,YF,YF,YF,YF,YF,YF,YF,YF,YF,YF,YF,YF,YF,YF,YF,YF] (by kernel_rfl) rfl rfl trivial (fun hHeld => ?_);refine with_tabW plenumlaw34_OverrideNewest.tab20 plenumlaw34_OverrideNewest.bits20 (fun HT_ HW_ => ?_)
               generalize w67.drew = w68 at HO_12 HO430 BK420 BK431 HB hHeld ⊢
               refine pure_ (i := 0) (N := some 96) (v := ?_) (a' := ?_) #[YT,YF,YF,YF,YF,YF,YF,YF,YF,YF,YF,YF,YF,YF,YF,YF,YF,YF,YF,YF,YF,YF,YF,YF,YF,YF,YF,YF,YF,YF,YF,YF,YF,YF] rfl rfl (any_of HT_.out (by kernel_rfl)) (fun _ _ _ h => h) (Or.inl ⟨by rfl,?_⟩) ?_ ?_
               rotate_left
               ·intro w'
                go_simp
                with_reducible rfl
               rotate_left
               ·simp only [Act.put,Ya,Yb,Yc,i64_w,i32_w]
                rfl
               refine pure_ (i := 1) (N := some 97) (v := ?_) (a' := ?_) #[YT,YT,YF,YF,YF,YF,YF,YF,YF,YF,YF,YF,YF,YF,YF,YF,YF,YF,YF,YF,YF,YF,YF,YF,YF,YF,YF,YF,YF,YF,YF,YF,YF,YF] rfl rfl (any_of HT_.out (by kernel_rfl)) (fun _ _ _ h => h) (Or.inl ⟨by rfl,?_⟩) ?_ ?_
               rotate_left
               ·intro w'
                go_simp
                with_reducible rfl
               rotate_left
               ·simp only [Act.put,Ya,Yb,Yc,i64_w,i32_w]
                rfl
               refine pure_ (i := 2) (N := some 98) (v := ?_) (a' := ?_) #[YT,YT,YT,YF,YF,YF,YF,YF,YF,YF,YF,YF,YF,YF,YF,YF,YF,YF,YF,YF,YF,YF,YF,YF,YF,YF,YF,YF,YF,YF,YF,YF,YF,YF] rfl rfl (any_of HT_.out (by kernel_rfl)) (fun _ _ _ h => h) (Or.inl ⟨by rfl,?_⟩) ?_ ?_
               rotate_left
               ·intro w'
                go_simp
                with_reducible rfl
               rotate_left
               ·simp only [Act.put,Ya,Yb,Yc,i64_w,i32_w]
                rfl
               refine pure_ (i := 3) (N := some 99) (v := ?_) (a' := ?_) #[YT,YT,YT,YT,YF,YF,YF,YF,YF,YF,YF,YF,YF,YF,YF,YF,YF,YF,YF,YF,YF,YF,YF,YF,YF,YF,YF,YF,YF,YF,YF,YF,YF,YF] rfl rfl (any_of HT_.out (by kernel_rfl)) (fun _ _ _ h => h) (Or.inl ⟨by rfl,?_⟩) ?_ ?_
               rotate_left
               ·intro w'
                go_simp
                with_reducible rfl
               rotate_left
               ·simp only [Act.put,Ya,Yb,Yc,i64_w,i32_w]
                rfl
               refine pure_ (i := 4) (N := some 100) (v := ?_) (a' := ?_) #[YT,YT,YT,YT,YT,YF,YF,YF,YF,YF,YF,YF,YF,YF,YF,YF,YF,YF,YF,YF,YF,YF,YF,YF,YF,YF,YF,YF,YF,YF,YF,YF,YF,YF] rfl rfl (any_of HT_.out (by kernel_rfl)) (fun _ _ _ h => h) (Or.inl ⟨by rfl,?_⟩) ?_ ?_
               rotate_left
               ·intro w'
                go_simp
                with_reducible rfl
               rotate_left
               ·simp only [Act.put,Ya,Yb,Yc,i64_w,i32_w]
                rfl
               refine pure_ (i := 5) (N := some 101) (v := undef) (a' := ?_) #[YT,YT,YT,YT,YT,YT,YF,YF,YF,YF,YF,YF,YF,YF,YF,YF,YF,YF,YF,YF,YF,YF,YF,YF,YF,YF,YF,YF,YF,YF,YF,YF,YF,YF] rfl rfl (any_of HT_.out (by kernel_rfl)) (fun _ _ _ h => h) (Or.inr ⟨by rfl,rfl⟩) ?_ ?_
               rotate_left
               ·simp only [Act.put,Ya,Yb,Yc,i64_w,i32_w]
                rfl
               refine pure_ (i := 6) (N := some 102) (v := undef) (a' := ?_) #[YT,YT,YT,YT,YT,YT,YT,YF,YF,YF,YF,YF,YF,YF,YF,YF,YF,YF,YF,YF,YF,YF,YF,YF,YF,YF,YF,YF,YF,YF,YF,YF,YF,YF] rfl rfl (any_of HT_.out (by kernel_rfl)) (fun _ _ _ h => h) (Or.inr ⟨by rfl,rfl⟩) ?_ ?_
               rotate_left
               ·simp only [Act.put,Ya,Yb,Yc,i64_w,i32_w]
                rfl
               refine pure_ (i := 7) (N := some 103) (v := undef) (a' := ?_) #[YT,YT,YT,YT,YT,YT,YT,YT,YF,YF,YF,YF,YF,YF,YF,YF,YF,YF,YF,YF,YF,YF,YF,YF,YF,YF,YF,YF,YF,YF,YF,YF,YF,YF] rfl rfl (any_of HT_.out (by kernel_rfl)) (fun _ _ _ h => h) (Or.inr ⟨by rfl,rfl⟩) ?_ ?_
               rotate_left
               ·simp only [Act.put,Ya,Yb,Yc,i64_w,i32_w]
                rfl
               refine pure_ (i := 8) (N := some 104) (v := ?_) (a' := ?_) #[YT,YT,YT,YT,YT,YT,YT,YT,YT,YF,YF,YF,YF,YF,YF,YF,YF,YF,YF,YF,YF,YF,YF,YF,YF,YF,YF,YF,YF,YF,YF,YF,YF,YF] rfl rfl (any_of HT_.out (by kernel_rfl)) (fun _ _ _ h => h) (Or.inl ⟨by rfl,?_⟩) ?_ ?_
               rotate_left
               ·intro w'
                go_simp
                with_reducible rfl
               rotate_left
               ·simp only [Act.put,Ya,Yb,Yc,i64_w,i32_w]
                rfl
               refine pure_ (i := 9) (N := some 105) (v := ?_) (a' := ?_) #[YT,YT,YT,YT,YT,YT,YT,YT,YT,YT,YF,YF,YF,YF,YF,YF,YF,YF,YF,YF,YF,YF,YF,YF,YF,YF,YF,YF,YF,YF,YF,YF,YF,YF] rfl rfl (any_of HT_.out (by kernel_rfl)) (fun _ _ _ h => h) (Or.inl ⟨by rfl,?_⟩) ?_ ?_
               rotate_left
               ·intro w'
                go_simp
                with_reducible rfl
               rotate_left
               ·simp only [Act.put,Ya,Yb,Yc,i64_w,i32_w]
                rfl
               refine pure_ (i := 10) (N := some 106) (v := ?_) (a' := ?_) #[YT,YT,YT,YT,YT,YT,YT,YT,YT,YT,YT,YF,YF,YF,YF,YF,YF,YF,YF,YF,YF,YF,YF,YF,YF,YF,YF,YF,YF,YF,YF,YF,YF,YF] rfl rfl (any_of HT_.out (by kernel_rfl)) (fun _ _ _ h => h) (Or.inl ⟨by rfl,?_⟩) ?_ ?_
               rotate_left
               ·intro w'
                go_simp
                with_reducible rfl
               rotate_left
               ·simp only [Act.put,Ya,Yb,Yc,i64_w,i32_w]
                rfl
               refine pure_ (i := 11) (N := some 107) (v := ?_) (a' := ?_) #[YT,YT,YT,YT,YT,YT,YT,YT,YT,YT,YT,YT,YF,YF,YF,YF,YF,YF,YF,YF,YF,YF,YF,YF,YF,YF,YF,YF,YF,YF,YF,YF,YF,YF] rfl rfl (any_of HT_.out (by kernel_rfl)) (fun _ _ _ h => h) (Or.inl ⟨by rfl,?_⟩) ?_ ?_
               rotate_left
               ·intro w'
                go_simp
                with_reducible rfl
               rotate_left
               ·simp only [Act.put,Ya,Yb,Yc,i64_w,i32_w]
                rfl
               refine pure_ (i := 12) (N := some 108) (v := ?_) (a' := ?_) #[YT,YT,YT,YT,YT,YT,YT,YT,YT,YT,YT,YT,YT,YF,YF,YF,YF,YF,YF,YF,YF,YF,YF,YF,YF,YF,YF,YF,YF,YF,YF,YF,YF,YF] rfl rfl (any_of HT_.out (by kernel_rfl)) (fun _ _ _ h => h) (Or.inl ⟨by rfl,?_⟩) ?_ ?_
               rotate_left
               ·intro w'
                go_simp
                with_reducible rfl
               rotate_left
               ·simp only [Act.put,Ya,Yb,Yc,i64_w,i32_w]
                rfl
               refine pure_ (i := 13) (N := some 109) (v := undef) (a' := ?_) #[YT,YT,YT,YT,YT,YT,YT,YT,YT,YT,YT,YT,YT,YT,YF,YF,YF,YF,YF,YF,YF,YF,YF,YF,YF,YF,YF,YF,YF,YF,YF,YF,YF,YF] rfl rfl (any_of HT_.out (by kernel_rfl)) (fun _ _ _ h => h) (Or.inr ⟨by rfl,rfl⟩) ?_ ?_
               rotate_left
               ·simp only [Act.put,Ya,Yb,Yc,i64_w,i32_w]
                rfl
               refine pure_ (i := 14) (N := some 110) (v := undef) (a' := ?_) #[YT,YT,YT,YT,YT,YT,YT,YT,YT,YT,YT,YT,YT,YT,YT,YF,YF,YF,YF,YF,YF,YF,YF,YF,YF,YF,YF,YF,YF,YF,YF,YF,YF,YF] rfl rfl (any_of HT_.out (by kernel_rfl)) (fun _ _ _ h => h) (Or.inr ⟨by rfl,rfl⟩) ?_ ?_
               rotate_left
               ·simp only [Act.put,Ya,Yb,Yc,i64_w,i32_w]
                rfl
               refine pure_ (i := 15) (N := some 111) (v := undef) (a' := ?_) #[YT,YT,YT,YT,YT,YT,YT,YT,YT,YT,YT,YT,YT,YT,YT,YT,YF,YF,YF,YF,YF,YF,YF,YF,YF,YF,YF,YF,YF,YF,YF,YF,YF,YF] rfl rfl (any_of HT_.out (by kernel_rfl)) (fun _ _ _ h => h) (Or.inr ⟨by rfl,rfl⟩) ?_ ?_
               rotate_left
               ·simp only [Act.put,Ya,Yb,Yc,i64_w,i32_w]
                rfl
               refine pure_ (i := 16) (N := some 112) (v := undef) (a' := ?_) #[YT,YT,YT,YT,YT,YT,YT,YT,YT,YT,YT,YT,YT,YT,YT,YT,YT,YF,YF,YF,YF,YF,YF,YF,YF,YF,YF,YF,YF,YF,YF,YF,YF,YF] rfl rfl (any_of HT_.out (by kernel_rfl)) (fun _ _ _ h => h) (Or.inr ⟨by rfl,rfl⟩) ?_ ?_
               rotate_left
               ·simp only [Act.put,Ya,Yb,Yc,i64_w,i32_w]
                rfl
               refine pure_ (i := 17) (N := some 113) (v := undef) (a' := ?_) #[YT,YT,YT,YT,YT,YT,YT,YT,YT,YT,YT,YT,YT,YT,YT,YT,YT,YT,YF,YF,YF,YF,YF,YF,YF,YF,YF,YF,YF,YF,YF,YF,YF,YF] rfl rfl (any_of HT_.out (by kernel_rfl)) (fun _ _ _ h => h) (Or.inr ⟨by rfl,rfl⟩) ?_ ?_
               rotate_left
               ·simp only [Act.put,Ya,Yb,Yc,i64_w,i32_w]
                rfl
               refine pure_ (i := 18) (N := some 114) (v := undef) (a' := ?_) #[YT,YT,YT,YT,YT,YT,YT,YT,YT,YT,YT,YT,YT,YT,YT,YT,YT,YT,YT,YF,YF,YF,YF,YF,YF,YF,YF,YF,YF,YF,YF,YF,YF,YF] rfl rfl (any_of HT_.out (by kernel_rfl)) (fun _ _ _ h => h) (Or.inr ⟨by rfl,rfl⟩) ?_ ?_
               rotate_left
               ·simp only [Act.put,Ya,Yb,Yc,i64_w,i32_w]
                rfl
               refine pure_ (i := 19) (N := some 115) (v := undef) (a' := ?_) #[YT,YT,YT,YT,YT,YT,YT,YT,YT,YT,YT,YT,YT,YT,YT,YT,YT,YT,YT,YT,YF,YF,YF,YF,YF,YF,YF,YF,YF,YF,YF,YF,YF,YF] rfl rfl (any_of HT_.out (by kernel_rfl)) (fun _ _ _ h => h) (Or.inr ⟨by rfl,rfl⟩) ?_ ?_
               rotate_left
               ·simp only [Act.put,Ya,Yb,Yc,i64_w,i32_w]
                rfl
               refine pure_ (i := 20) (N := some 116) (v := undef) (a' := ?_) #[YT,YT,YT,YT,YT,YT,YT,YT,YT,YT,YT,YT,YT,YT,YT,YT,YT,YT,YT,YT,YT,YF,YF,YF,YF,YF,YF,YF,YF,YF,YF,YF,YF,YF] rfl rfl (any_of HT_.out (by kernel_rfl)) (fun _ _ _ h => h) (Or.inr ⟨by rfl,rfl⟩) ?_ ?_
               rotate_left
               ·simp only [Act.put,Ya,Yb,Yc,i64_w,i32_w]
                rfl
               refine pure_ (i := 21) (N := some 117) (v := undef) (a' := ?_) #[YT,YT,YT,YT,YT,YT,YT,YT,YT,YT,YT,YT,YT,YT,YT,YT,YT,YT,YT,YT,YT,YT,YF,YF,YF,YF,YF,YF,YF,YF,YF,YF,YF,YF] rfl rfl (any_of HT_.out (by kernel_rfl)) (fun _ _ _ h => h) (Or.inr ⟨by rfl,rfl⟩) ?_ ?_
               rotate_left
               ·simp only [Act.put,Ya,Yb,Yc,i64_w,i32_w]
                rfl
               refine pure_ (i := 22) (N := some 118) (v := ?_) (a' := ?_) #[YT,YT,YT,YT,YT,YT,YT,YT,YT,YT,YT,YT,YT,YT,YT,YT,YT,YT,YT,YT,YT,YT,YT,YF,YF,YF,YF,YF,YF,YF,YF,YF,YF,YF] rfl rfl (any_of HT_.out (by kernel_rfl)) (fun _ _ _ h => h) (Or.inl ⟨by rfl,?_⟩) ?_ ?_
               rotate_left
               ·intro w'
                go_simp
                with_reducible rfl
               rotate_left
               ·simp only [Act.put,Ya,Yb,Yc,i64_w,i32_w]
                rfl
               refine pure_ (i := 23) (N := some 119) (v := ?_) (a' := ?_) #[YT,YT,YT,YT,YT,YT,YT,YT,YT,YT,YT,YT,YT,YT,YT,YT,YT,YT,YT,YT,YT,YT,YT,YT,YF,YF,YF,YF,YF,YF,YF,YF,YF,YF] rfl rfl (any_of HT_.out (by kernel_rfl)) (fun _ _ _ h => h) (Or.inl ⟨by rfl,?_⟩) ?_ ?_
               rotate_left
               ·intro w'
                go_simp
                with_reducible rfl
               rotate_left
               ·simp only [Act.put,Ya,Yb,Yc,i64_w,i32_w]
                rfl
               refine pure_ (i := 24) (N := some 120) (v := ?_) (a' := ?_) #[YT,YT,YT,YT,YT,YT,YT,YT,YT,YT,YT,YT,YT,YT,YT,YT,YT,YT,YT,YT,YT,YT,YT,YT,YT,YF,YF,YF,YF,YF,YF,YF,YF,YF] rfl rfl (any_of HT_.out (by kernel_rfl)) (fun _ _ _ h => h) (Or.inl ⟨by rfl,?_⟩) ?_ ?_
               rotate_left
               ·intro w'
                go_simp
                with_reducible rfl
               rotate_left
               ·simp only [Act.put,Ya,Yb,Yc,i64_w,i32_w]
                rfl
               refine pure_ (i := 25) (N := some 121) (v := ?_) (a' := ?_) #[YT,YT,YT,YT,YT,YT,YT,YT,YT,YT,YT,YT,YT,YT,YT,YT,YT,YT,YT,YT,YT,YT,YT,YT,YT,YT,YF,YF,YF,YF,YF,YF,YF,YF] rfl rfl (any_of HT_.out (by kernel_rfl)) (fun _ _ _ h => h) (Or.inl ⟨by rfl,?_⟩) ?_ ?_
               rotate_left
               ·intro w'
                go_simp
                with_reducible rfl
               rotate_left
               ·simp only [Act.put,Ya,Yb,Yc,i64_w,i32_w]
                rfl
               refine pure_ (i := 26) (N := some 122) (v := ?_) (a' := ?_) #[YT,YT,YT,YT,YT,YT,YT,YT,YT,YT,YT,YT,YT,YT,YT,YT,YT,YT,YT,YT,YT,YT,YT,YT,YT,YT,YT,YF,YF,YF,YF,YF,YF,YF] rfl rfl (any_of HT_.out (by kernel_rfl)) (fun _ _ _ h => h) (Or.inl ⟨by rfl,?_⟩) ?_ ?_
               rotate_left
               ·intro w'
                go_simp
                with_reducible rfl
               rotate_left
               ·simp only [Act.put,Ya,Yb,Yc,i64_w,i32_w]
                rfl
               refine pure_ (i := 27) (N := some 123) (v := ?_) (a' := ?_) #[YT,YT,YT,YT,YT,YT,YT,YT,YT,YT,YT,YT,YT,YT,YT,YT,YT,YT,YT,YT,YT,YT,YT,YT,YT,YT,YT,YT,YF,YF,YF,YF,YF,YF] rfl rfl (any_of HT_.out (by kernel_rfl)) (fun _ _ _ h => h) (Or.inl ⟨by rfl,?_⟩) ?_ ?_
               rotate_left
               ·intro w'
                go_simp
                with_reducible rfl
               rotate_left
               ·simp only [Act.put,Ya,Yb,Yc,i64_w,i32_w]
                rfl
               refine pure_ (i := 28) (N := some 124) (v := ?_) (a' := ?_) #[YT,YT,YT,YT,YT,YT,YT,YT,YT,YT,YT,YT,YT,YT,YT,YT,YT,YT,YT,YT,YT,YT,YT,YT,YT,YT,YT,YT,YT,YF,YF,YF,YF,YF] rfl rfl (any_of HT_.out (by kernel_rfl)) (fun _ _ _ h => h) (Or.inl ⟨by rfl,?_⟩) ?_ ?_
               rotate_left
               ·intro w'
                go_simp
                with_reducible rfl
               rotate_left
               ·simp only [Act.put,Ya,Yb,Yc,i64_w,i32_w]
                rfl
               refine pure_ (i := 29) (N := some 125) (v := ?_) (a' := ?_) #[YT,YT,YT,YT,YT,YT,YT,YT,YT,YT,YT,YT,YT,YT,YT,YT,YT,YT,YT,YT,YT,YT,YT,YT,YT,YT,YT,YT,YT,YT,YF,YF,YF,YF] rfl rfl (any_of HT_.out (by kernel_rfl)) (fun _ _ _ h => h) (Or.inl ⟨by rfl,?_⟩) ?_ ?_
               rotate_left
               ·intro w'
                go_simp
                with_reducible rfl
               rotate_left
               ·simp only [Act.put,Ya,Yb,Yc,i64_w,i32_w]
                rfl
               refine pure_ (i := 30) (N := some 126) (v := ?_) (a' := ?_) #[YT,YT,YT,YT,YT,YT,YT,YT,YT,YT,YT,YT,YT,YT,YT,YT,YT,YT,YT,YT,YT,YT,YT,YT,YT,YT,YT,YT,YT,YT,YT,YF,YF,YF] rfl rfl (any_of HT_.out (by kernel_rfl)) (fun _ _ _ h => h) (Or.inl ⟨by rfl,?_⟩) ?_ ?_
               rotate_left
               ·intro w'
                go_simp
                with_reducible rfl
               rotate_left
               ·simp only [Act.put,Ya,Yb,Yc,i64_w,i32_w]
                rfl
               refine one_ (i := 31) (N := some 127) #[YT,YT,YT,YT,YT,YT,YT,YT,YT,YT,YT,YT,YT,YT,YT,YT,YT,YT,YT,YT,YT,YT,YT,YT,YT,YT,YT,YT,YT,YT,YT,YT,YF,YF] rfl rfl (one_of HT_.out (by kernel_rfl)) (by decide) (fun K hK => ?_)
               refine goes_ Try.func12 (by kernel_rfl) rfl #[.slice Ao69 t427.length co69,.slice A0 l0.length c0] (by rfl) rfl rfl Y8 ?_
               with_reducible refine (plenumref34_Same.calls kj22 _ _ t427 _ _ l0 t438 _ ?side1 ?side2 ?side3 ?side4 A62.out).mono ?_
               (case side1 => repeat (first | exact (Kd.R_reads' HO430.out).2.2 | (with_reducible refine Kd.C_alloc ?_ _) | (with_reducible refine Kd.C_drewN ?_ _) | (with_reducible refine Kd.C_drew ?_)))
               (case side2 => exact (Kd.R_reads' HO430.out).2.1)
               (case side3 => exact Y11 (Kd.C_below HR0.out HB.out))
               (case side4 => exact HC0.out)
               rintro e w' ⟨rfl,⟨nd,rfl⟩⟩
               refine ⟨_,rfl,?_⟩
               refine hK.out _ _ trivial (fun hHeld => ?_)
               clear hK K
               refine norm_ (a' := ?_) ?_ ?_
               rotate_left
               ·show Act.put _ (some 127) _ = _
                simp only [Act.put,Ya,Yb,Yc,i64_w,i32_w]
                rfl
               refine pure_ (i := 32) (N := some 128) (v := ?_) (a' := ?_) #[YT,YT,YT,YT,YT,YT,YT,YT,YT,YT,YT,YT,YT,YT,YT,YT,YT,YT,YT,YT,YT,YT,YT,YT,YT,YT,YT,YT,YT,YT,YT,YT,YT,YF] rfl rfl (any_of HT_.out (by kernel_rfl)) (fun _ _ _ h => h) (Or.inl ⟨by rfl,?_⟩) ?_ ?_
               rotate_left
               ·intro w'
                go_simp
                with_reducible rfl
               rotate_left
               ·simp only [Act.put,Ya,Yb,Yc,i64_w,i32_w]
                rfl
               refine pure_ (i := 33) (N := some 8) (v := ?_) (a' := ?_) #[YT,YT,YT,YT,YT,YT,YT,YT,YT,YT,YT,YT,YT,YT,YT,YT,YT,YT,YT,YT,YT,YT,YT,YT,YT,YT,YT,YT,YT,YT,YT,YT,YT,YT] rfl rfl (any_of HT_.out (by kernel_rfl)) (fun _ _ _ h => h) (Or.inl ⟨by rfl,?_⟩) ?_ ?_
               rotate_left
               ·intro w'
                go_simp
                with_reducible rfl
               rotate_left
               ·simp only [Act.put,Ya,Yb,Yc,i64_w,i32_w]
                rfl
               refine done_ (done_of HT_.out (by kernel_rfl)) ?_
               try go_wp2
               go_ret
               exact ⟨by first | rfl | (simp [errW_none,errW_some] <;> rfl) | (simp [*,errW_none,errW_some] <;> rfl),by repeat (first | (with_reducible first | exact HB.out | apply below_alloc | apply Y15 | apply below_drew1 | refine below_set ?_ GE420.out | refine below_set ?_ GE431.out) | exact HB.out)⟩
              ·rw [if_neg c61] at H
               have c61b0 : (t428 == 0) = false := beq_eq_false_iff_ne.mpr c61
               have c61b1 : (t428 != 0) = true := bne_iff_ne.mpr c61
               exact absurd H (by simp)
             ·replace c60 := Bool.eq_false_iff.mpr c60
              subst c60
              have H1 : ((override_Value.f kj22 t421 a3 0 0).bind fun bt439 => ((override_Value.f kj22 l0 a3 0 0).bind fun bt441 => (if (bt439.1 == bt441.1 && (bt439.2 == bt441.2)) = true then (if t428 = 0 then ((plenumref34_Same.f kj22 t427 l0).bind fun t443 => (some t443)) else (none)) else (none)))) = some r := by rw [if_neg (show ¬ (false = true) by decide)] at H;exact H
              clear H
              have H := H1
              clear H1
              replace H := Option.bind_eq_some_iff.mp H
              obtain ⟨⟨t439,t440⟩,A700,H⟩ := H
              replace H : ((override_Value.f kj22 l0 a3 0 0).bind fun bt441 => (if (t439 == bt441.1 && (t440 == bt441.2)) = true then (if t428 = 0 then ((plenumref34_Same.f kj22 t427 l0).bind fun t443 => (some t443)) else (none)) else (none))) = some r := H
              have A70 := Yd A700
              clear A700
              replace H := Option.bind_eq_some_iff.mp H
              obtain ⟨⟨t441,t442⟩,A710,H⟩ := H
              replace H : (if (t439 == t441 && (t440 == t442)) = true then (if t428 = 0 then ((plenumref34_Same.f kj22 t427 l0).bind fun t443 => (some t443)) else (none)) else (none)) = some r := H
              have A71 := Yd A710
              clear A710
              by_cases c72 : (t439 == t441 && (t440 == t442)) = true
              ·rw [if_pos c72] at H
               have c72b0 : (t439 == t441 && (t440 == t442)) = true := c72
               (try (have c72b1 : decide (t439 = t441 && (t440 == t442)) = true := by simpa using c72))
               (try (have c72b2 : (t439 == t441 && (t440 == t442)) = true := by simpa using c72))
               clear c72
               by_cases c73 : t428 = 0
               ·rw [if_pos c73] at H
                have c73b0 : (t428 == 0) = true := beq_iff_eq.mpr c73
                have c73b1 : (t428 != 0) = false := bne_eq_false_iff_eq.mpr c73
                clear c73
                replace H := Option.bind_eq_some_iff.mp H
                obtain ⟨t443,A740,H⟩ := H
                replace H : (some t443) = some r := H
                have A74 := Yd A740
                clear A740
                obtain rfl := Option.some.inj H
                try go_wp2_with (first | ((with_reducible refine gate_callee (f := 9) rfl ?_);refine goesL_ (some 92) rfl rfl Try.func9 (by kernel_rfl) rfl #[.slice Ao27 t421.length co27,.string (⟨#[122,122,122]⟩ : ByteArray)] rfl Y8 ?_;(with_reducible refine (override_Remove.calls kj22 _ _ t421 (⟨#[122,122,122]⟩ : ByteArray) t427 t428 _ ?side1 ?side2 A32.out).mono ?_);(case side1 => repeat (first | exact (Kd.R_reads' HO_12.out).2.2 | (with_reducible refine Kd.C_alloc ?_ _) | (with_reducible refine Kd.C_drewN ?_ _) | (with_reducible refine Kd.C_drew ?_)));(case side2 => exact (Kd.R_reads' HO_12.out).2.1);rintro e w75 ⟨v429,rfl,ho0,hb⟩;refine ⟨_,rfl,?_⟩;have n0_ := Yd (Kd.R_elder' (Y5 HO_12.out) (Kd.R_base ho0) hb);have n1_ := Yd (Kd.R_lower (Kd.R_newB (Kd.R_new' ho0 (Kd.R_lt (Y5 HO_12.out))) (g := gb420) (o := .cells #[.string (⟨#[122,122,122]⟩ : ByteArray),.int .i64 a1,.int .i64 a2,.int .i64 3,.int .i64 16,.int .i64 x9_2] 26 (0,0)) (Y6 BK420.out)) (below_size (by first | exact Y4 HB.out GE420.out | exact Y3 HB.out)));have n2_ := Yd (blk_below (g := gb420) (o := .cells #[.string (⟨#[122,122,122]⟩ : ByteArray),.int .i64 a1,.int .i64 a2,.int .i64 3,.int .i64 16,.int .i64 x9_2] 26 (0,0)) (Y6 BK420.out) hb);have n3_ := Yd (below_step (by first | exact Y4 HB.out GE420.out | exact Y3 HB.out) hb);clear HO_12;clear BK420;clear HB;have HO_12 := n0_;have HO430 := n1_;have BK420 := n2_;have HB := n3_;clear n0_ n1_ n2_ n3_;(try clear hb);(try clear hb2);(try clear hk);(try clear hi);(try clear ho0)) | ((with_reducible refine gate_dst (N := 18) rfl ?_);refine box_event ?hg (N := 18) ?hd (cs := #[.int .i64 0,.int .i64 0]) (t := 24) ?hr ?_;(case hd => rfl);(case hg => rfl);(case hr => first | (go_simp;done) | (go_simp;rfl));intro gb431 hg w76 hbox hb;have n0_ := Yd (Kd.R_below (Y5 HO_12.out) hb);have n1_ := Yd (Kd.R_below (Y5 HO430.out) hb);have n2_ := Yd (blk_below (g := gb420) (o := .cells #[.string (⟨#[122,122,122]⟩ : ByteArray),.int .i64 a1,.int .i64 a2,.int .i64 3,.int .i64 16,.int .i64 x9_2] 26 (0,0)) (Y6 BK420.out) hb);have n3_ := Yd (below_step (by first | exact Y4 HB.out GE420.out | exact Y3 HB.out) hb);have n4_ := Yd (hbox);have n5_ := Yd ((by rw [hg];exact (below_size (by first | exact Y4 HB.out GE420.out | exact Y3 HB.out)) : w.heap.size ≤ gb431));have n6_ := Yd ((by rw [hg];exact (below_size (by first | exact Y4 HB.out GE420.out | exact Y3 HB.out)) : w.heap.size ≤ gb431));have n7_ := Yd ((by rw [hg];exact Nat.ne_of_lt (blk_lt (g := gb420) (o := .cells #[.string (⟨#[122,122,122]⟩ : ByteArray),.int .i64 a1,.int .i64 a2,.int .i64 3,.int .i64 16,.int .i64 x9_2] 26 (0,0)) (Y6 BK420.out)) : gb420 ≠ gb431));have n8_ := Yd ((by rw [hg];exact Nat.ne_of_gt (blk_lt (g := gb420) (o := .cells #[.string (⟨#[122,122,122]⟩ : ByteArray),.int .i64 a1,.int .i64 a2,.int .i64 3,.int .i64 16,.int .i64 x9_2] 26 (0,0)) (Y6 BK420.out)) : gb431 ≠ gb420));clear HO_12;clear HO430;clear BK420;clear HB;have HO_12 := n0_;have HO430 := n1_;have BK420 := n2_;have HB := n3_;have BK431 := n4_;have GW431 := n5_;have GE431 := n6_;have NB420_431 := n7_;have NB431_420 := n8_;clear n0_ n1_ n2_ n3_ n4_ n5_ n6_ n7_ n8_;clear hb hbox hg;have hnb77 := NB431_420.out;have hnc77 := NB420_431.out;have hcz78_0 : w76.cell? ⟨gb431,0,none⟩ = some (.int .i64 0) := (blk_cell BK431.out 0).trans rfl;have hcz78_1 : w76.cell? ⟨gb431,1,none⟩ = some (.int .i64 0) := (blk_cell BK431.out 1).trans rfl;have hfz78_0 := blk_frozen BK431.out 0;have hfz78_1 := blk_frozen BK431.out 1))
                have n0_ : Aside0 (Kd.R k26 26 ((w76.setCell ⟨gb431,0,none⟩ (.int .i64 0)).setCell ⟨gb431,1,none⟩ (.int .i64 0)) w.heap.size (fun k_ => some k_ ≠ (v429 : Value).ownBlock ∧ k_ ≠ gb420) (.slice Ao27 t421.length co27) t421) := ⟨by (with_reducible repeat (first | apply Kd.R_alloc | apply Kd.R_drewN | apply Kd.R_drew));exact Kd.R_mono (Kd.R_far (p := ⟨gb431,1,none⟩) (Kd.R_far (p := ⟨gb431,0,none⟩) (Kd.R_types HO_12.out BK431.out (by decide)) (fun _ hk => hk.2) (.int .i64 0)) (fun _ hk => hk.2) (.int .i64 0)) (fun _ hk => ⟨hk.1.2,hk.1.1⟩)⟩
                have n1_ : Aside0 (Kd.R k26 26 ((w76.setCell ⟨gb431,0,none⟩ (.int .i64 0)).setCell ⟨gb431,1,none⟩ (.int .i64 0)) w.heap.size (fun k_ => some k_ ≠ (.slice Ao27 t421.length co27 : Value).ownBlock ∧ k_ ≠ gb420) v429 t427) := ⟨by (with_reducible repeat (first | apply Kd.R_alloc | apply Kd.R_drewN | apply Kd.R_drew));exact Kd.R_mono (Kd.R_far (p := ⟨gb431,1,none⟩) (Kd.R_far (p := ⟨gb431,0,none⟩) (Kd.R_types HO430.out BK431.out (by decide)) (fun _ hk => hk.2) (.int .i64 0)) (fun _ hk => hk.2) (.int .i64 0)) (fun _ hk => ⟨hk.1.1.2,hk.1.2⟩)⟩
                have n2_ : Aside0 (((w76.setCell ⟨gb431,0,none⟩ (.int .i64 0)).setCell ⟨gb431,1,none⟩ (.int .i64 0)).heap[gb420]? = some (.cells #[.string (⟨#[122,122,122]⟩ : ByteArray),.int .i64 a1,.int .i64 a2,.int .i64 3,.int .i64 16,.int .i64 x9_2] 26 (0,0))) := ⟨by (with_reducible repeat (first | refine blk_drewN ?_ _ | refine blk_drew ?_ | refine blk_alloc ?_ _));refine blk_far ?_ NB420_431.out _;(with_reducible repeat (first | refine blk_drewN ?_ _ | refine blk_drew ?_ | refine blk_alloc ?_ _));refine blk_far ?_ NB420_431.out _;(with_reducible repeat (first | refine blk_drewN ?_ _ | refine blk_drew ?_ | refine blk_alloc ?_ _));exact BK420.out⟩
                have n3_ : Aside0 (((w76.setCell ⟨gb431,0,none⟩ (.int .i64 0)).setCell ⟨gb431,1,none⟩ (.int .i64 0)).heap[gb431]? = some (.cells #[.int .i64 0,.int .i64 0] 24 (0,0))) := ⟨by (with_reducible repeat (first | refine blk_drewN ?_ _ | refine blk_drew ?_ | refine blk_alloc ?_ _));refine blk_put (cs := #[.int .i64 0,.int .i64 0]) ?_ 1 _ rfl;(with_reducible repeat (first | refine blk_drewN ?_ _ | refine blk_drew ?_ | refine blk_alloc ?_ _));refine blk_put (cs := #[.int .i64 0,.int .i64 0]) ?_ 0 _ rfl;(with_reducible repeat (first | refine blk_drewN ?_ _ | refine blk_drew ?_ | refine blk_alloc ?_ _));exact BK431.out⟩
                have n4_ : Aside0 (Below w.heap.size w ((w76.setCell ⟨gb431,0,none⟩ (.int .i64 0)).setCell ⟨gb431,1,none⟩ (.int .i64 0))) := ⟨by repeat (first | (with_reducible first | exact HB.out | apply below_alloc | apply Y15 | apply below_drew1 | refine below_set ?_ GE420.out | refine below_set ?_ GE431.out) | exact HB.out)⟩
                (try clear HO_12)
                (try clear HO430)
                (try clear BK420)
                (try clear BK431)
                (try clear HB)
                generalize ((w76.setCell ⟨gb431,0,none⟩ (.int .i64 0)).setCell ⟨gb431,1,none⟩ (.int .i64 0)) = w79 at n0_ n1_ n2_ n3_ n4_ ⊢
                have HO_12 := n0_
                have HO430 := n1_
                have BK420 := n2_
                have BK431 := n3_
                have HB := n4_
                clear n0_ n1_ n2_ n3_ n4_
                have n0_ := Yd (Kd.R_drew HO_12.out)
                have n1_ := Yd (Kd.R_drew HO430.out)
                have n2_ := Yd (blk_drew BK420.out)
                have n3_ := Yd (blk_drew BK431.out)
                have n4_ := Yd (below_drew1 HB.out)
                clear HO_12
                clear HO430
                clear BK420
                clear BK431
                clear HB
                have HO_12 := n0_
                have HO430 := n1_
                have BK420 := n2_
                have BK431 := n3_
                have HB := n4_
                clear n0_ n1_ n2_ n3_ n4_
                refine start_ (n := 34) (S := fun w' => w'.cell? ⟨gb431,0,none⟩ = some (.int .i64 0) ∧ w'.cell? ⟨gb431,1,none⟩ = some (.int .i64 0)) (ds := []) #[YF,YF,YF,YF,YF,YF,YF,YF,YF,YF,YF,YF,YF,YF,YF,YF,YF,YF,YF,YF,YF,YF,YF,YF,YF,YF,YF,YF,YF,YF,YF,YF,YF,YF] (by kernel_rfl) rfl rfl ⟨(blk_cell BK431.out 0).trans rfl,(blk_cell BK431.out 1).trans rfl⟩ (fun hHeld => ?_);refine with_tabW plenumlaw34_OverrideNewest.tab20 plenumlaw34_OverrideNewest.bits20 (fun HT_ HW_ => ?_)
                generalize w79.drew = w80 at HO_12 HO430 BK420 BK431 HB hHeld ⊢
                refine pure_ (i := 0) (N := some 96) (v := ?_) (a' := ?_) #[YT,YF,YF,YF,YF,YF,YF,YF,YF,YF,YF,YF,YF,YF,YF,YF,YF,YF,YF,YF,YF,YF,YF,YF,YF,YF,YF,YF,YF,YF,YF,YF,YF,YF] rfl rfl (any_of HT_.out (by kernel_rfl)) (fun _ _ _ h => h) (Or.inl ⟨by rfl,?_⟩) ?_ ?_
                rotate_left
                ·intro w'
                 go_simp
                 with_reducible rfl
                rotate_left
                ·simp only [Act.put,Ya,Yb,Yc,i64_w,i32_w]
                 rfl
                refine pure_ (i := 1) (N := some 97) (v := ?_) (a' := ?_) #[YT,YT,YF,YF,YF,YF,YF,YF,YF,YF,YF,YF,YF,YF,YF,YF,YF,YF,YF,YF,YF,YF,YF,YF,YF,YF,YF,YF,YF,YF,YF,YF,YF,YF] rfl rfl (any_of HT_.out (by kernel_rfl)) (fun _ _ _ h => h) (Or.inl ⟨by rfl,?_⟩) ?_ ?_
                rotate_left
                ·intro w'
                 go_simp
                 with_reducible rfl
                rotate_left
                ·simp only [Act.put,Ya,Yb,Yc,i64_w,i32_w]
                 rfl
                refine pure_ (i := 2) (N := some 98) (v := ?_) (a' := ?_) #[YT,YT,YT,YF,YF,YF,YF,YF,YF,YF,YF,YF,YF,YF,YF,YF,YF,YF,YF,YF,YF,YF,YF,YF,YF,YF,YF,YF,YF,YF,YF,YF,YF,YF] rfl rfl (any_of HT_.out (by kernel_rfl)) (fun _ _ _ h => h) (Or.inl ⟨by rfl,?_⟩) ?_ ?_
                rotate_left
                ·intro w'
                 go_simp
                 with_reducible rfl
                rotate_left
                ·simp only [Act.put,Ya,Yb,Yc,i64_w,i32_w]
                 rfl
                refine pure_ (i := 3) (N := some 99) (v := ?_) (a' := ?_) #[YT,YT,YT,YT,YF,YF,YF,YF,YF,YF,YF,YF,YF,YF,YF,YF,YF,YF,YF,YF,YF,YF,YF,YF,YF,YF,YF,YF,YF,YF,YF,YF,YF,YF] rfl rfl (any_of HT_.out (by kernel_rfl)) (fun _ _ _ h => h) (Or.inl ⟨by rfl,?_⟩) ?_ ?_
                rotate_left
                ·intro w'
                 go_simp
                 with_reducible rfl
                rotate_left
                ·simp only [Act.put,Ya,Yb,Yc,i64_w,i32_w]
                 rfl
                refine pure_ (i := 4) (N := some 100) (v := ?_) (a' := ?_) #[YT,YT,YT,YT,YT,YF,YF,YF,YF,YF,YF,YF,YF,YF,YF,YF,YF,YF,YF,YF,YF,YF,YF,YF,YF,YF,YF,YF,YF,YF,YF,YF,YF,YF] rfl rfl (any_of HT_.out (by kernel_rfl)) (fun _ _ _ h => h) (Or.inl ⟨by rfl,?_⟩) ?_ ?_
                rotate_left
                ·intro w'
                 go_simp
                 with_reducible rfl
                rotate_left
                ·simp only [Act.put,Ya,Yb,Yc,i64_w,i32_w]
                 rfl
                refine pure_ (i := 5) (N := some 101) (v := undef) (a' := ?_) #[YT,YT,YT,YT,YT,YT,YF,YF,YF,YF,YF,YF,YF,YF,YF,YF,YF,YF,YF,YF,YF,YF,YF,YF,YF,YF,YF,YF,YF,YF,YF,YF,YF,YF] rfl rfl (any_of HT_.out (by kernel_rfl)) (fun _ _ _ h => h) (Or.inr ⟨by rfl,rfl⟩) ?_ ?_
                rotate_left
                ·simp only [Act.put,Ya,Yb,Yc,i64_w,i32_w]
                 rfl
                refine pure_ (i := 6) (N := some 102) (v := undef) (a' := ?_) #[YT,YT,YT,YT,YT,YT,YT,YF,YF,YF,YF,YF,YF,YF,YF,YF,YF,YF,YF,YF,YF,YF,YF,YF,YF,YF,YF,YF,YF,YF,YF,YF,YF,YF] rfl rfl (any_of HT_.out (by kernel_rfl)) (fun _ _ _ h => h) (Or.inr ⟨by rfl,rfl⟩) ?_ ?_
                rotate_left
                ·simp only [Act.put,Ya,Yb,Yc,i64_w,i32_w]
                 rfl
                refine pure_ (i := 7) (N := some 103) (v := undef) (a' := ?_) #[YT,YT,YT,YT,YT,YT,YT,YT,YF,YF,YF,YF,YF,YF,YF,YF,YF,YF,YF,YF,YF,YF,YF,YF,YF,YF,YF,YF,YF,YF,YF,YF,YF,YF] rfl rfl (any_of HT_.out (by kernel_rfl)) (fun _ _ _ h => h) (Or.inr ⟨by rfl,rfl⟩) ?_ ?_
                rotate_left
                ·simp only [Act.put,Ya,Yb,Yc,i64_w,i32_w]
                 rfl
                refine pure_ (i := 8) (N := some 104) (v := ?_) (a' := ?_) #[YT,YT,YT,YT,YT,YT,YT,YT,YT,YF,YF,YF,YF,YF,YF,YF,YF,YF,YF,YF,YF,YF,YF,YF,YF,YF,YF,YF,YF,YF,YF,YF,YF,YF] rfl rfl (any_of HT_.out (by kernel_rfl)) (fun _ _ _ h => h) (Or.inl ⟨by rfl,?_⟩) ?_ ?_
                rotate_left
                ·intro w'
                 go_simp
                 with_reducible rfl
                rotate_left
                ·simp only [Act.put,Ya,Yb,Yc,i64_w,i32_w]
                 rfl
                refine pure_ (i := 9) (N := some 105) (v := ?_) (a' := ?_) #[YT,YT,YT,YT,YT,YT,YT,YT,YT,YT,YF,YF,YF,YF,YF,YF,YF,YF,YF,YF,YF,YF,YF,YF,YF,YF,YF,YF,YF,YF,YF,YF,YF,YF] rfl rfl (any_of HT_.out (by kernel_rfl)) (fun _ _ _ h => h) (Or.inl ⟨by rfl,?_⟩) ?_ ?_
                rotate_left
                ·intro w'
                 go_simp
                 with_reducible rfl
                rotate_left
                ·simp only [Act.put,Ya,Yb,Yc,i64_w,i32_w]
                 rfl
                refine pure_ (i := 10) (N := some 106) (v := ?_) (a' := ?_) #[YT,YT,YT,YT,YT,YT,YT,YT,YT,YT,YT,YF,YF,YF,YF,YF,YF,YF,YF,YF,YF,YF,YF,YF,YF,YF,YF,YF,YF,YF,YF,YF,YF,YF] rfl rfl (any_of HT_.out (by kernel_rfl)) (fun _ _ _ h => h) (Or.inl ⟨by rfl,?_⟩) ?_ ?_
                rotate_left
                ·intro w'
                 go_simp
                 with_reducible rfl
                rotate_left
                ·simp only [Act.put,Ya,Yb,Yc,i64_w,i32_w]
                 rfl
                refine pure_ (i := 11) (N := some 107) (v := ?_) (a' := ?_) #[YT,YT,YT,YT,YT,YT,YT,YT,YT,YT,YT,YT,YF,YF,YF,YF,YF,YF,YF,YF,YF,YF,YF,YF,YF,YF,YF,YF,YF,YF,YF,YF,YF,YF] rfl rfl (any_of HT_.out (by kernel_rfl)) (fun _ _ _ h => h) (Or.inl ⟨by rfl,?_⟩) ?_ ?_
                rotate_left
                ·intro w'
                 go_simp
                 with_reducible rfl
                rotate_left
                ·simp only [Act.put,Ya,Yb,Yc,i64_w,i32_w]
                 rfl
                refine pure_ (i := 12) (N := some 108) (v := ?_) (a' := ?_) #[YT,YT,YT,YT,YT,YT,YT,YT,YT,YT,YT,YT,YT,YF,YF,YF,YF,YF,YF,YF,YF,YF,YF,YF,YF,YF,YF,YF,YF,YF,YF,YF,YF,YF] rfl rfl (any_of HT_.out (by kernel_rfl)) (fun _ _ _ h => h) (Or.inl ⟨by rfl,?_⟩) ?_ ?_
                rotate_left
                ·intro w'
                 go_simp
                 with_reducible rfl
                rotate_left
                ·simp only [Act.put,Ya,Yb,Yc,i64_w,i32_w]
                 rfl
                refine pure_ (i := 13) (N := some 109) (v := ?_) (a' := ?_) #[YT,YT,YT,YT,YT,YT,YT,YT,YT,YT,YT,YT,YT,YT,YF,YF,YF,YF,YF,YF,YF,YF,YF,YF,YF,YF,YF,YF,YF,YF,YF,YF,YF,YF] rfl rfl (any_of HT_.out (by kernel_rfl)) (fun _ _ _ h => h) (Or.inl ⟨by rfl,?_⟩) ?_ ?_
                rotate_left
                ·intro w'
                 go_simp
                 with_reducible rfl
                rotate_left
                ·simp only [Act.put,Ya,Yb,Yc,i64_w,i32_w]
                 rfl
                refine pure_ (i := 14) (N := some 110) (v := ?_) (a' := ?_) #[YT,YT,YT,YT,YT,YT,YT,YT,YT,YT,YT,YT,YT,YT,YT,YF,YF,YF,YF,YF,YF,YF,YF,YF,YF,YF,YF,YF,YF,YF,YF,YF,YF,YF] rfl rfl (any_of HT_.out (by kernel_rfl)) (fun _ _ _ h => h) (Or.inl ⟨by rfl,?_⟩) ?_ ?_
                rotate_left
                ·intro w'
                 go_simp
                 with_reducible rfl
                rotate_left
                ·simp only [Act.put,Ya,Yb,Yc,i64_w,i32_w]
                 rfl
                refine pure_ (i := 17) (N := some 113) (v := ?_) (a' := ?_) #[YT,YT,YT,YT,YT,YT,YT,YT,YT,YT,YT,YT,YT,YT,YT,YF,YF,YT,YF,YF,YF,YF,YF,YF,YF,YF,YF,YF,YF,YF,YF,YF,YF,YF] rfl rfl (any_of HT_.out (by kernel_rfl)) (fun _ _ _ h => h) (Or.inl ⟨by rfl,?_⟩) ?_ ?_
                rotate_left
                ·intro w'
                 go_simp
                 with_reducible rfl
                rotate_left
                ·simp only [Act.put,Ya,Yb,Yc,i64_w,i32_w]
                 rfl
                refine pure_ (i := 18) (N := some 114) (v := ?_) (a' := ?_) #[YT,YT,YT,YT,YT,YT,YT,YT,YT,YT,YT,YT,YT,YT,YT,YF,YF,YT,YT,YF,YF,YF,YF,YF,YF,YF,YF,YF,YF,YF,YF,YF,YF,YF] rfl rfl (any_of HT_.out (by kernel_rfl)) (fun _ _ _ h => h) (Or.inl ⟨by rfl,?_⟩) ?_ ?_
                rotate_left
                ·intro w'
                 go_simp
                 with_reducible rfl
                rotate_left
                ·simp only [Act.put,Ya,Yb,Yc,i64_w,i32_w]
                 rfl
                refine take_ (i := 15) (N := some 111) (v := ?_) (a' := ?_) #[YT,YT,YT,YT,YT,YT,YT,YT,YT,YT,YT,YT,YT,YT,YT,YT,YF,YT,YT,YF,YF,YF,YF,YF,YF,YF,YF,YF,YF,YF,YF,YF,YF,YF] rfl rfl (take_ofW HT_.out HW_.out (by kernel_rfl)) (fun _ _ _ h => h) (Or.inl ⟨by rfl,?_⟩) hHeld ?_ ?_
                rotate_left
                ·rintro w' ⟨s0,s1⟩
                 go_simp
                 with_reducible rfl
                rotate_left
                ·simp only [Act.put,Ya,Yb,Yc,i64_w,i32_w]
                 rfl
                refine take_ (i := 19) (N := some 115) (v := ?_) (a' := ?_) #[YT,YT,YT,YT,YT,YT,YT,YT,YT,YT,YT,YT,YT,YT,YT,YT,YF,YT,YT,YT,YF,YF,YF,YF,YF,YF,YF,YF,YF,YF,YF,YF,YF,YF] rfl rfl (take_ofW HT_.out HW_.out (by kernel_rfl)) (fun _ _ _ h => h) (Or.inl ⟨by rfl,?_⟩) hHeld ?_ ?_
                rotate_left
                ·rintro w' ⟨s0,s1⟩
                 go_simp
                 with_reducible rfl
                rotate_left
                ·simp only [Act.put,Ya,Yb,Yc,i64_w,i32_w]
                 rfl
                refine one_ (i := 16) (N := some 112) #[YT,YT,YT,YT,YT,YT,YT,YT,YT,YT,YT,YT,YT,YT,YT,YT,YT,YT,YT,YT,YF,YF,YF,YF,YF,YF,YF,YF,YF,YF,YF,YF,YF,YF] rfl rfl (one_of HT_.out (by kernel_rfl)) (by decide) (fun K hK => ?_)
                refine goes_ Try.func18 (by kernel_rfl) rfl #[.slice Ao27 t421.length co27,.int .i64 a3,.agg #[.int .i64 0,.int .i64 0]] (by rfl) rfl rfl Y8 ?_
                with_reducible refine (override_Value.calls kj22 _ _ t421 a3 0 0 t439 t440 _ ?side1 ?side2 A70.out).mono ?_
                (case side1 => repeat (first | exact (Kd.R_reads' HO_12.out).2.2 | (with_reducible refine Kd.C_alloc ?_ _) | (with_reducible refine Kd.C_drewN ?_ _) | (with_reducible refine Kd.C_drew ?_)))
                (case side2 => exact (Kd.R_reads' HO_12.out).2.1)
                rintro e w81 ⟨rfl,hb⟩
                refine ⟨_,rfl,?_⟩
                have n0_ := Yd (Kd.R_below (Y5 HO_12.out) hb)
                have n1_ := Yd (Kd.R_below (Y5 HO430.out) hb)
                have n2_ := Yd (blk_below (g := gb420) (o := .cells #[.string (⟨#[122,122,122]⟩ : ByteArray),.int .i64 a1,.int .i64 a2,.int .i64 3,.int .i64 16,.int .i64 x9_2] 26 (0,0)) (Y6 BK420.out) hb)
                have n3_ := Yd (blk_below (g := gb431) (o := .cells #[.int .i64 0,.int .i64 0] 24 (0,0)) (Y6 BK431.out) hb)
                have n4_ := Yd (below_step (by repeat (first | (with_reducible first | exact HB.out | apply below_alloc | apply Y15 | apply below_drew1 | refine below_set ?_ GE420.out | refine below_set ?_ GE431.out) | exact HB.out)) hb)
                clear HO_12
                clear HO430
                clear BK420
                clear BK431
                clear HB
                have HO_12 := n0_
                have HO430 := n1_
                have BK420 := n2_
                have BK431 := n3_
                have HB := n4_
                clear n0_ n1_ n2_ n3_ n4_
                (try clear hb)
                (try clear hb2)
                (try clear hk)
                (try clear hi)
                refine hK.out _ _ ⟨(blk_cell BK431.out 0).trans rfl,(blk_cell BK431.out 1).trans rfl⟩ (fun hHeld => ?_)
                clear hK K
                refine norm_ (a' := ?_) ?_ ?_
                rotate_left
                ·show Act.put _ (some 112) _ = _
                 simp only [Act.put,Ya,Yb,Yc,i64_w,i32_w]
                 rfl
                refine one_ (i := 20) (N := some 116) #[YT,YT,YT,YT,YT,YT,YT,YT,YT,YT,YT,YT,YT,YT,YT,YT,YT,YT,YT,YT,YT,YF,YF,YF,YF,YF,YF,YF,YF,YF,YF,YF,YF,YF] rfl rfl (one_of HT_.out (by kernel_rfl)) (by decide) (fun K hK => ?_)
                refine goes_ Try.func18 (by kernel_rfl) rfl #[.slice A0 l0.length c0,.int .i64 a3,.agg #[.int .i64 0,.int .i64 0]] (by rfl) rfl rfl Y8 ?_
                with_reducible refine (override_Value.calls kj22 _ _ l0 a3 0 0 t441 t442 _ ?side1 ?side2 A71.out).mono ?_
                (case side1 => exact Y11 (Kd.C_below HR0.out HB.out))
                (case side2 => exact HC0.out)
                rintro e w82 ⟨rfl,hb⟩
                refine ⟨_,rfl,?_⟩
                have n0_ := Yd (Kd.R_below (Y5 HO_12.out) hb)
                have n1_ := Yd (Kd.R_below (Y5 HO430.out) hb)
                have n2_ := Yd (blk_below (g := gb420) (o := .cells #[.string (⟨#[122,122,122]⟩ : ByteArray),.int .i64 a1,.int .i64 a2,.int .i64 3,.int .i64 16,.int .i64 x9_2] 26 (0,0)) (Y6 BK420.out) hb)
                have n3_ := Yd (blk_below (g := gb431) (o := .cells #[.int .i64 0,.int .i64 0] 24 (0,0)) (Y6 BK431.out) hb)
                have n4_ := Yd (below_step (by repeat (first | (with_reducible first | exact HB.out | apply below_alloc | apply Y15 | apply below_drew1 | refine below_set ?_ GE420.out | refine below_set ?_ GE431.out) | exact HB.out)) hb)
                clear HO_12
                clear HO430
                clear BK420
                clear BK431
                clear HB
                have HO_12 := n0_
                have HO430 := n1_
                have BK420 := n2_
                have BK431 := n3_
                have HB := n4_
                clear n0_ n1_ n2_ n3_ n4_
                (try clear hb)
                (try clear hb2)
                (try clear hk)
                (try clear hi)
                obtain ⟨Ao83,co83,eo83⟩ := Kd.R_slice HO430.out
                (first | subst eo83 | (injection eo83 with f1_ f2_ f3_;have f4_ := f1_.symm;have f5_ := f3_.symm;clear f1_ f2_ f3_;subst f4_;subst f5_))
                refine hK.out _ _ ⟨(blk_cell BK431.out 0).trans rfl,(blk_cell BK431.out 1).trans rfl⟩ (fun hHeld => ?_)
                clear hK K
                refine norm_ (a' := ?_) ?_ ?_
                rotate_left
                ·show Act.put _ (some 116) _ = _
                 simp only [Act.put,Ya,Yb,Yc,i64_w,i32_w]
                 rfl
                refine pure_ (i := 21) (N := some 117) (v := ?_) (a' := ?_) #[YT,YT,YT,YT,YT,YT,YT,YT,YT,YT,YT,YT,YT,YT,YT,YT,YT,YT,YT,YT,YT,YT,YF,YF,YF,YF,YF,YF,YF,YF,YF,YF,YF,YF] rfl rfl (any_of HT_.out (by kernel_rfl)) (fun _ _ _ h => h) (Or.inl ⟨by rfl,?_⟩) ?_ ?_
                rotate_left
                ·intro w'
                 go_simp
                 with_reducible rfl
                rotate_left
                ·simp only [Act.put,Ya,Yb,Yc,i64_w,i32_w]
                 rfl
                refine pure_ (i := 22) (N := some 118) (v := ?_) (a' := ?_) #[YT,YT,YT,YT,YT,YT,YT,YT,YT,YT,YT,YT,YT,YT,YT,YT,YT,YT,YT,YT,YT,YT,YT,YF,YF,YF,YF,YF,YF,YF,YF,YF,YF,YF] rfl rfl (any_of HT_.out (by kernel_rfl)) (fun _ _ _ h => h) (Or.inl ⟨by rfl,?_⟩) ?_ ?_
                rotate_left
                ·intro w'
                 go_simp
                 with_reducible rfl
                rotate_left
                ·simp only [Act.put,Ya,Yb,Yc,i64_w,i32_w]
                 rfl
                refine pure_ (i := 23) (N := some 119) (v := ?_) (a' := ?_) #[YT,YT,YT,YT,YT,YT,YT,YT,YT,YT,YT,YT,YT,YT,YT,YT,YT,YT,YT,YT,YT,YT,YT,YT,YF,YF,YF,YF,YF,YF,YF,YF,YF,YF] rfl rfl (any_of HT_.out (by kernel_rfl)) (fun _ _ _ h => h) (Or.inl ⟨by rfl,?_⟩) ?_ ?_
                rotate_left
                ·intro w'
                 go_simp
                 with_reducible rfl
                rotate_left
                ·simp only [Act.put,Ya,Yb,Yc,i64_w,i32_w]
                 rfl
                refine pure_ (i := 24) (N := some 120) (v := ?_) (a' := ?_) #[YT,YT,YT,YT,YT,YT,YT,YT,YT,YT,YT,YT,YT,YT,YT,YT,YT,YT,YT,YT,YT,YT,YT,YT,YT,YF,YF,YF,YF,YF,YF,YF,YF,YF] rfl rfl (any_of HT_.out (by kernel_rfl)) (fun _ _ _ h => h) (Or.inl ⟨by rfl,?_⟩) ?_ ?_
                rotate_left
                ·intro w'
                 go_simp
                 with_reducible rfl
                rotate_left
                ·simp only [Act.put,Ya,Yb,Yc,i64_w,i32_w]
                 rfl
                refine pure_ (i := 25) (N := some 121) (v := ?_) (a' := ?_) #[YT,YT,YT,YT,YT,YT,YT,YT,YT,YT,YT,YT,YT,YT,YT,YT,YT,YT,YT,YT,YT,YT,YT,YT,YT,YT,YF,YF,YF,YF,YF,YF,YF,YF] rfl rfl (any_of HT_.out (by kernel_rfl)) (fun _ _ _ h => h) (Or.inl ⟨by rfl,?_⟩) ?_ ?_
                rotate_left
                ·intro w'
                 go_simp
                 with_reducible rfl
                rotate_left
                ·simp only [Act.put,Ya,Yb,Yc,i64_w,i32_w]
                 rfl
                refine pure_ (i := 26) (N := some 122) (v := ?_) (a' := ?_) #[YT,YT,YT,YT,YT,YT,YT,YT,YT,YT,YT,YT,YT,YT,YT,YT,YT,YT,YT,YT,YT,YT,YT,YT,YT,YT,YT,YF,YF,YF,YF,YF,YF,YF] rfl rfl (any_of HT_.out (by kernel_rfl)) (fun _ _ _ h => h) (Or.inl ⟨by rfl,?_⟩) ?_ ?_
                rotate_left
                ·intro w'
                 go_simp
                 with_reducible rfl
                rotate_left
                ·simp only [Act.put,Ya,Yb,Yc,i64_w,i32_w]
                 rfl
                refine pure_ (i := 27) (N := some 123) (v := ?_) (a' := ?_) #[YT,YT,YT,YT,YT,YT,YT,YT,YT,YT,YT,YT,YT,YT,YT,YT,YT,YT,YT,YT,YT,YT,YT,YT,YT,YT,YT,YT,YF,YF,YF,YF,YF,YF] rfl rfl (any_of HT_.out (by kernel_rfl)) (fun _ _ _ h => h) (Or.inl ⟨by rfl,?_⟩) ?_ ?_
                rotate_left
                ·intro w'
                 go_simp
                 with_reducible rfl
                rotate_left
                ·simp only [Act.put,Ya,Yb,Yc,i64_w,i32_w]
                 rfl
                refine pure_ (i := 28) (N := some 124) (v := ?_) (a' := ?_) #[YT,YT,YT,YT,YT,YT,YT,YT,YT,YT,YT,YT,YT,YT,YT,YT,YT,YT,YT,YT,YT,YT,YT,YT,YT,YT,YT,YT,YT,YF,YF,YF,YF,YF] rfl rfl (any_of HT_.out (by kernel_rfl)) (fun _ _ _ h => h) (Or.inl ⟨by rfl,?_⟩) ?_ ?_
                rotate_left
                ·intro w'
                 go_simp
                 with_reducible rfl
                rotate_left
                ·simp only [Act.put,Ya,Yb,Yc,i64_w,i32_w]
                 rfl
                refine pure_ (i := 29) (N := some 125) (v := ?_) (a' := ?_) #[YT,YT,YT,YT,YT,YT,YT,YT,YT,YT,YT,YT,YT,YT,YT,YT,YT,YT,YT,YT,YT,YT,YT,YT,YT,YT,YT,YT,YT,YT,YF,YF,YF,YF] rfl rfl (any_of HT_.out (by kernel_rfl)) (fun _ _ _ h => h) (Or.inl ⟨by rfl,?_⟩) ?_ ?_
                rotate_left
                ·intro w'
                 go_simp
                 with_reducible rfl
                rotate_left
                ·simp only [Act.put,Ya,Yb,Yc,i64_w,i32_w]
                 rfl
                refine pure_ (i := 30) (N := some 126) (v := ?_) (a' := ?_) #[YT,YT,YT,YT,YT,YT,YT,YT,YT,YT,YT,YT,YT,YT,YT,YT,YT,YT,YT,YT,YT,YT,YT,YT,YT,YT,YT,YT,YT,YT,YT,YF,YF,YF] rfl rfl (any_of HT_.out (by kernel_rfl)) (fun _ _ _ h => h) (Or.inl ⟨by rfl,?_⟩) ?_ ?_
                rotate_left
                ·intro w'
                 go_simp
                 with_reducible rfl
                rotate_left
                ·simp only [Act.put,Ya,Yb,Yc,i64_w,i32_w]
                 rfl
                refine one_ (i := 31) (N := some 127) #[YT,YT,YT,YT,YT,YT,YT,YT,YT,YT,YT,YT,YT,YT,YT,YT,YT,YT,YT,YT,YT,YT,YT,YT,YT,YT,YT,YT,YT,YT,YT,YT,YF,YF] rfl rfl (one_of HT_.out (by kernel_rfl)) (by decide) (fun K hK => ?_)
                refine goes_ Try.func12 (by kernel_rfl) rfl #[.slice Ao83 t427.length co83,.slice A0 l0.length c0] (by rfl) rfl rfl Y8 ?_
                with_reducible refine (plenumref34_Same.calls kj22 _ _ t427 _ _ l0 t443 _ ?side1 ?side2 ?side3 ?side4 A74.out).mono ?_
                (case side1 => repeat (first | exact (Kd.R_reads' HO430.out).2.2 | (with_reducible refine Kd.C_alloc ?_ _) | (with_reducible refine Kd.C_drewN ?_ _) | (with_reducible refine Kd.C_drew ?_)))
                (case side2 => exact (Kd.R_reads' HO430.out).2.1)
                (case side3 => exact Y11 (Kd.C_below HR0.out HB.out))
                (case side4 => exact HC0.out)
                rintro e w' ⟨rfl,⟨nd,rfl⟩⟩
                refine ⟨_,rfl,?_⟩
                refine hK.out _ _ ⟨(blk_cell BK431.out 0).trans rfl,(blk_cell BK431.out 1).trans rfl⟩ (fun hHeld => ?_)
                clear hK K
                refine norm_ (a' := ?_) ?_ ?_
                rotate_left
                ·show Act.put _ (some 127) _ = _
                 simp only [Act.put,Ya,Yb,Yc,i64_w,i32_w]
                 rfl
                refine pure_ (i := 32) (N := some 128) (v := ?_) (a' := ?_) #[YT,YT,YT,YT,YT,YT,YT,YT,YT,YT,YT,YT,YT,YT,YT,YT,YT,YT,YT,YT,YT,YT,YT,YT,YT,YT,YT,YT,YT,YT,YT,YT,YT,YF] rfl rfl (any_of HT_.out (by kernel_rfl)) (fun _ _ _ h => h) (Or.inl ⟨by rfl,?_⟩) ?_ ?_
                rotate_left
                ·intro w'
                 go_simp
                 with_reducible rfl
                rotate_left
                ·simp only [Act.put,Ya,Yb,Yc,i64_w,i32_w]
                 rfl
                refine pure_ (i := 33) (N := some 8) (v := ?_) (a' := ?_) #[YT,YT,YT,YT,YT,YT,YT,YT,YT,YT,YT,YT,YT,YT,YT,YT,YT,YT,YT,YT,YT,YT,YT,YT,YT,YT,YT,YT,YT,YT,YT,YT,YT,YT] rfl rfl (any_of HT_.out (by kernel_rfl)) (fun _ _ _ h => h) (Or.inl ⟨by rfl,?_⟩) ?_ ?_
                rotate_left
                ·intro w'
                 go_simp
                 with_reducible rfl
                rotate_left
                ·simp only [Act.put,Ya,Yb,Yc,i64_w,i32_w]
                 rfl
                refine done_ (done_of HT_.out (by kernel_rfl)) ?_
                try go_wp2
                go_ret
                exact ⟨by first | rfl | (simp [errW_none,errW_some] <;> rfl) | (simp [*,errW_none,errW_some] <;> rfl),by repeat (first | (with_reducible first | exact HB.out | apply below_alloc | apply Y15 | apply below_drew1 | refine below_set ?_ GE420.out | refine below_set ?_ GE431.out) | exact HB.out)⟩
               ·rw [if_neg c73] at H
                have c73b0 : (t428 == 0) = false := beq_eq_false_iff_ne.mpr c73
                have c73b1 : (t428 != 0) = true := bne_iff_ne.mpr c73
                exact absurd H (by simp)
              ·rw [if_neg c72] at H
               have c72b0 : (t439 == t441 && (t440 == t442)) = false := by simpa using c72
               (try (have c72b1 : decide (t439 = t441 && (t440 == t442)) = false := by simpa using c72))
               (try (have c72b2 : (t439 == t441 && (t440 == t442)) = false := by simpa using c72))
               (try (have c72b3 : ¬ (t439 = t441 && (t440 == t442)) := by simpa using c72))
               clear c72
               exact absurd H (by simp)
            ·rw [if_neg c59] at H
             have c59b0 : (x15_22 == false) = false := by simpa using c59
             (try (have c59b1 : decide (x15_22 = false) = false := by simpa using c59))
             (try (have c59b2 : (x15_22 == false) = false := by simpa using c59))
             (try (have c59b3 : ¬ (x15_22 = false) := by simpa using c59))
             clear c59
             exact absurd H (by simp)
        ·rw [if_neg c21] at H
         have c21b0 : (t424 == 0) = false := beq_eq_false_iff_ne.mpr c21
         have c21b1 : (t424 != 0) = true := bne_iff_ne.mpr c21
         obtain rfl := Option.some.inj H
         go_wp2_with (first | ((with_reducible refine gate_dst (N := 11) rfl ?_);refine box_event ?hg (N := 11) ?hd (cs := #[.string (⟨#[]⟩ : ByteArray),.int .i64 0,.int .i64 0,.int .i64 0,.int .i64 0,.int .i64 0]) (t := 26) ?hr ?_;(case hd => rfl);(case hg => rfl);(case hr => first | (go_simp;done) | (go_simp;rfl));intro gb420 hg w84 hbox hb;have n0_ := Yd (below_step (Y3 HB.out) hb);have n1_ := Yd (hbox);have n2_ := Yd ((by rw [hg];exact (below_size (Y3 HB.out)) : w.heap.size ≤ gb420));have n3_ := Yd ((by rw [hg];exact (below_size (Y3 HB.out)) : w.heap.size ≤ gb420));clear HB;have HB := n0_;have BK420 := n1_;have GW420 := n2_;have GE420 := n3_;clear n0_ n1_ n2_ n3_;clear hb hbox hg;have hcz85_0 : w84.cell? ⟨gb420,0,none⟩ = some (.string (⟨#[]⟩ : ByteArray)) := (blk_cell BK420.out 0).trans rfl;have hcz85_1 : w84.cell? ⟨gb420,1,none⟩ = some (.int .i64 0) := (blk_cell BK420.out 1).trans rfl;have hcz85_2 : w84.cell? ⟨gb420,2,none⟩ = some (.int .i64 0) := (blk_cell BK420.out 2).trans rfl;have hcz85_3 : w84.cell? ⟨gb420,3,none⟩ = some (.int .i64 0) := (blk_cell BK420.out 3).trans rfl;have hcz85_4 : w84.cell? ⟨gb420,4,none⟩ = some (.int .i64 0) := (blk_cell BK420.out 4).trans rfl;have hcz85_5 : w84.cell? ⟨gb420,5,none⟩ = some (.int .i64 0) := (blk_cell BK420.out 5).trans rfl;have hfz85_0 := blk_frozen BK420.out 0;have hfz85_1 := blk_frozen BK420.out 1;have hfz85_2 := blk_frozen BK420.out 2;have hfz85_3 := blk_frozen BK420.out 3;have hfz85_4 := blk_frozen BK420.out 4;have hfz85_5 := blk_frozen BK420.out 5) | ((with_reducible refine gate_callee (f := 8) rfl ?_);refine goesL_ (some 70) rfl rfl Try.func8 (by kernel_rfl) rfl #[.slice A0 l0.length c0,.agg #[.string (⟨#[122,122,122]⟩ : ByteArray),.int .i64 a1,.int .i64 a2,.int .i64 3,.int .i64 16,.int .i64 x9_2]] rfl Y8 ?_;(with_reducible refine (override_Add.calls k2 _ _ l0 (⟨#[122,122,122]⟩ : ByteArray) a1 a2 3 16 x9_2 t421 t424 _ ?side1 ?side2 A20.out).mono ?_);(case side1 => exact Kd.C_below HR0.out (by first | exact Y4 HB.out GE420.out | exact Y3 HB.out));(case side2 => exact HC0.out);rintro e w86 ⟨v422,rfl,ho0,hb⟩;refine ⟨_,rfl,?_⟩;have n0_ := Yd (Kd.R_lower (Kd.R_newB ho0 (g := gb420) (o := .cells #[.string (⟨#[122,122,122]⟩ : ByteArray),.int .i64 a1,.int .i64 a2,.int .i64 3,.int .i64 16,.int .i64 x9_2] 26 (0,0)) (by (with_reducible repeat (first | refine blk_drewN ?_ _ | refine blk_drew ?_ | refine blk_alloc ?_ _));refine blk_put (cs := #[.string (⟨#[122,122,122]⟩ : ByteArray),.int .i64 a1,.int .i64 a2,.int .i64 3,.int .i64 16,.int .i64 0]) ?_ 5 _ rfl;(with_reducible repeat (first | refine blk_drewN ?_ _ | refine blk_drew ?_ | refine blk_alloc ?_ _));refine blk_put (cs := #[.string (⟨#[122,122,122]⟩ : ByteArray),.int .i64 a1,.int .i64 a2,.int .i64 3,.int .i64 0,.int .i64 0]) ?_ 4 _ rfl;(with_reducible repeat (first | refine blk_drewN ?_ _ | refine blk_drew ?_ | refine blk_alloc ?_ _));refine blk_put (cs := #[.string (⟨#[122,122,122]⟩ : ByteArray),.int .i64 a1,.int .i64 a2,.int .i64 0,.int .i64 0,.int .i64 0]) ?_ 3 _ rfl;(with_reducible repeat (first | refine blk_drewN ?_ _ | refine blk_drew ?_ | refine blk_alloc ?_ _));refine blk_put (cs := #[.string (⟨#[122,122,122]⟩ : ByteArray),.int .i64 a1,.int .i64 0,.int .i64 0,.int .i64 0,.int .i64 0]) ?_ 2 _ rfl;(with_reducible repeat (first | refine blk_drewN ?_ _ | refine blk_drew ?_ | refine blk_alloc ?_ _));refine blk_put (cs := #[.string (⟨#[122,122,122]⟩ : ByteArray),.int .i64 0,.int .i64 0,.int .i64 0,.int .i64 0,.int .i64 0]) ?_ 1 _ rfl;(with_reducible repeat (first | refine blk_drewN ?_ _ | refine blk_drew ?_ | refine blk_alloc ?_ _));refine blk_put (cs := #[.string (⟨#[]⟩ : ByteArray),.int .i64 0,.int .i64 0,.int .i64 0,.int .i64 0,.int .i64 0]) ?_ 0 _ rfl;(with_reducible repeat (first | refine blk_drewN ?_ _ | refine blk_drew ?_ | refine blk_alloc ?_ _));exact BK420.out)) (below_size (by first | exact Y4 HB.out GE420.out | exact Y3 HB.out)));have n1_ := Yd (blk_below (g := gb420) (o := .cells #[.string (⟨#[122,122,122]⟩ : ByteArray),.int .i64 a1,.int .i64 a2,.int .i64 3,.int .i64 16,.int .i64 x9_2] 26 (0,0)) (by (with_reducible repeat (first | refine blk_drewN ?_ _ | refine blk_drew ?_ | refine blk_alloc ?_ _));refine blk_put (cs := #[.string (⟨#[122,122,122]⟩ : ByteArray),.int .i64 a1,.int .i64 a2,.int .i64 3,.int .i64 16,.int .i64 0]) ?_ 5 _ rfl;(with_reducible repeat (first | refine blk_drewN ?_ _ | refine blk_drew ?_ | refine blk_alloc ?_ _));refine blk_put (cs := #[.string (⟨#[122,122,122]⟩ : ByteArray),.int .i64 a1,.int .i64 a2,.int .i64 3,.int .i64 0,.int .i64 0]) ?_ 4 _ rfl;(with_reducible repeat (first | refine blk_drewN ?_ _ | refine blk_drew ?_ | refine blk_alloc ?_ _));refine blk_put (cs := #[.string (⟨#[122,122,122]⟩ : ByteArray),.int .i64 a1,.int .i64 a2,.int .i64 0,.int .i64 0,.int .i64 0]) ?_ 3 _ rfl;(with_reducible repeat (first | refine blk_drewN ?_ _ | refine blk_drew ?_ | refine blk_alloc ?_ _));refine blk_put (cs := #[.string (⟨#[122,122,122]⟩ : ByteArray),.int .i64 a1,.int .i64 0,.int .i64 0,.int .i64 0,.int .i64 0]) ?_ 2 _ rfl;(with_reducible repeat (first | refine blk_drewN ?_ _ | refine blk_drew ?_ | refine blk_alloc ?_ _));refine blk_put (cs := #[.string (⟨#[122,122,122]⟩ : ByteArray),.int .i64 0,.int .i64 0,.int .i64 0,.int .i64 0,.int .i64 0]) ?_ 1 _ rfl;(with_reducible repeat (first | refine blk_drewN ?_ _ | refine blk_drew ?_ | refine blk_alloc ?_ _));refine blk_put (cs := #[.string (⟨#[]⟩ : ByteArray),.int .i64 0,.int .i64 0,.int .i64 0,.int .i64 0,.int .i64 0]) ?_ 0 _ rfl;(with_reducible repeat (first | refine blk_drewN ?_ _ | refine blk_drew ?_ | refine blk_alloc ?_ _));exact BK420.out) hb);have n2_ := Yd (below_step (by first | exact Y4 HB.out GE420.out | exact Y3 HB.out) hb);clear BK420;clear HB;have HO423 := n0_;have BK420 := n1_;have HB := n2_;clear n0_ n1_ n2_;(try clear hb);(try clear hb2);(try clear hk);(try clear hi);(try clear ho0)))
         go_ret
         exact ⟨by first | rfl | (simp [errW_none,errW_some] <;> rfl) | (simp [*,errW_none,errW_some] <;> rfl),by repeat (first | (with_reducible first | exact HB.out | apply below_alloc | apply Y15 | apply below_drew1 | refine below_set ?_ GE420.out) | exact HB.out)⟩
 ·replace c6 := Bool.eq_false_iff.mpr c6
  subst c6
  have H1 : (none) = some r := by rw [if_neg (show ¬ (false = true) by decide)] at H;exact H
  clear H
  have H := H1
  clear H1
  exact absurd H (by simp)
end Go.Proofs.Ytaoicdkjjjlmeaa.PD34
namespace Go.Proofs.Ytaoicdkjjjlmeaa.PD34
open Go.RowKit Go.Proofs.YtaoicdkjjjlmeaaW.PrintWords Go.Proofs.YtaoicdkjjjlmeaaW.PrintLast Go.Proofs.YtaoicdkjjjlmeaaW.PrintMore
attribute [local go_sem] max2_int min2_int max_two min_two max_three min_three max_four min_four
mutual
def plenumref34_Check.l0 : Nat → List (S26) → Int → Option (Int)
 | 0,_,_ => none
 | k + 1,x0,x3 => if x3 < (x0.length : Int) then (if 0 ≤ x3 then ((plenumref10_Name.f k ((rd_T26 x0 x3).f0)).bind fun t278 => (if t278 = true then (plenumref34_Check.l0 k x0 (wrap64 (x3 + 1))) else (some 4))) else (none)) else (plenumref34_Check.l1 k x0 0)
def plenumref34_Check.l1 : Nat → List (S26) → Int → Option (Int)
 | 0,_,_ => none
 | k + 1,x0,x4 => if x4 < (x0.length : Int) then (if 0 ≤ x4 then ((plenumref34_in.f ((rd_T26 x0 x4).f1) 0 6311433600).bind fun t281 => (if t281 = true then ((plenumref34_in.f ((rd_T26 x0 x4).f2) 0 6311433600).bind fun t282 => (if t282 = true then (if ((rd_T26 x0 x4).f1) ≥ ((rd_T26 x0 x4).f2) then (plenumref34_Check.j2 k x0 x4 true) else ((plenumref34_in.f ((rd_T26 x0 x4).f4) 0 1000000000).bind fun t283 => (plenumref34_Check.j2 k x0 x4 (!t283)))) else (plenumref34_Check.j2 k x0 x4 true))) else (plenumref34_Check.j2 k x0 x4 true))) else (none)) else (plenumref34_Check.l2 k x0 0)
def plenumref34_Check.j2 : Nat → List (S26) → Int → Bool → Option (Int)
 | 0,_,_,_ => none
 | k + 1,x0,x4,x57 => if x57 = true then (some 6) else (plenumref34_Check.l1 k x0 (wrap64 (x4 + 1)))
def plenumref34_Check.l2 : Nat → List (S26) → Int → Option (Int)
 | 0,_,_ => none
 | k + 1,x0,x6 => if x6 < (x0.length : Int) then (if 0 ≤ x6 then ((plenumref34_in.f ((rd_T26 x0 x6).f3.f0) 1 3).bind fun t285 => (if t285 = true then (plenumref34_Check.l2 k x0 (wrap64 (x6 + 1))) else (some 11))) else (none)) else (plenumref34_Check.l3 k x0 0)
def plenumref34_Check.l3 : Nat → List (S26) → Int → Option (Int)
 | 0,_,_ => none
 | k + 1,x0,x7 => if x7 < (x0.length : Int) then (plenumref34_Check.l4 k x0 x7 0) else (some 0)
def plenumref34_Check.l4 : Nat → List (S26) → Int → Int → Option (Int)
 | 0,_,_,_ => none
 | k + 1,x0,x7,x8 => if x8 < x7 then (if 0 ≤ x8 then (if x8 < (x0.length : Int) then (if 0 ≤ x7 then (if x7 < (x0.length : Int) then (if ((rd_T26 x0 x8).f4) = ((rd_T26 x0 x7).f4) then (some 5) else (if ((Op.bytesLess (((rd_T26 x0 x8).f0).toList) (((rd_T26 x0 x7).f0).toList)) = true) then (plenumref34_Check.l4 k x0 x7 (wrap64 (x8 + 1))) else (some 5))) else (none)) else (none)) else (none)) else (none)) else (plenumref34_Check.l3 k x0 (wrap64 (x7 + 1)))
end
def plenumref34_Check.f (k : Nat) (l0 : List (S26)) : Option (Int) := if (l0.length : Int) > 64 then (some 7) else (plenumref34_Check.l0 k l0 0)
theorem plenumref34_Check.mono_l : ∀ k,(∀ y0 y1,LeO (plenumref34_Check.l0 k y0 y1) (plenumref34_Check.l0 (k + 1) y0 y1)) ∧ (∀ y0 y1,LeO (plenumref34_Check.l1 k y0 y1) (plenumref34_Check.l1 (k + 1) y0 y1)) ∧ (∀ y0 y1 y2,LeO (plenumref34_Check.j2 k y0 y1 y2) (plenumref34_Check.j2 (k + 1) y0 y1 y2)) ∧ (∀ y0 y1,LeO (plenumref34_Check.l2 k y0 y1) (plenumref34_Check.l2 (k + 1) y0 y1)) ∧ (∀ y0 y1,LeO (plenumref34_Check.l3 k y0 y1) (plenumref34_Check.l3 (k + 1) y0 y1)) ∧ (∀ y0 y1 y2,LeO (plenumref34_Check.l4 k y0 y1 y2) (plenumref34_Check.l4 (k + 1) y0 y1 y2))
 | 0 => ⟨fun _ _ r h => by simp [plenumref34_Check.l0] at h,fun _ _ r h => by simp [plenumref34_Check.l1] at h,fun _ _ _ r h => by simp [plenumref34_Check.j2] at h,fun _ _ r h => by simp [plenumref34_Check.l2] at h,fun _ _ r h => by simp [plenumref34_Check.l3] at h,fun _ _ _ r h => by simp [plenumref34_Check.l4] at h⟩
 | k + 1 => by
  obtain ⟨ih0,ih1,ih2,ih3,ih4,ih5⟩ := plenumref34_Check.mono_l k
  refine ⟨?_,?_,?_,?_,?_,?_⟩
  ·intro y0 y1
   unfold plenumref34_Check.l0
   repeat' first
   | (with_reducible exact ih0 _ _)
   | (with_reducible exact ih1 _ _)
   | (with_reducible exact ih2 _ _ _)
   | (with_reducible exact ih3 _ _)
   | (with_reducible exact ih4 _ _)
   | (with_reducible exact ih5 _ _ _)
   | (with_reducible exact plenumref10_Name.mono _ _)
   | (with_reducible exact LeO.refl _)
   | (with_reducible exact LeO.none _)
   | (with_reducible refine LeO.ite ?_ ?_)
   | (with_reducible refine LeO.bind ?_ (fun _ => ?_))
   | exact ih0 _ _
   | exact ih1 _ _
   | exact ih2 _ _ _
   | exact ih3 _ _
   | exact ih4 _ _
   | exact ih5 _ _ _
   | exact plenumref10_Name.mono _ _
   | exact LeO.none _
   | refine LeO.ite ?_ ?_
   | refine LeO.bind ?_ (fun _ => ?_)
  ·intro y0 y1
   unfold plenumref34_Check.l1
   repeat' first
   | (with_reducible exact ih0 _ _)
   | (with_reducible exact ih1 _ _)
   | (with_reducible exact ih2 _ _ _)
   | (with_reducible exact ih3 _ _)
   | (with_reducible exact ih4 _ _)
   | (with_reducible exact ih5 _ _ _)
   | (with_reducible exact plenumref10_Name.mono _ _)
   | (with_reducible exact LeO.refl _)
   | (with_reducible exact LeO.none _)
   | (with_reducible refine LeO.ite ?_ ?_)
   | (with_reducible refine LeO.bind ?_ (fun _ => ?_))
   | exact ih0 _ _
   | exact ih1 _ _
   | exact ih2 _ _ _
   | exact ih3 _ _
   | exact ih4 _ _
   | exact ih5 _ _ _
   | exact plenumref10_Name.mono _ _
   | exact LeO.none _
   | refine LeO.ite ?_ ?_
   | refine LeO.bind ?_ (fun _ => ?_)
  ·intro y0 y1 y2
   unfold plenumref34_Check.j2
   repeat' first
   | (with_reducible exact ih0 _ _)
   | (with_reducible exact ih1 _ _)
   | (with_reducible exact ih2 _ _ _)
   | (with_reducible exact ih3 _ _)
   | (with_reducible exact ih4 _ _)
   | (with_reducible exact ih5 _ _ _)
   | (with_reducible exact plenumref10_Name.mono _ _)
   | (with_reducible exact LeO.refl _)
   | (with_reducible exact LeO.none _)
   | (with_reducible refine LeO.ite ?_ ?_)
   | (with_reducible refine LeO.bind ?_ (fun _ => ?_))
   | exact ih0 _ _
   | exact ih1 _ _
   | exact ih2 _ _ _
   | exact ih3 _ _
   | exact ih4 _ _
   | exact ih5 _ _ _
   | exact plenumref10_Name.mono _ _
   | exact LeO.none _
   | refine LeO.ite ?_ ?_
   | refine LeO.bind ?_ (fun _ => ?_)
  ·intro y0 y1
   unfold plenumref34_Check.l2
   repeat' first
   | (with_reducible exact ih0 _ _)
   | (with_reducible exact ih1 _ _)
   | (with_reducible exact ih2 _ _ _)
   | (with_reducible exact ih3 _ _)
   | (with_reducible exact ih4 _ _)
   | (with_reducible exact ih5 _ _ _)
   | (with_reducible exact plenumref10_Name.mono _ _)
   | (with_reducible exact LeO.refl _)
   | (with_reducible exact LeO.none _)
   | (with_reducible refine LeO.ite ?_ ?_)
   | (with_reducible refine LeO.bind ?_ (fun _ => ?_))
   | exact ih0 _ _
   | exact ih1 _ _
   | exact ih2 _ _ _
   | exact ih3 _ _
   | exact ih4 _ _
   | exact ih5 _ _ _
   | exact plenumref10_Name.mono _ _
   | exact LeO.none _
   | refine LeO.ite ?_ ?_
   | refine LeO.bind ?_ (fun _ => ?_)
  ·intro y0 y1
   unfold plenumref34_Check.l3
   repeat' first
   | (with_reducible exact ih0 _ _)
   | (with_reducible exact ih1 _ _)
   | (with_reducible exact ih2 _ _ _)
   | (with_reducible exact ih3 _ _)
   | (with_reducible exact ih4 _ _)
   | (with_reducible exact ih5 _ _ _)
   | (with_reducible exact plenumref10_Name.mono _ _)
   | (with_reducible exact LeO.refl _)
   | (with_reducible exact LeO.none _)
   | (with_reducible refine LeO.ite ?_ ?_)
   | (with_reducible refine LeO.bind ?_ (fun _ => ?_))
   | exact ih0 _ _
   | exact ih1 _ _
   | exact ih2 _ _ _
   | exact ih3 _ _
   | exact ih4 _ _
   | exact ih5 _ _ _
   | exact plenumref10_Name.mono _ _
   | exact LeO.none _
   | refine LeO.ite ?_ ?_
   | refine LeO.bind ?_ (fun _ => ?_)
  ·intro y0 y1 y2
   unfold plenumref34_Check.l4
   repeat' first
   | (with_reducible exact ih0 _ _)
   | (with_reducible exact ih1 _ _)
   | (with_reducible exact ih2 _ _ _)
   | (with_reducible exact ih3 _ _)
   | (with_reducible exact ih4 _ _)
   | (with_reducible exact ih5 _ _ _)
   | (with_reducible exact plenumref10_Name.mono _ _)
   | (with_reducible exact LeO.refl _)
   | (with_reducible exact LeO.none _)
   | (with_reducible refine LeO.ite ?_ ?_)
   | (with_reducible refine LeO.bind ?_ (fun _ => ?_))
   | exact ih0 _ _
   | exact ih1 _ _
   | exact ih2 _ _ _
   | exact ih3 _ _
   | exact ih4 _ _
   | exact ih5 _ _ _
   | exact plenumref10_Name.mono _ _
   | exact LeO.none _
   | refine LeO.ite ?_ ?_
   | refine LeO.bind ?_ (fun _ => ?_)
theorem plenumref34_Check.mono : ∀ a0 k,LeO (plenumref34_Check.f k a0) (plenumref34_Check.f (k + 1) a0) := by
 intro a0 k
 obtain ⟨ih0,ih1,ih2,ih3,ih4,ih5⟩ := plenumref34_Check.mono_l k
 unfold plenumref34_Check.f
 repeat' first
   | (with_reducible exact ih0 _ _)
   | (with_reducible exact ih1 _ _)
   | (with_reducible exact ih2 _ _ _)
   | (with_reducible exact ih3 _ _)
   | (with_reducible exact ih4 _ _)
   | (with_reducible exact ih5 _ _ _)
   | (with_reducible exact plenumref10_Name.mono _ _)
   | (with_reducible exact LeO.refl _)
   | (with_reducible exact LeO.none _)
   | (with_reducible refine LeO.ite ?_ ?_)
   | (with_reducible refine LeO.bind ?_ (fun _ => ?_))
   | exact ih0 _ _
   | exact ih1 _ _
   | exact ih2 _ _ _
   | exact ih3 _ _
   | exact ih4 _ _
   | exact ih5 _ _ _
   | exact plenumref10_Name.mono _ _
   | exact LeO.none _
   | refine LeO.ite ?_ ?_
   | refine LeO.bind ?_ (fun _ => ?_)
set_option maxHeartbeats 100000000 in
set_option maxRecDepth 100000 in
theorem plenumref34_Check.calls (k : Nat) (A0 : Option Addr) (c0 : Nat) (l0 : List (S26)) (r : Int) (w : World) (hr0 : Kd.C k26 w A0 l0.length l0) (hc0 : l0.length ≤ c0) (h : plenumref34_Check.f k l0 = some r) :
  Calls Try.prog 10 #[.slice A0 l0.length c0] w fun e w' => e = .returned (.int .i64 r) ∧ Below w.heap.size w w' := by
 have hu26 := Try.underlying26
 have hsgeq_ := str_geq
 have HR0 := Yd hr0
 have HC0 := Yd hc0
 clear hr0 hc0
 have HB := Yd (Below.refl w.heap.size w)
 have H : (if (l0.length : Int) > 64 then (some 7) else (plenumref34_Check.l0 k l0 0)) = some r := h
 clear h
 by_cases c2 : (l0.length : Int) > 64
 ·rw [if_pos c2] at H
  have c2b0 : decide (64 < (l0.length : Int)) = true := decide_eq_true c2
  have c2b1 : decide (64 < l0.length) = true := decide_eq_true (by omega)
  clear c2
  obtain rfl := Option.some.inj H
  go_enter Try.func10,Try.ntmps10
  go_wp2
  repeat (go_quiet (fail);try go_wp2)
  go_ret
  exact ⟨by first | rfl | (simp [errW_none,errW_some] <;> rfl) | (simp [*,errW_none,errW_some] <;> rfl),Y3 HB.out⟩
 ·rw [if_neg c2] at H
  have c2b0 : decide (64 < (l0.length : Int)) = false := decide_eq_false c2
  have c2b1 : decide (64 < l0.length) = false := decide_eq_false (by omega)
  clear c2
  have H' := Yd H
  clear H
  go_enter Try.func10,Try.ntmps10
  go_wp2
  repeat (go_quiet (fail);try go_wp2)
  go_loopg [3] k (fun kq v3 w' => ∃ (x3_1 : Int),v3 = .int .i64 x3_1 ∧ Aside0 (plenumref34_Check.l0 kq l0 x3_1 = some r) ∧ Aside0 (kq ≤ k) ∧ Aside0 (Below w.heap.size w w'))
  case atStart => exact ⟨(0),Y12,H',⟨Nat.le_refl _⟩,⟨Y3 HB.out⟩⟩
  case round =>
   clear H'
   try clear c1
   try clear c2
   try clear c2b0
   try clear c2b1
   try clear p2
   obtain ⟨x3_1,rfl,HA,HK1,HB⟩ := hrel
   cases gk with
   | zero => exact absurd HA.out (by simp [plenumref34_Check.l0])
   | succ k1 =>
    have H := HA.out
    clear HA
    simp only [plenumref34_Check.l0] at H
    by_cases c3 : x3_1 < (l0.length : Int)
    ·rw [if_pos c3] at H
     have c3b0 : decide (x3_1 < (l0.length : Int)) = true := decide_eq_true c3
     clear c3
     by_cases c4 : 0 ≤ x3_1
     case neg => rw [if_neg c4] at H;exact absurd H (by simp)
     rw [if_pos c4] at H
     have c4b0 : decide (0 ≤ x3_1) = true := decide_eq_true c4
     clear c4
     replace H := Option.bind_eq_some_iff.mp H
     obtain ⟨t278,A50,H⟩ := H
     replace H : (if t278 = true then (plenumref34_Check.l0 k1 l0 (wrap64 (x3_1 + 1))) else (some 4)) = some r := H
     have A5 := Yd A50
     clear A50
     by_cases c6 : t278 = true
     ·subst c6
      have H1 : (plenumref34_Check.l0 k1 l0 (wrap64 (x3_1 + 1))) = some r := by rw [if_pos rfl] at H;exact H
      clear H
      have H := H1
      clear H1
      have H' := Yd H
      clear H
      have p277 : 0 ≤ (x3_1 : Int) := Y9
      have q277 : x3_1 < (l0.length : Int) := Y9
      obtain ⟨ad277,e277,hx277_0,hx277_1,hx277_2,hx277_3,hx277_4,hx277_5⟩ := at_T26 HR0.out x3_1 p277 q277
      cases e277
      replace hx277_0 := Y10 HB.out hx277_0
      replace hx277_1 := Y10 HB.out hx277_1
      replace hx277_2 := Y10 HB.out hx277_2
      replace hx277_3 := Y10 HB.out hx277_3
      replace hx277_4 := Y10 HB.out hx277_4
      replace hx277_5 := Y10 HB.out hx277_5
      replace p277 := eq_true p277
      replace q277 := eq_true q277
      go_wp2_with (first | (go_at_call 26;(with_reducible refine (plenumref10_Name.calls k1 ((rd_T26 l0 x3_1).f0) true _ A5.out).mono ?_);rintro e w' ⟨rfl,⟨nd,rfl⟩⟩;(try first | exact ⟨rfl,_,World.drewN_drewN _ _ _⟩ | exact ⟨rfl,_,Eq.trans (World.drewN_drewN _ _ _) (congrArg (World.drewN _) (Nat.add_assoc _ _ _))⟩)))
      repeat (go_quiet (first | (go_at_call 26;(with_reducible refine (plenumref10_Name.calls k1 ((rd_T26 l0 x3_1).f0) true _ A5.out).mono ?_);rintro e w' ⟨rfl,⟨nd,rfl⟩⟩;(try first | exact ⟨rfl,_,World.drewN_drewN _ _ _⟩ | exact ⟨rfl,_,Eq.trans (World.drewN_drewN _ _ _) (congrArg (World.drewN _) (Nat.add_assoc _ _ _))⟩)));try go_wp2_with (first | (go_at_call 26;(with_reducible refine (plenumref10_Name.calls k1 ((rd_T26 l0 x3_1).f0) true _ A5.out).mono ?_);rintro e w' ⟨rfl,⟨nd,rfl⟩⟩;(try first | exact ⟨rfl,_,World.drewN_drewN _ _ _⟩ | exact ⟨rfl,_,Eq.trans (World.drewN_drewN _ _ _) (congrArg (World.drewN _) (Nat.add_assoc _ _ _))⟩))))
      go_roundg k1
      case measure => have := HK1.out;omega
      case rel => exact ⟨(wrap64 (x3_1 + 1)),Y12,H',⟨by have := HK1.out;omega⟩,⟨Y3 HB.out⟩⟩
     ·replace c6 := Bool.eq_false_iff.mpr c6
      subst c6
      have H1 : (some 4) = some r := by rw [if_neg (show ¬ (false = true) by decide)] at H;exact H
      clear H
      have H := H1
      clear H1
      obtain rfl := Option.some.inj H
      have p277 : 0 ≤ (x3_1 : Int) := Y9
      have q277 : x3_1 < (l0.length : Int) := Y9
      obtain ⟨ad277,e277,hx277_0,hx277_1,hx277_2,hx277_3,hx277_4,hx277_5⟩ := at_T26 HR0.out x3_1 p277 q277
      cases e277
      replace hx277_0 := Y10 HB.out hx277_0
      replace hx277_1 := Y10 HB.out hx277_1
      replace hx277_2 := Y10 HB.out hx277_2
      replace hx277_3 := Y10 HB.out hx277_3
      replace hx277_4 := Y10 HB.out hx277_4
      replace hx277_5 := Y10 HB.out hx277_5
      replace p277 := eq_true p277
      replace q277 := eq_true q277
      go_wp2_with (first | (go_at_call 26;(with_reducible refine (plenumref10_Name.calls k1 ((rd_T26 l0 x3_1).f0) false _ A5.out).mono ?_);rintro e w' ⟨rfl,⟨nd,rfl⟩⟩;(try first | exact ⟨rfl,_,World.drewN_drewN _ _ _⟩ | exact ⟨rfl,_,Eq.trans (World.drewN_drewN _ _ _) (congrArg (World.drewN _) (Nat.add_assoc _ _ _))⟩)))
      repeat (go_quiet (first | (go_at_call 26;(with_reducible refine (plenumref10_Name.calls k1 ((rd_T26 l0 x3_1).f0) false _ A5.out).mono ?_);rintro e w' ⟨rfl,⟨nd,rfl⟩⟩;(try first | exact ⟨rfl,_,World.drewN_drewN _ _ _⟩ | exact ⟨rfl,_,Eq.trans (World.drewN_drewN _ _ _) (congrArg (World.drewN _) (Nat.add_assoc _ _ _))⟩)));try go_wp2_with (first | (go_at_call 26;(with_reducible refine (plenumref10_Name.calls k1 ((rd_T26 l0 x3_1).f0) false _ A5.out).mono ?_);rintro e w' ⟨rfl,⟨nd,rfl⟩⟩;(try first | exact ⟨rfl,_,World.drewN_drewN _ _ _⟩ | exact ⟨rfl,_,Eq.trans (World.drewN_drewN _ _ _) (congrArg (World.drewN _) (Nat.add_assoc _ _ _))⟩))))
      go_ret
      exact ⟨by first | rfl | (simp [errW_none,errW_some] <;> rfl) | (simp [*,errW_none,errW_some] <;> rfl),Y3 HB.out⟩
    ·rw [if_neg c3] at H
     have c3b0 : decide (x3_1 < (l0.length : Int)) = false := decide_eq_false c3
     clear c3
     have H' := Yd H
     clear H
     go_wp2
     repeat (go_quiet (fail);try go_wp2)
     go_loopg [4] k1 (fun kq v4 w' => ∃ (x4_2 : Int),v4 = .int .i64 x4_2 ∧ Aside0 (plenumref34_Check.l1 kq l0 x4_2 = some r) ∧ Aside0 (kq ≤ k1) ∧ Aside0 (Below w.heap.size w w'))
     case atStart => exact ⟨(0),Y12,H',⟨Nat.le_refl _⟩,⟨Y3 HB.out⟩⟩
     case round =>
      clear H'
      try clear c1
      try clear c2
      try clear c2b0
      try clear c2b1
      try clear p2
      try clear q2
      try clear hx2
      try clear c3
      try clear c3b0
      try clear c4
      try clear c4b0
      try clear c6
      try clear p6
      try clear hx277_0
      try clear hx277_1
      try clear hx277_2
      try clear hx277_3
      try clear hx277_4
      try clear hx277_5
      try clear p2
      try clear p277
      try clear q277
      obtain ⟨x4_2,rfl,HA,HK2,HB⟩ := hrel
      cases gk with
      | zero => exact absurd HA.out (by simp [plenumref34_Check.l1])
      | succ k2 =>
       have H := HA.out
       clear HA
       simp only [plenumref34_Check.l1] at H
       by_cases c7 : x4_2 < (l0.length : Int)
       ·rw [if_pos c7] at H
        have c7b0 : decide (x4_2 < (l0.length : Int)) = true := decide_eq_true c7
        clear c7
        by_cases c8 : 0 ≤ x4_2
        case neg => rw [if_neg c8] at H;exact absurd H (by simp)
        rw [if_pos c8] at H
        have c8b0 : decide (0 ≤ x4_2) = true := decide_eq_true c8
        clear c8
        have HC9 := Yd H
        clear H
        have p279 : 0 ≤ (x4_2 : Int) := Y9
        have q279 : x4_2 < (l0.length : Int) := Y9
        obtain ⟨ad279,e279,hx279_0,hx279_1,hx279_2,hx279_3,hx279_4,hx279_5⟩ := at_T26 HR0.out x4_2 p279 q279
        cases e279
        replace hx279_0 := Y10 HB.out hx279_0
        replace hx279_1 := Y10 HB.out hx279_1
        replace hx279_2 := Y10 HB.out hx279_2
        replace hx279_3 := Y10 HB.out hx279_3
        replace hx279_4 := Y10 HB.out hx279_4
        replace hx279_5 := Y10 HB.out hx279_5
        replace p279 := eq_true p279
        replace q279 := eq_true q279
        go_upto_region 12 with (first | ((with_reducible refine gate_dst (N := 5) rfl ?_);refine box_event ?hg (N := 5) ?hd (cs := #[.string (⟨#[]⟩ : ByteArray),.int .i64 0,.int .i64 0,.int .i64 0,.int .i64 0,.int .i64 0]) (t := 26) ?hr ?_;(case hd => rfl);(case hg => rfl);(case hr => first | (go_simp;done) | (go_simp;rfl));intro gb280 hg w10 hbox hb;have n0_ := Yd (below_step (Y3 HB.out) hb);have n1_ := Yd (hbox);have n2_ := Yd ((by rw [hg];exact (below_size (Y3 HB.out)) : w.heap.size ≤ gb280));have n3_ := Yd ((by rw [hg];exact (below_size (Y3 HB.out)) : w.heap.size ≤ gb280));clear HB;have HB := n0_;have BK280 := n1_;have GW280 := n2_;have GE280 := n3_;clear n0_ n1_ n2_ n3_;clear hb hbox hg;have hcz11_0 : w10.cell? ⟨gb280,0,none⟩ = some (.string (⟨#[]⟩ : ByteArray)) := (blk_cell BK280.out 0).trans rfl;have hcz11_1 : w10.cell? ⟨gb280,1,none⟩ = some (.int .i64 0) := (blk_cell BK280.out 1).trans rfl;have hcz11_2 : w10.cell? ⟨gb280,2,none⟩ = some (.int .i64 0) := (blk_cell BK280.out 2).trans rfl;have hcz11_3 : w10.cell? ⟨gb280,3,none⟩ = some (.int .i64 0) := (blk_cell BK280.out 3).trans rfl;have hcz11_4 : w10.cell? ⟨gb280,4,none⟩ = some (.int .i64 0) := (blk_cell BK280.out 4).trans rfl;have hcz11_5 : w10.cell? ⟨gb280,5,none⟩ = some (.int .i64 0) := (blk_cell BK280.out 5).trans rfl;have hfz11_0 := blk_frozen BK280.out 0;have hfz11_1 := blk_frozen BK280.out 1;have hfz11_2 := blk_frozen BK280.out 2;have hfz11_3 := blk_frozen BK280.out 3;have hfz11_4 := blk_frozen BK280.out 4;have hfz11_5 := blk_frozen BK280.out 5))
        repeat (go_quiet (first | ((with_reducible refine gate_dst (N := 5) rfl ?_);refine box_event ?hg (N := 5) ?hd (cs := #[.string (⟨#[]⟩ : ByteArray),.int .i64 0,.int .i64 0,.int .i64 0,.int .i64 0,.int .i64 0]) (t := 26) ?hr ?_;(case hd => rfl);(case hg => rfl);(case hr => first | (go_simp;done) | (go_simp;rfl));intro gb280 hg w10 hbox hb;have n0_ := Yd (below_step (Y3 HB.out) hb);have n1_ := Yd (hbox);have n2_ := Yd ((by rw [hg];exact (below_size (Y3 HB.out)) : w.heap.size ≤ gb280));have n3_ := Yd ((by rw [hg];exact (below_size (Y3 HB.out)) : w.heap.size ≤ gb280));clear HB;have HB := n0_;have BK280 := n1_;have GW280 := n2_;have GE280 := n3_;clear n0_ n1_ n2_ n3_;clear hb hbox hg;have hcz11_0 : w10.cell? ⟨gb280,0,none⟩ = some (.string (⟨#[]⟩ : ByteArray)) := (blk_cell BK280.out 0).trans rfl;have hcz11_1 : w10.cell? ⟨gb280,1,none⟩ = some (.int .i64 0) := (blk_cell BK280.out 1).trans rfl;have hcz11_2 : w10.cell? ⟨gb280,2,none⟩ = some (.int .i64 0) := (blk_cell BK280.out 2).trans rfl;have hcz11_3 : w10.cell? ⟨gb280,3,none⟩ = some (.int .i64 0) := (blk_cell BK280.out 3).trans rfl;have hcz11_4 : w10.cell? ⟨gb280,4,none⟩ = some (.int .i64 0) := (blk_cell BK280.out 4).trans rfl;have hcz11_5 : w10.cell? ⟨gb280,5,none⟩ = some (.int .i64 0) := (blk_cell BK280.out 5).trans rfl;have hfz11_0 := blk_frozen BK280.out 0;have hfz11_1 := blk_frozen BK280.out 1;have hfz11_2 := blk_frozen BK280.out 2;have hfz11_3 := blk_frozen BK280.out 3;have hfz11_4 := blk_frozen BK280.out 4;have hfz11_5 := blk_frozen BK280.out 5));go_upto_region 12 with (first | ((with_reducible refine gate_dst (N := 5) rfl ?_);refine box_event ?hg (N := 5) ?hd (cs := #[.string (⟨#[]⟩ : ByteArray),.int .i64 0,.int .i64 0,.int .i64 0,.int .i64 0,.int .i64 0]) (t := 26) ?hr ?_;(case hd => rfl);(case hg => rfl);(case hr => first | (go_simp;done) | (go_simp;rfl));intro gb280 hg w10 hbox hb;have n0_ := Yd (below_step (Y3 HB.out) hb);have n1_ := Yd (hbox);have n2_ := Yd ((by rw [hg];exact (below_size (Y3 HB.out)) : w.heap.size ≤ gb280));have n3_ := Yd ((by rw [hg];exact (below_size (Y3 HB.out)) : w.heap.size ≤ gb280));clear HB;have HB := n0_;have BK280 := n1_;have GW280 := n2_;have GE280 := n3_;clear n0_ n1_ n2_ n3_;clear hb hbox hg;have hcz11_0 : w10.cell? ⟨gb280,0,none⟩ = some (.string (⟨#[]⟩ : ByteArray)) := (blk_cell BK280.out 0).trans rfl;have hcz11_1 : w10.cell? ⟨gb280,1,none⟩ = some (.int .i64 0) := (blk_cell BK280.out 1).trans rfl;have hcz11_2 : w10.cell? ⟨gb280,2,none⟩ = some (.int .i64 0) := (blk_cell BK280.out 2).trans rfl;have hcz11_3 : w10.cell? ⟨gb280,3,none⟩ = some (.int .i64 0) := (blk_cell BK280.out 3).trans rfl;have hcz11_4 : w10.cell? ⟨gb280,4,none⟩ = some (.int .i64 0) := (blk_cell BK280.out 4).trans rfl;have hcz11_5 : w10.cell? ⟨gb280,5,none⟩ = some (.int .i64 0) := (blk_cell BK280.out 5).trans rfl;have hfz11_0 := blk_frozen BK280.out 0;have hfz11_1 := blk_frozen BK280.out 1;have hfz11_2 := blk_frozen BK280.out 2;have hfz11_3 := blk_frozen BK280.out 3;have hfz11_4 := blk_frozen BK280.out 4;have hfz11_5 := blk_frozen BK280.out 5)))
        (try simp only [Act.put,List.setIfInBounds_toArray,List.set_cons_zero,List.set_cons_succ])
        go_cut [57] (fun v57 wc => ∃ (kq : Nat) (x57_8 : Bool),v57 = .bool x57_8 ∧ Aside0 (plenumref34_Check.j2 kq l0 x4_2 x57_8 = some r) ∧ Aside0 (kq ≤ k2) ∧ Aside0 (wc.heap[gb280]? = some (.cells #[.string ((rd_T26 l0 x4_2).f0),.int .i64 ((rd_T26 l0 x4_2).f1),.int .i64 ((rd_T26 l0 x4_2).f2),.int .i64 ((rd_T26 l0 x4_2).f3.f0),.int .i64 ((rd_T26 l0 x4_2).f3.f1),.int .i64 ((rd_T26 l0 x4_2).f4)] 26 (0,0))) ∧ Aside0 (Below w.heap.size w wc))
        case first =>
         have H := HC9.out
         clear HC9
         replace H := Option.bind_eq_some_iff.mp H
         obtain ⟨t281,A120,H⟩ := H
         replace H : (if t281 = true then ((plenumref34_in.f ((rd_T26 l0 x4_2).f2) 0 6311433600).bind fun t282 => (if t282 = true then (if ((rd_T26 l0 x4_2).f1) ≥ ((rd_T26 l0 x4_2).f2) then (plenumref34_Check.j2 k2 l0 x4_2 true) else ((plenumref34_in.f ((rd_T26 l0 x4_2).f4) 0 1000000000).bind fun t283 => (plenumref34_Check.j2 k2 l0 x4_2 (!t283)))) else (plenumref34_Check.j2 k2 l0 x4_2 true))) else (plenumref34_Check.j2 k2 l0 x4_2 true)) = some r := H
         have A12 := Yd A120
         clear A120
         by_cases c13 : t281 = true
         ·subst c13
          have H1 : ((plenumref34_in.f ((rd_T26 l0 x4_2).f2) 0 6311433600).bind fun t282 => (if t282 = true then (if ((rd_T26 l0 x4_2).f1) ≥ ((rd_T26 l0 x4_2).f2) then (plenumref34_Check.j2 k2 l0 x4_2 true) else ((plenumref34_in.f ((rd_T26 l0 x4_2).f4) 0 1000000000).bind fun t283 => (plenumref34_Check.j2 k2 l0 x4_2 (!t283)))) else (plenumref34_Check.j2 k2 l0 x4_2 true))) = some r := by rw [if_pos rfl] at H;exact H
          clear H
          have H := H1
          clear H1
          replace H := Option.bind_eq_some_iff.mp H
          obtain ⟨t282,A140,H⟩ := H
          replace H : (if t282 = true then (if ((rd_T26 l0 x4_2).f1) ≥ ((rd_T26 l0 x4_2).f2) then (plenumref34_Check.j2 k2 l0 x4_2 true) else ((plenumref34_in.f ((rd_T26 l0 x4_2).f4) 0 1000000000).bind fun t283 => (plenumref34_Check.j2 k2 l0 x4_2 (!t283)))) else (plenumref34_Check.j2 k2 l0 x4_2 true)) = some r := H
          have A14 := Yd A140
          clear A140
          by_cases c15 : t282 = true
          ·subst c15
           have H1 : (if ((rd_T26 l0 x4_2).f1) ≥ ((rd_T26 l0 x4_2).f2) then (plenumref34_Check.j2 k2 l0 x4_2 true) else ((plenumref34_in.f ((rd_T26 l0 x4_2).f4) 0 1000000000).bind fun t283 => (plenumref34_Check.j2 k2 l0 x4_2 (!t283)))) = some r := by rw [if_pos rfl] at H;exact H
           clear H
           have H := H1
           clear H1
           by_cases c16 : ((rd_T26 l0 x4_2).f1) ≥ ((rd_T26 l0 x4_2).f2)
           ·rw [if_pos c16] at H
            have c16b0 : decide (((rd_T26 l0 x4_2).f2) ≤ ((rd_T26 l0 x4_2).f1)) = true := decide_eq_true c16
            clear c16
            (first | rw [c16b0] | (simp only [i64_w,i32_w];rw [c16b0]) | skip)
            have H' := Yd H
            clear H
            have hcz17_0 : w10.cell? ⟨gb280,0,none⟩ = some (.string (⟨#[]⟩ : ByteArray)) := (blk_cell BK280.out 0).trans rfl
            have hcz17_1 : w10.cell? ⟨gb280,1,none⟩ = some (.int .i64 0) := (blk_cell BK280.out 1).trans rfl
            have hcz17_2 : w10.cell? ⟨gb280,2,none⟩ = some (.int .i64 0) := (blk_cell BK280.out 2).trans rfl
            have hcz17_3 : w10.cell? ⟨gb280,3,none⟩ = some (.int .i64 0) := (blk_cell BK280.out 3).trans rfl
            have hcz17_4 : w10.cell? ⟨gb280,4,none⟩ = some (.int .i64 0) := (blk_cell BK280.out 4).trans rfl
            have hcz17_5 : w10.cell? ⟨gb280,5,none⟩ = some (.int .i64 0) := (blk_cell BK280.out 5).trans rfl
            have hfz17_0 := blk_frozen BK280.out 0
            have hfz17_1 := blk_frozen BK280.out 1
            have hfz17_2 := blk_frozen BK280.out 2
            have hfz17_3 := blk_frozen BK280.out 3
            have hfz17_4 := blk_frozen BK280.out 4
            have hfz17_5 := blk_frozen BK280.out 5
            go_wp2_with (first | (go_at_call 27;(with_reducible refine (plenumref34_in.calls ((rd_T26 l0 x4_2).f1) 0 6311433600 true _ A12.out).mono ?_);rintro e w' ⟨rfl,⟨nd,rfl⟩⟩;(try first | exact ⟨rfl,_,World.drewN_drewN _ _ _⟩ | exact ⟨rfl,_,Eq.trans (World.drewN_drewN _ _ _) (congrArg (World.drewN _) (Nat.add_assoc _ _ _))⟩)) | (go_at_call 27;(with_reducible refine (plenumref34_in.calls ((rd_T26 l0 x4_2).f2) 0 6311433600 true _ A14.out).mono ?_);rintro e w' ⟨rfl,⟨nd,rfl⟩⟩;(try first | exact ⟨rfl,_,World.drewN_drewN _ _ _⟩ | exact ⟨rfl,_,Eq.trans (World.drewN_drewN _ _ _) (congrArg (World.drewN _) (Nat.add_assoc _ _ _))⟩)))
            repeat (go_quiet (first | (go_at_call 27;(with_reducible refine (plenumref34_in.calls ((rd_T26 l0 x4_2).f1) 0 6311433600 true _ A12.out).mono ?_);rintro e w' ⟨rfl,⟨nd,rfl⟩⟩;(try first | exact ⟨rfl,_,World.drewN_drewN _ _ _⟩ | exact ⟨rfl,_,Eq.trans (World.drewN_drewN _ _ _) (congrArg (World.drewN _) (Nat.add_assoc _ _ _))⟩)) | (go_at_call 27;(with_reducible refine (plenumref34_in.calls ((rd_T26 l0 x4_2).f2) 0 6311433600 true _ A14.out).mono ?_);rintro e w' ⟨rfl,⟨nd,rfl⟩⟩;(try first | exact ⟨rfl,_,World.drewN_drewN _ _ _⟩ | exact ⟨rfl,_,Eq.trans (World.drewN_drewN _ _ _) (congrArg (World.drewN _) (Nat.add_assoc _ _ _))⟩)));try go_wp2_with (first | (go_at_call 27;(with_reducible refine (plenumref34_in.calls ((rd_T26 l0 x4_2).f1) 0 6311433600 true _ A12.out).mono ?_);rintro e w' ⟨rfl,⟨nd,rfl⟩⟩;(try first | exact ⟨rfl,_,World.drewN_drewN _ _ _⟩ | exact ⟨rfl,_,Eq.trans (World.drewN_drewN _ _ _) (congrArg (World.drewN _) (Nat.add_assoc _ _ _))⟩)) | (go_at_call 27;(with_reducible refine (plenumref34_in.calls ((rd_T26 l0 x4_2).f2) 0 6311433600 true _ A14.out).mono ?_);rintro e w' ⟨rfl,⟨nd,rfl⟩⟩;(try first | exact ⟨rfl,_,World.drewN_drewN _ _ _⟩ | exact ⟨rfl,_,Eq.trans (World.drewN_drewN _ _ _) (congrArg (World.drewN _) (Nat.add_assoc _ _ _))⟩))))
            go_meet
            case rel => exact ⟨_,(true),Y12,H',⟨by have := HK1.out;have := HK2.out;first | omega | exact Nat.le_refl _⟩,⟨by (with_reducible repeat (first | refine blk_drewN ?_ _ | refine blk_drew ?_ | refine blk_alloc ?_ _));refine blk_put (cs := #[.string ((rd_T26 l0 x4_2).f0),.int .i64 ((rd_T26 l0 x4_2).f1),.int .i64 ((rd_T26 l0 x4_2).f2),.int .i64 ((rd_T26 l0 x4_2).f3.f0),.int .i64 ((rd_T26 l0 x4_2).f3.f1),.int .i64 0]) ?_ 5 _ rfl;(with_reducible repeat (first | refine blk_drewN ?_ _ | refine blk_drew ?_ | refine blk_alloc ?_ _));refine blk_put (cs := #[.string ((rd_T26 l0 x4_2).f0),.int .i64 ((rd_T26 l0 x4_2).f1),.int .i64 ((rd_T26 l0 x4_2).f2),.int .i64 ((rd_T26 l0 x4_2).f3.f0),.int .i64 0,.int .i64 0]) ?_ 4 _ rfl;(with_reducible repeat (first | refine blk_drewN ?_ _ | refine blk_drew ?_ | refine blk_alloc ?_ _));refine blk_put (cs := #[.string ((rd_T26 l0 x4_2).f0),.int .i64 ((rd_T26 l0 x4_2).f1),.int .i64 ((rd_T26 l0 x4_2).f2),.int .i64 0,.int .i64 0,.int .i64 0]) ?_ 3 _ rfl;(with_reducible repeat (first | refine blk_drewN ?_ _ | refine blk_drew ?_ | refine blk_alloc ?_ _));refine blk_put (cs := #[.string ((rd_T26 l0 x4_2).f0),.int .i64 ((rd_T26 l0 x4_2).f1),.int .i64 0,.int .i64 0,.int .i64 0,.int .i64 0]) ?_ 2 _ rfl;(with_reducible repeat (first | refine blk_drewN ?_ _ | refine blk_drew ?_ | refine blk_alloc ?_ _));refine blk_put (cs := #[.string ((rd_T26 l0 x4_2).f0),.int .i64 0,.int .i64 0,.int .i64 0,.int .i64 0,.int .i64 0]) ?_ 1 _ rfl;(with_reducible repeat (first | refine blk_drewN ?_ _ | refine blk_drew ?_ | refine blk_alloc ?_ _));refine blk_put (cs := #[.string (⟨#[]⟩ : ByteArray),.int .i64 0,.int .i64 0,.int .i64 0,.int .i64 0,.int .i64 0]) ?_ 0 _ rfl;(with_reducible repeat (first | refine blk_drewN ?_ _ | refine blk_drew ?_ | refine blk_alloc ?_ _));exact BK280.out⟩,⟨by repeat (first | (with_reducible first | exact HB.out | apply below_alloc | apply Y15 | apply below_drew1 | refine below_set ?_ GE280.out) | exact HB.out)⟩⟩
           ·rw [if_neg c16] at H
            have c16b0 : decide (((rd_T26 l0 x4_2).f2) ≤ ((rd_T26 l0 x4_2).f1)) = false := decide_eq_false c16
            clear c16
            (first | rw [c16b0] | (simp only [i64_w,i32_w];rw [c16b0]) | skip)
            replace H := Option.bind_eq_some_iff.mp H
            obtain ⟨t283,A180,H⟩ := H
            replace H : (plenumref34_Check.j2 k2 l0 x4_2 (!t283)) = some r := H
            have A18 := Yd A180
            clear A180
            have H' := Yd H
            clear H
            have hcz19_0 : w10.cell? ⟨gb280,0,none⟩ = some (.string (⟨#[]⟩ : ByteArray)) := (blk_cell BK280.out 0).trans rfl
            have hcz19_1 : w10.cell? ⟨gb280,1,none⟩ = some (.int .i64 0) := (blk_cell BK280.out 1).trans rfl
            have hcz19_2 : w10.cell? ⟨gb280,2,none⟩ = some (.int .i64 0) := (blk_cell BK280.out 2).trans rfl
            have hcz19_3 : w10.cell? ⟨gb280,3,none⟩ = some (.int .i64 0) := (blk_cell BK280.out 3).trans rfl
            have hcz19_4 : w10.cell? ⟨gb280,4,none⟩ = some (.int .i64 0) := (blk_cell BK280.out 4).trans rfl
            have hcz19_5 : w10.cell? ⟨gb280,5,none⟩ = some (.int .i64 0) := (blk_cell BK280.out 5).trans rfl
            have hfz19_0 := blk_frozen BK280.out 0
            have hfz19_1 := blk_frozen BK280.out 1
            have hfz19_2 := blk_frozen BK280.out 2
            have hfz19_3 := blk_frozen BK280.out 3
            have hfz19_4 := blk_frozen BK280.out 4
            have hfz19_5 := blk_frozen BK280.out 5
            go_wp2_with (first | (go_at_call 27;(with_reducible refine (plenumref34_in.calls ((rd_T26 l0 x4_2).f1) 0 6311433600 true _ A12.out).mono ?_);rintro e w' ⟨rfl,⟨nd,rfl⟩⟩;(try first | exact ⟨rfl,_,World.drewN_drewN _ _ _⟩ | exact ⟨rfl,_,Eq.trans (World.drewN_drewN _ _ _) (congrArg (World.drewN _) (Nat.add_assoc _ _ _))⟩)) | (go_at_call 27;(with_reducible refine (plenumref34_in.calls ((rd_T26 l0 x4_2).f2) 0 6311433600 true _ A14.out).mono ?_);rintro e w' ⟨rfl,⟨nd,rfl⟩⟩;(try first | exact ⟨rfl,_,World.drewN_drewN _ _ _⟩ | exact ⟨rfl,_,Eq.trans (World.drewN_drewN _ _ _) (congrArg (World.drewN _) (Nat.add_assoc _ _ _))⟩)) | (go_at_call 27;(with_reducible refine (plenumref34_in.calls ((rd_T26 l0 x4_2).f4) 0 1000000000 t283 _ A18.out).mono ?_);rintro e w' ⟨rfl,⟨nd,rfl⟩⟩;(try first | exact ⟨rfl,_,World.drewN_drewN _ _ _⟩ | exact ⟨rfl,_,Eq.trans (World.drewN_drewN _ _ _) (congrArg (World.drewN _) (Nat.add_assoc _ _ _))⟩)))
            repeat (go_quiet (first | (go_at_call 27;(with_reducible refine (plenumref34_in.calls ((rd_T26 l0 x4_2).f1) 0 6311433600 true _ A12.out).mono ?_);rintro e w' ⟨rfl,⟨nd,rfl⟩⟩;(try first | exact ⟨rfl,_,World.drewN_drewN _ _ _⟩ | exact ⟨rfl,_,Eq.trans (World.drewN_drewN _ _ _) (congrArg (World.drewN _) (Nat.add_assoc _ _ _))⟩)) | (go_at_call 27;(with_reducible refine (plenumref34_in.calls ((rd_T26 l0 x4_2).f2) 0 6311433600 true _ A14.out).mono ?_);rintro e w' ⟨rfl,⟨nd,rfl⟩⟩;(try first | exact ⟨rfl,_,World.drewN_drewN _ _ _⟩ | exact ⟨rfl,_,Eq.trans (World.drewN_drewN _ _ _) (congrArg (World.drewN _) (Nat.add_assoc _ _ _))⟩)) | (go_at_call 27;(with_reducible refine (plenumref34_in.calls ((rd_T26 l0 x4_2).f4) 0 1000000000 t283 _ A18.out).mono ?_);rintro e w' ⟨rfl,⟨nd,rfl⟩⟩;(try first | exact ⟨rfl,_,World.drewN_drewN _ _ _⟩ | exact ⟨rfl,_,Eq.trans (World.drewN_drewN _ _ _) (congrArg (World.drewN _) (Nat.add_assoc _ _ _))⟩)));try go_wp2_with (first | (go_at_call 27;(with_reducible refine (plenumref34_in.calls ((rd_T26 l0 x4_2).f1) 0 6311433600 true _ A12.out).mono ?_);rintro e w' ⟨rfl,⟨nd,rfl⟩⟩;(try first | exact ⟨rfl,_,World.drewN_drewN _ _ _⟩ | exact ⟨rfl,_,Eq.trans (World.drewN_drewN _ _ _) (congrArg (World.drewN _) (Nat.add_assoc _ _ _))⟩)) | (go_at_call 27;(with_reducible refine (plenumref34_in.calls ((rd_T26 l0 x4_2).f2) 0 6311433600 true _ A14.out).mono ?_);rintro e w' ⟨rfl,⟨nd,rfl⟩⟩;(try first | exact ⟨rfl,_,World.drewN_drewN _ _ _⟩ | exact ⟨rfl,_,Eq.trans (World.drewN_drewN _ _ _) (congrArg (World.drewN _) (Nat.add_assoc _ _ _))⟩)) | (go_at_call 27;(with_reducible refine (plenumref34_in.calls ((rd_T26 l0 x4_2).f4) 0 1000000000 t283 _ A18.out).mono ?_);rintro e w' ⟨rfl,⟨nd,rfl⟩⟩;(try first | exact ⟨rfl,_,World.drewN_drewN _ _ _⟩ | exact ⟨rfl,_,Eq.trans (World.drewN_drewN _ _ _) (congrArg (World.drewN _) (Nat.add_assoc _ _ _))⟩))))
            go_meet
            case rel => exact ⟨_,(!t283),Y12,H',⟨by have := HK1.out;have := HK2.out;first | omega | exact Nat.le_refl _⟩,⟨by (with_reducible repeat (first | refine blk_drewN ?_ _ | refine blk_drew ?_ | refine blk_alloc ?_ _));refine blk_put (cs := #[.string ((rd_T26 l0 x4_2).f0),.int .i64 ((rd_T26 l0 x4_2).f1),.int .i64 ((rd_T26 l0 x4_2).f2),.int .i64 ((rd_T26 l0 x4_2).f3.f0),.int .i64 ((rd_T26 l0 x4_2).f3.f1),.int .i64 0]) ?_ 5 _ rfl;(with_reducible repeat (first | refine blk_drewN ?_ _ | refine blk_drew ?_ | refine blk_alloc ?_ _));refine blk_put (cs := #[.string ((rd_T26 l0 x4_2).f0),.int .i64 ((rd_T26 l0 x4_2).f1),.int .i64 ((rd_T26 l0 x4_2).f2),.int .i64 ((rd_T26 l0 x4_2).f3.f0),.int .i64 0,.int .i64 0]) ?_ 4 _ rfl;(with_reducible repeat (first | refine blk_drewN ?_ _ | refine blk_drew ?_ | refine blk_alloc ?_ _));refine blk_put (cs := #[.string ((rd_T26 l0 x4_2).f0),.int .i64 ((rd_T26 l0 x4_2).f1),.int .i64 ((rd_T26 l0 x4_2).f2),.int .i64 0,.int .i64 0,.int .i64 0]) ?_ 3 _ rfl;(with_reducible repeat (first | refine blk_drewN ?_ _ | refine blk_drew ?_ | refine blk_alloc ?_ _));refine blk_put (cs := #[.string ((rd_T26 l0 x4_2).f0),.int .i64 ((rd_T26 l0 x4_2).f1),.int .i64 0,.int .i64 0,.int .i64 0,.int .i64 0]) ?_ 2 _ rfl;(with_reducible repeat (first | refine blk_drewN ?_ _ | refine blk_drew ?_ | refine blk_alloc ?_ _));refine blk_put (cs := #[.string ((rd_T26 l0 x4_2).f0),.int .i64 0,.int .i64 0,.int .i64 0,.int .i64 0,.int .i64 0]) ?_ 1 _ rfl;(with_reducible repeat (first | refine blk_drewN ?_ _ | refine blk_drew ?_ | refine blk_alloc ?_ _));refine blk_put (cs := #[.string (⟨#[]⟩ : ByteArray),.int .i64 0,.int .i64 0,.int .i64 0,.int .i64 0,.int .i64 0]) ?_ 0 _ rfl;(with_reducible repeat (first | refine blk_drewN ?_ _ | refine blk_drew ?_ | refine blk_alloc ?_ _));exact BK280.out⟩,⟨by repeat (first | (with_reducible first | exact HB.out | apply below_alloc | apply Y15 | apply below_drew1 | refine below_set ?_ GE280.out) | exact HB.out)⟩⟩
          ·replace c15 := Bool.eq_false_iff.mpr c15
           subst c15
           have H1 : (plenumref34_Check.j2 k2 l0 x4_2 true) = some r := by rw [if_neg (show ¬ (false = true) by decide)] at H;exact H
           clear H
           have H := H1
           clear H1
           have H' := Yd H
           clear H
           have hcz20_0 : w10.cell? ⟨gb280,0,none⟩ = some (.string (⟨#[]⟩ : ByteArray)) := (blk_cell BK280.out 0).trans rfl
           have hcz20_1 : w10.cell? ⟨gb280,1,none⟩ = some (.int .i64 0) := (blk_cell BK280.out 1).trans rfl
           have hcz20_2 : w10.cell? ⟨gb280,2,none⟩ = some (.int .i64 0) := (blk_cell BK280.out 2).trans rfl
           have hcz20_3 : w10.cell? ⟨gb280,3,none⟩ = some (.int .i64 0) := (blk_cell BK280.out 3).trans rfl
           have hcz20_4 : w10.cell? ⟨gb280,4,none⟩ = some (.int .i64 0) := (blk_cell BK280.out 4).trans rfl
           have hcz20_5 : w10.cell? ⟨gb280,5,none⟩ = some (.int .i64 0) := (blk_cell BK280.out 5).trans rfl
           have hfz20_0 := blk_frozen BK280.out 0
           have hfz20_1 := blk_frozen BK280.out 1
           have hfz20_2 := blk_frozen BK280.out 2
           have hfz20_3 := blk_frozen BK280.out 3
           have hfz20_4 := blk_frozen BK280.out 4
           have hfz20_5 := blk_frozen BK280.out 5
           go_wp2_with (first | (go_at_call 27;(with_reducible refine (plenumref34_in.calls ((rd_T26 l0 x4_2).f1) 0 6311433600 true _ A12.out).mono ?_);rintro e w' ⟨rfl,⟨nd,rfl⟩⟩;(try first | exact ⟨rfl,_,World.drewN_drewN _ _ _⟩ | exact ⟨rfl,_,Eq.trans (World.drewN_drewN _ _ _) (congrArg (World.drewN _) (Nat.add_assoc _ _ _))⟩)) | (go_at_call 27;(with_reducible refine (plenumref34_in.calls ((rd_T26 l0 x4_2).f2) 0 6311433600 false _ A14.out).mono ?_);rintro e w' ⟨rfl,⟨nd,rfl⟩⟩;(try first | exact ⟨rfl,_,World.drewN_drewN _ _ _⟩ | exact ⟨rfl,_,Eq.trans (World.drewN_drewN _ _ _) (congrArg (World.drewN _) (Nat.add_assoc _ _ _))⟩)))
           repeat (go_quiet (first | (go_at_call 27;(with_reducible refine (plenumref34_in.calls ((rd_T26 l0 x4_2).f1) 0 6311433600 true _ A12.out).mono ?_);rintro e w' ⟨rfl,⟨nd,rfl⟩⟩;(try first | exact ⟨rfl,_,World.drewN_drewN _ _ _⟩ | exact ⟨rfl,_,Eq.trans (World.drewN_drewN _ _ _) (congrArg (World.drewN _) (Nat.add_assoc _ _ _))⟩)) | (go_at_call 27;(with_reducible refine (plenumref34_in.calls ((rd_T26 l0 x4_2).f2) 0 6311433600 false _ A14.out).mono ?_);rintro e w' ⟨rfl,⟨nd,rfl⟩⟩;(try first | exact ⟨rfl,_,World.drewN_drewN _ _ _⟩ | exact ⟨rfl,_,Eq.trans (World.drewN_drewN _ _ _) (congrArg (World.drewN _) (Nat.add_assoc _ _ _))⟩)));try go_wp2_with (first | (go_at_call 27;(with_reducible refine (plenumref34_in.calls ((rd_T26 l0 x4_2).f1) 0 6311433600 true _ A12.out).mono ?_);rintro e w' ⟨rfl,⟨nd,rfl⟩⟩;(try first | exact ⟨rfl,_,World.drewN_drewN _ _ _⟩ | exact ⟨rfl,_,Eq.trans (World.drewN_drewN _ _ _) (congrArg (World.drewN _) (Nat.add_assoc _ _ _))⟩)) | (go_at_call 27;(with_reducible refine (plenumref34_in.calls ((rd_T26 l0 x4_2).f2) 0 6311433600 false _ A14.out).mono ?_);rintro e w' ⟨rfl,⟨nd,rfl⟩⟩;(try first | exact ⟨rfl,_,World.drewN_drewN _ _ _⟩ | exact ⟨rfl,_,Eq.trans (World.drewN_drewN _ _ _) (congrArg (World.drewN _) (Nat.add_assoc _ _ _))⟩))))
           go_meet
           case rel => exact ⟨_,(true),Y12,H',⟨by have := HK1.out;have := HK2.out;first | omega | exact Nat.le_refl _⟩,⟨by (with_reducible repeat (first | refine blk_drewN ?_ _ | refine blk_drew ?_ | refine blk_alloc ?_ _));refine blk_put (cs := #[.string ((rd_T26 l0 x4_2).f0),.int .i64 ((rd_T26 l0 x4_2).f1),.int .i64 ((rd_T26 l0 x4_2).f2),.int .i64 ((rd_T26 l0 x4_2).f3.f0),.int .i64 ((rd_T26 l0 x4_2).f3.f1),.int .i64 0]) ?_ 5 _ rfl;(with_reducible repeat (first | refine blk_drewN ?_ _ | refine blk_drew ?_ | refine blk_alloc ?_ _));refine blk_put (cs := #[.string ((rd_T26 l0 x4_2).f0),.int .i64 ((rd_T26 l0 x4_2).f1),.int .i64 ((rd_T26 l0 x4_2).f2),.int .i64 ((rd_T26 l0 x4_2).f3.f0),.int .i64 0,.int .i64 0]) ?_ 4 _ rfl;(with_reducible repeat (first | refine blk_drewN ?_ _ | refine blk_drew ?_ | refine blk_alloc ?_ _));refine blk_put (cs := #[.string ((rd_T26 l0 x4_2).f0),.int .i64 ((rd_T26 l0 x4_2).f1),.int .i64 ((rd_T26 l0 x4_2).f2),.int .i64 0,.int .i64 0,.int .i64 0]) ?_ 3 _ rfl;(with_reducible repeat (first | refine blk_drewN ?_ _ | refine blk_drew ?_ | refine blk_alloc ?_ _));refine blk_put (cs := #[.string ((rd_T26 l0 x4_2).f0),.int .i64 ((rd_T26 l0 x4_2).f1),.int .i64 0,.int .i64 0,.int .i64 0,.int .i64 0]) ?_ 2 _ rfl;(with_reducible repeat (first | refine blk_drewN ?_ _ | refine blk_drew ?_ | refine blk_alloc ?_ _));refine blk_put (cs := #[.string ((rd_T26 l0 x4_2).f0),.int .i64 0,.int .i64 0,.int .i64 0,.int .i64 0,.int .i64 0]) ?_ 1 _ rfl;(with_reducible repeat (first | refine blk_drewN ?_ _ | refine blk_drew ?_ | refine blk_alloc ?_ _));refine blk_put (cs := #[.string (⟨#[]⟩ : ByteArray),.int .i64 0,.int .i64 0,.int .i64 0,.int .i64 0,.int .i64 0]) ?_ 0 _ rfl;(with_reducible repeat (first | refine blk_drewN ?_ _ | refine blk_drew ?_ | refine blk_alloc ?_ _));exact BK280.out⟩,⟨by repeat (first | (with_reducible first | exact HB.out | apply below_alloc | apply Y15 | apply below_drew1 | refine below_set ?_ GE280.out) | exact HB.out)⟩⟩
         ·replace c13 := Bool.eq_false_iff.mpr c13
          subst c13
          have H1 : (plenumref34_Check.j2 k2 l0 x4_2 true) = some r := by rw [if_neg (show ¬ (false = true) by decide)] at H;exact H
          clear H
          have H := H1
          clear H1
          have H' := Yd H
          clear H
          have hcz21_0 : w10.cell? ⟨gb280,0,none⟩ = some (.string (⟨#[]⟩ : ByteArray)) := (blk_cell BK280.out 0).trans rfl
          have hcz21_1 : w10.cell? ⟨gb280,1,none⟩ = some (.int .i64 0) := (blk_cell BK280.out 1).trans rfl
          have hcz21_2 : w10.cell? ⟨gb280,2,none⟩ = some (.int .i64 0) := (blk_cell BK280.out 2).trans rfl
          have hcz21_3 : w10.cell? ⟨gb280,3,none⟩ = some (.int .i64 0) := (blk_cell BK280.out 3).trans rfl
          have hcz21_4 : w10.cell? ⟨gb280,4,none⟩ = some (.int .i64 0) := (blk_cell BK280.out 4).trans rfl
          have hcz21_5 : w10.cell? ⟨gb280,5,none⟩ = some (.int .i64 0) := (blk_cell BK280.out 5).trans rfl
          have hfz21_0 := blk_frozen BK280.out 0
          have hfz21_1 := blk_frozen BK280.out 1
          have hfz21_2 := blk_frozen BK280.out 2
          have hfz21_3 := blk_frozen BK280.out 3
          have hfz21_4 := blk_frozen BK280.out 4
          have hfz21_5 := blk_frozen BK280.out 5
          go_wp2_with (first | (go_at_call 27;(with_reducible refine (plenumref34_in.calls ((rd_T26 l0 x4_2).f1) 0 6311433600 false _ A12.out).mono ?_);rintro e w' ⟨rfl,⟨nd,rfl⟩⟩;(try first | exact ⟨rfl,_,World.drewN_drewN _ _ _⟩ | exact ⟨rfl,_,Eq.trans (World.drewN_drewN _ _ _) (congrArg (World.drewN _) (Nat.add_assoc _ _ _))⟩)))
          repeat (go_quiet (first | (go_at_call 27;(with_reducible refine (plenumref34_in.calls ((rd_T26 l0 x4_2).f1) 0 6311433600 false _ A12.out).mono ?_);rintro e w' ⟨rfl,⟨nd,rfl⟩⟩;(try first | exact ⟨rfl,_,World.drewN_drewN _ _ _⟩ | exact ⟨rfl,_,Eq.trans (World.drewN_drewN _ _ _) (congrArg (World.drewN _) (Nat.add_assoc _ _ _))⟩)));try go_wp2_with (first | (go_at_call 27;(with_reducible refine (plenumref34_in.calls ((rd_T26 l0 x4_2).f1) 0 6311433600 false _ A12.out).mono ?_);rintro e w' ⟨rfl,⟨nd,rfl⟩⟩;(try first | exact ⟨rfl,_,World.drewN_drewN _ _ _⟩ | exact ⟨rfl,_,Eq.trans (World.drewN_drewN _ _ _) (congrArg (World.drewN _) (Nat.add_assoc _ _ _))⟩))))
          go_meet
          case rel => exact ⟨_,(true),Y12,H',⟨by have := HK1.out;have := HK2.out;first | omega | exact Nat.le_refl _⟩,⟨by (with_reducible repeat (first | refine blk_drewN ?_ _ | refine blk_drew ?_ | refine blk_alloc ?_ _));refine blk_put (cs := #[.string ((rd_T26 l0 x4_2).f0),.int .i64 ((rd_T26 l0 x4_2).f1),.int .i64 ((rd_T26 l0 x4_2).f2),.int .i64 ((rd_T26 l0 x4_2).f3.f0),.int .i64 ((rd_T26 l0 x4_2).f3.f1),.int .i64 0]) ?_ 5 _ rfl;(with_reducible repeat (first | refine blk_drewN ?_ _ | refine blk_drew ?_ | refine blk_alloc ?_ _));refine blk_put (cs := #[.string ((rd_T26 l0 x4_2).f0),.int .i64 ((rd_T26 l0 x4_2).f1),.int .i64 ((rd_T26 l0 x4_2).f2),.int .i64 ((rd_T26 l0 x4_2).f3.f0),.int .i64 0,.int .i64 0]) ?_ 4 _ rfl;(with_reducible repeat (first | refine blk_drewN ?_ _ | refine blk_drew ?_ | refine blk_alloc ?_ _));refine blk_put (cs := #[.string ((rd_T26 l0 x4_2).f0),.int .i64 ((rd_T26 l0 x4_2).f1),.int .i64 ((rd_T26 l0 x4_2).f2),.int .i64 0,.int .i64 0,.int .i64 0]) ?_ 3 _ rfl;(with_reducible repeat (first | refine blk_drewN ?_ _ | refine blk_drew ?_ | refine blk_alloc ?_ _));refine blk_put (cs := #[.string ((rd_T26 l0 x4_2).f0),.int .i64 ((rd_T26 l0 x4_2).f1),.int .i64 0,.int .i64 0,.int .i64 0,.int .i64 0]) ?_ 2 _ rfl;(with_reducible repeat (first | refine blk_drewN ?_ _ | refine blk_drew ?_ | refine blk_alloc ?_ _));refine blk_put (cs := #[.string ((rd_T26 l0 x4_2).f0),.int .i64 0,.int .i64 0,.int .i64 0,.int .i64 0,.int .i64 0]) ?_ 1 _ rfl;(with_reducible repeat (first | refine blk_drewN ?_ _ | refine blk_drew ?_ | refine blk_alloc ?_ _));refine blk_put (cs := #[.string (⟨#[]⟩ : ByteArray),.int .i64 0,.int .i64 0,.int .i64 0,.int .i64 0,.int .i64 0]) ?_ 0 _ rfl;(with_reducible repeat (first | refine blk_drewN ?_ _ | refine blk_drew ?_ | refine blk_alloc ?_ _));exact BK280.out⟩,⟨by repeat (first | (with_reducible first | exact HB.out | apply below_alloc | apply Y15 | apply below_drew1 | refine below_set ?_ GE280.out) | exact HB.out)⟩⟩
        case rest =>
         clear HC9
         try clear c1
         try clear c2
         try clear c2b0
         try clear c2b1
         try clear p2
         try clear q2
         try clear hx2
         try clear c3
         try clear c3b0
         try clear c4
         try clear c4b0
         try clear c6
         try clear p6
         try clear c7
         try clear c7b0
         try clear c8
         try clear c8b0
         try clear c10
         try clear c13
         try clear c15
         try clear c16
         try clear c16b0
         try clear hcz11_0
         try clear hcz11_1
         try clear hcz11_2
         try clear hcz11_3
         try clear hcz11_4
         try clear hcz11_5
         try clear hcz17_0
         try clear hcz17_1
         try clear hcz17_2
         try clear hcz17_3
         try clear hcz17_4
         try clear hcz17_5
         try clear hcz19_0
         try clear hcz19_1
         try clear hcz19_2
         try clear hcz19_3
         try clear hcz19_4
         try clear hcz19_5
         try clear hcz20_0
         try clear hcz20_1
         try clear hcz20_2
         try clear hcz20_3
         try clear hcz20_4
         try clear hcz20_5
         try clear hcz21_0
         try clear hcz21_1
         try clear hcz21_2
         try clear hcz21_3
         try clear hcz21_4
         try clear hcz21_5
         try clear hfz11_0
         try clear hfz11_1
         try clear hfz11_2
         try clear hfz11_3
         try clear hfz11_4
         try clear hfz11_5
         try clear hfz17_0
         try clear hfz17_1
         try clear hfz17_2
         try clear hfz17_3
         try clear hfz17_4
         try clear hfz17_5
         try clear hfz19_0
         try clear hfz19_1
         try clear hfz19_2
         try clear hfz19_3
         try clear hfz19_4
         try clear hfz19_5
         try clear hfz20_0
         try clear hfz20_1
         try clear hfz20_2
         try clear hfz20_3
         try clear hfz20_4
         try clear hfz20_5
         try clear hfz21_0
         try clear hfz21_1
         try clear hfz21_2
         try clear hfz21_3
         try clear hfz21_4
         try clear hfz21_5
         try clear hx277_0
         try clear hx277_1
         try clear hx277_2
         try clear hx277_3
         try clear hx277_4
         try clear hx277_5
         try clear hx279_0
         try clear hx279_1
         try clear hx279_2
         try clear hx279_3
         try clear hx279_4
         try clear hx279_5
         try clear p2
         try clear p277
         try clear p279
         try clear p6
         try clear q2
         try clear q277
         try clear q279
         obtain ⟨kq,x57_8,rfl,HA,HJ8,BK280,HB⟩ := hcut
         cases kq with
         | zero => exact absurd HA.out (by simp [plenumref34_Check.j2])
         | succ kj8 =>
          have H := HA.out
          clear HA
          simp only [plenumref34_Check.j2] at H
          by_cases c22 : x57_8 = true
          ·subst c22
           have H1 : (some 6) = some r := by rw [if_pos rfl] at H;exact H
           clear H
           have H := H1
           clear H1
           obtain rfl := Option.some.inj H
           go_wp2
           repeat (go_quiet (fail);try go_wp2)
           go_ret
           exact ⟨by first | rfl | (simp [errW_none,errW_some] <;> rfl) | (simp [*,errW_none,errW_some] <;> rfl),by repeat (first | (with_reducible first | exact HB.out | apply below_alloc | apply Y15 | apply below_drew1 | refine below_set ?_ GE280.out) | exact HB.out)⟩
          ·replace c22 := Bool.eq_false_iff.mpr c22
           subst c22
           have H1 : (plenumref34_Check.l1 kj8 l0 (wrap64 (x4_2 + 1))) = some r := by rw [if_neg (show ¬ (false = true) by decide)] at H;exact H
           clear H
           have H := H1
           clear H1
           have H' := Yd H
           clear H
           go_wp2
           repeat (go_quiet (fail);try go_wp2)
           go_roundg kj8
           case measure => have := HK1.out;have := HK2.out;have := HJ8.out;omega
           case rel => exact ⟨(wrap64 (x4_2 + 1)),Y12,H',⟨by have := HK1.out;have := HK2.out;have := HJ8.out;omega⟩,⟨by repeat (first | (with_reducible first | exact HB.out | apply below_alloc | apply Y15 | apply below_drew1 | refine below_set ?_ GE280.out) | exact HB.out)⟩⟩
       ·rw [if_neg c7] at H
        have c7b0 : decide (x4_2 < (l0.length : Int)) = false := decide_eq_false c7
        clear c7
        have H' := Yd H
        clear H
        go_wp2
        repeat (go_quiet (fail);try go_wp2)
        go_loopg [6] k2 (fun kq v6 w' => ∃ (x6_3 : Int),v6 = .int .i64 x6_3 ∧ Aside0 (plenumref34_Check.l2 kq l0 x6_3 = some r) ∧ Aside0 (kq ≤ k2) ∧ Aside0 (Below w.heap.size w w'))
        case atStart => exact ⟨(0),Y12,H',⟨Nat.le_refl _⟩,⟨Y3 HB.out⟩⟩
        case round =>
         clear H'
         try clear c1
         try clear c2
         try clear c2b0
         try clear c2b1
         try clear p2
         try clear q2
         try clear hx2
         try clear c3
         try clear c3b0
         try clear c4
         try clear c4b0
         try clear c6
         try clear p6
         try clear c7
         try clear c7b0
         try clear c8
         try clear c8b0
         try clear c10
         try clear c13
         try clear c15
         try clear c16
         try clear c16b0
         try clear c22
         try clear hcz11_0
         try clear hcz11_1
         try clear hcz11_2
         try clear hcz11_3
         try clear hcz11_4
         try clear hcz11_5
         try clear hcz17_0
         try clear hcz17_1
         try clear hcz17_2
         try clear hcz17_3
         try clear hcz17_4
         try clear hcz17_5
         try clear hcz19_0
         try clear hcz19_1
         try clear hcz19_2
         try clear hcz19_3
         try clear hcz19_4
         try clear hcz19_5
         try clear hcz20_0
         try clear hcz20_1
         try clear hcz20_2
         try clear hcz20_3
         try clear hcz20_4
         try clear hcz20_5
         try clear hcz21_0
         try clear hcz21_1
         try clear hcz21_2
         try clear hcz21_3
         try clear hcz21_4
         try clear hcz21_5
         try clear hfz11_0
         try clear hfz11_1
         try clear hfz11_2
         try clear hfz11_3
         try clear hfz11_4
         try clear hfz11_5
         try clear hfz17_0
         try clear hfz17_1
         try clear hfz17_2
         try clear hfz17_3
         try clear hfz17_4
         try clear hfz17_5
         try clear hfz19_0
         try clear hfz19_1
         try clear hfz19_2
         try clear hfz19_3
         try clear hfz19_4
         try clear hfz19_5
         try clear hfz20_0
         try clear hfz20_1
         try clear hfz20_2
         try clear hfz20_3
         try clear hfz20_4
         try clear hfz20_5
         try clear hfz21_0
         try clear hfz21_1
         try clear hfz21_2
         try clear hfz21_3
         try clear hfz21_4
         try clear hfz21_5
         try clear hx277_0
         try clear hx277_1
         try clear hx277_2
         try clear hx277_3
         try clear hx277_4
         try clear hx277_5
         try clear hx279_0
         try clear hx279_1
         try clear hx279_2
         try clear hx279_3
         try clear hx279_4
         try clear hx279_5
         try clear p2
         try clear p277
         try clear p279
         try clear p6
         try clear q2
         try clear q277
         try clear q279
         obtain ⟨x6_3,rfl,HA,HK3,HB⟩ := hrel
         cases gk with
         | zero => exact absurd HA.out (by simp [plenumref34_Check.l2])
         | succ k3 =>
          have H := HA.out
          clear HA
          simp only [plenumref34_Check.l2] at H
          by_cases c23 : x6_3 < (l0.length : Int)
          ·rw [if_pos c23] at H
           have c23b0 : decide (x6_3 < (l0.length : Int)) = true := decide_eq_true c23
           clear c23
           by_cases c24 : 0 ≤ x6_3
           case neg => rw [if_neg c24] at H;exact absurd H (by simp)
           rw [if_pos c24] at H
           have c24b0 : decide (0 ≤ x6_3) = true := decide_eq_true c24
           clear c24
           replace H := Option.bind_eq_some_iff.mp H
           obtain ⟨t285,A250,H⟩ := H
           replace H : (if t285 = true then (plenumref34_Check.l2 k3 l0 (wrap64 (x6_3 + 1))) else (some 11)) = some r := H
           have A25 := Yd A250
           clear A250
           by_cases c26 : t285 = true
           ·subst c26
            have H1 : (plenumref34_Check.l2 k3 l0 (wrap64 (x6_3 + 1))) = some r := by rw [if_pos rfl] at H;exact H
            clear H
            have H := H1
            clear H1
            have H' := Yd H
            clear H
            have p284 : 0 ≤ (x6_3 : Int) := Y9
            have q284 : x6_3 < (l0.length : Int) := Y9
            obtain ⟨ad284,e284,hx284_0,hx284_1,hx284_2,hx284_3,hx284_4,hx284_5⟩ := at_T26 HR0.out x6_3 p284 q284
            cases e284
            replace hx284_0 := Y10 HB.out hx284_0
            replace hx284_1 := Y10 HB.out hx284_1
            replace hx284_2 := Y10 HB.out hx284_2
            replace hx284_3 := Y10 HB.out hx284_3
            replace hx284_4 := Y10 HB.out hx284_4
            replace hx284_5 := Y10 HB.out hx284_5
            replace p284 := eq_true p284
            replace q284 := eq_true q284
            go_wp2_with (first | (go_at_call 27;(with_reducible refine (plenumref34_in.calls ((rd_T26 l0 x6_3).f3.f0) 1 3 true _ A25.out).mono ?_);rintro e w' ⟨rfl,⟨nd,rfl⟩⟩;(try first | exact ⟨rfl,_,World.drewN_drewN _ _ _⟩ | exact ⟨rfl,_,Eq.trans (World.drewN_drewN _ _ _) (congrArg (World.drewN _) (Nat.add_assoc _ _ _))⟩)))
            repeat (go_quiet (first | (go_at_call 27;(with_reducible refine (plenumref34_in.calls ((rd_T26 l0 x6_3).f3.f0) 1 3 true _ A25.out).mono ?_);rintro e w' ⟨rfl,⟨nd,rfl⟩⟩;(try first | exact ⟨rfl,_,World.drewN_drewN _ _ _⟩ | exact ⟨rfl,_,Eq.trans (World.drewN_drewN _ _ _) (congrArg (World.drewN _) (Nat.add_assoc _ _ _))⟩)));try go_wp2_with (first | (go_at_call 27;(with_reducible refine (plenumref34_in.calls ((rd_T26 l0 x6_3).f3.f0) 1 3 true _ A25.out).mono ?_);rintro e w' ⟨rfl,⟨nd,rfl⟩⟩;(try first | exact ⟨rfl,_,World.drewN_drewN _ _ _⟩ | exact ⟨rfl,_,Eq.trans (World.drewN_drewN _ _ _) (congrArg (World.drewN _) (Nat.add_assoc _ _ _))⟩))))
            go_roundg k3
            case measure => have := HK1.out;have := HK2.out;have := HK3.out;omega
            case rel => exact ⟨(wrap64 (x6_3 + 1)),Y12,H',⟨by have := HK1.out;have := HK2.out;have := HK3.out;omega⟩,⟨Y3 HB.out⟩⟩
           ·replace c26 := Bool.eq_false_iff.mpr c26
            subst c26
            have H1 : (some 11) = some r := by rw [if_neg (show ¬ (false = true) by decide)] at H;exact H
            clear H
            have H := H1
            clear H1
            obtain rfl := Option.some.inj H
            have p284 : 0 ≤ (x6_3 : Int) := Y9
            have q284 : x6_3 < (l0.length : Int) := Y9
            obtain ⟨ad284,e284,hx284_0,hx284_1,hx284_2,hx284_3,hx284_4,hx284_5⟩ := at_T26 HR0.out x6_3 p284 q284
            cases e284
            replace hx284_0 := Y10 HB.out hx284_0
            replace hx284_1 := Y10 HB.out hx284_1
            replace hx284_2 := Y10 HB.out hx284_2
            replace hx284_3 := Y10 HB.out hx284_3
            replace hx284_4 := Y10 HB.out hx284_4
            replace hx284_5 := Y10 HB.out hx284_5
            replace p284 := eq_true p284
            replace q284 := eq_true q284
            go_wp2_with (first | (go_at_call 27;(with_reducible refine (plenumref34_in.calls ((rd_T26 l0 x6_3).f3.f0) 1 3 false _ A25.out).mono ?_);rintro e w' ⟨rfl,⟨nd,rfl⟩⟩;(try first | exact ⟨rfl,_,World.drewN_drewN _ _ _⟩ | exact ⟨rfl,_,Eq.trans (World.drewN_drewN _ _ _) (congrArg (World.drewN _) (Nat.add_assoc _ _ _))⟩)))
            repeat (go_quiet (first | (go_at_call 27;(with_reducible refine (plenumref34_in.calls ((rd_T26 l0 x6_3).f3.f0) 1 3 false _ A25.out).mono ?_);rintro e w' ⟨rfl,⟨nd,rfl⟩⟩;(try first | exact ⟨rfl,_,World.drewN_drewN _ _ _⟩ | exact ⟨rfl,_,Eq.trans (World.drewN_drewN _ _ _) (congrArg (World.drewN _) (Nat.add_assoc _ _ _))⟩)));try go_wp2_with (first | (go_at_call 27;(with_reducible refine (plenumref34_in.calls ((rd_T26 l0 x6_3).f3.f0) 1 3 false _ A25.out).mono ?_);rintro e w' ⟨rfl,⟨nd,rfl⟩⟩;(try first | exact ⟨rfl,_,World.drewN_drewN _ _ _⟩ | exact ⟨rfl,_,Eq.trans (World.drewN_drewN _ _ _) (congrArg (World.drewN _) (Nat.add_assoc _ _ _))⟩))))
            go_ret
            exact ⟨by first | rfl | (simp [errW_none,errW_some] <;> rfl) | (simp [*,errW_none,errW_some] <;> rfl),Y3 HB.out⟩
          ·rw [if_neg c23] at H
           have c23b0 : decide (x6_3 < (l0.length : Int)) = false := decide_eq_false c23
           clear c23
           have H' := Yd H
           clear H
           go_wp2
           repeat (go_quiet (fail);try go_wp2)
           go_loopg [7] k3 (fun kq v7 w' => ∃ (x7_4 : Int),v7 = .int .i64 x7_4 ∧ Aside0 (plenumref34_Check.l3 kq l0 x7_4 = some r) ∧ Aside0 (kq ≤ k3) ∧ Aside0 (Below w.heap.size w w'))
           case atStart => exact ⟨(0),Y12,H',⟨Nat.le_refl _⟩,⟨Y3 HB.out⟩⟩
           case round =>
            clear H'
            try clear c1
            try clear c2
            try clear c2b0
            try clear c2b1
            try clear p2
            try clear q2
            try clear hx2
            try clear c3
            try clear c3b0
            try clear c4
            try clear c4b0
            try clear c6
            try clear p6
            try clear c7
            try clear c7b0
            try clear c8
            try clear c8b0
            try clear c10
            try clear c13
            try clear c15
            try clear c16
            try clear c16b0
            try clear c22
            try clear c23
            try clear c23b0
            try clear c24
            try clear c24b0
            try clear c26
            try clear hcz11_0
            try clear hcz11_1
            try clear hcz11_2
            try clear hcz11_3
            try clear hcz11_4
            try clear hcz11_5
            try clear hcz17_0
            try clear hcz17_1
            try clear hcz17_2
            try clear hcz17_3
            try clear hcz17_4
            try clear hcz17_5
            try clear hcz19_0
            try clear hcz19_1
            try clear hcz19_2
            try clear hcz19_3
            try clear hcz19_4
            try clear hcz19_5
            try clear hcz20_0
            try clear hcz20_1
            try clear hcz20_2
            try clear hcz20_3
            try clear hcz20_4
            try clear hcz20_5
            try clear hcz21_0
            try clear hcz21_1
            try clear hcz21_2
            try clear hcz21_3
            try clear hcz21_4
            try clear hcz21_5
            try clear hfz11_0
            try clear hfz11_1
            try clear hfz11_2
            try clear hfz11_3
            try clear hfz11_4
            try clear hfz11_5
            try clear hfz17_0
            try clear hfz17_1
            try clear hfz17_2
            try clear hfz17_3
            try clear hfz17_4
            try clear hfz17_5
            try clear hfz19_0
            try clear hfz19_1
            try clear hfz19_2
            try clear hfz19_3
            try clear hfz19_4
            try clear hfz19_5
            try clear hfz20_0
            try clear hfz20_1
            try clear hfz20_2
            try clear hfz20_3
            try clear hfz20_4
            try clear hfz20_5
            try clear hfz21_0
            try clear hfz21_1
            try clear hfz21_2
            try clear hfz21_3
            try clear hfz21_4
            try clear hfz21_5
            try clear hx277_0
            try clear hx277_1
            try clear hx277_2
            try clear hx277_3
            try clear hx277_4
            try clear hx277_5
            try clear hx279_0
            try clear hx279_1
            try clear hx279_2
            try clear hx279_3
            try clear hx279_4
            try clear hx279_5
            try clear hx284_0
            try clear hx284_1
            try clear hx284_2
            try clear hx284_3
            try clear hx284_4
            try clear hx284_5
            try clear p2
            try clear p277
            try clear p279
            try clear p284
            try clear p6
            try clear q2
            try clear q277
            try clear q279
            try clear q284
            obtain ⟨x7_4,rfl,HA,HK4,HB⟩ := hrel
            cases gk with
            | zero => exact absurd HA.out (by simp [plenumref34_Check.l3])
            | succ k4 =>
             have H := HA.out
             clear HA
             simp only [plenumref34_Check.l3] at H
             by_cases c27 : x7_4 < (l0.length : Int)
             ·rw [if_pos c27] at H
              have c27b0 : decide (x7_4 < (l0.length : Int)) = true := decide_eq_true c27
              clear c27
              have H' := Yd H
              clear H
              go_wp2
              repeat (go_quiet (fail);try go_wp2)
              go_loopg [8] k4 (fun kq v8 w' => ∃ (x8_5 : Int),v8 = .int .i64 x8_5 ∧ Aside0 (plenumref34_Check.l4 kq l0 x7_4 x8_5 = some r) ∧ Aside0 (kq ≤ k4) ∧ Aside0 (Below w.heap.size w w'))
              case atStart => exact ⟨(0),Y12,H',⟨Nat.le_refl _⟩,⟨Y3 HB.out⟩⟩
              case round =>
               clear H'
               try clear c1
               try clear c2
               try clear c2b0
               try clear c2b1
               try clear p2
               try clear q2
               try clear hx2
               try clear c3
               try clear c3b0
               try clear c4
               try clear c4b0
               try clear c6
               try clear p6
               try clear c7
               try clear c7b0
               try clear c8
               try clear c8b0
               try clear c10
               try clear c13
               try clear c15
               try clear c16
               try clear c16b0
               try clear c22
               try clear c23
               try clear c23b0
               try clear c24
               try clear c24b0
               try clear c26
               try clear c27
               try clear c27b0
               try clear p27
               try clear q27
               try clear hx27
               try clear hcz11_0
               try clear hcz11_1
               try clear hcz11_2
               try clear hcz11_3
               try clear hcz11_4
               try clear hcz11_5
               try clear hcz17_0
               try clear hcz17_1
               try clear hcz17_2
               try clear hcz17_3
               try clear hcz17_4
               try clear hcz17_5
               try clear hcz19_0
               try clear hcz19_1
               try clear hcz19_2
               try clear hcz19_3
               try clear hcz19_4
               try clear hcz19_5
               try clear hcz20_0
               try clear hcz20_1
               try clear hcz20_2
               try clear hcz20_3
               try clear hcz20_4
               try clear hcz20_5
               try clear hcz21_0
               try clear hcz21_1
               try clear hcz21_2
               try clear hcz21_3
               try clear hcz21_4
               try clear hcz21_5
               try clear hfz11_0
               try clear hfz11_1
               try clear hfz11_2
               try clear hfz11_3
               try clear hfz11_4
               try clear hfz11_5
               try clear hfz17_0
               try clear hfz17_1
               try clear hfz17_2
               try clear hfz17_3
               try clear hfz17_4
               try clear hfz17_5
               try clear hfz19_0
               try clear hfz19_1
               try clear hfz19_2
               try clear hfz19_3
               try clear hfz19_4
               try clear hfz19_5
               try clear hfz20_0
               try clear hfz20_1
               try clear hfz20_2
               try clear hfz20_3
               try clear hfz20_4
               try clear hfz20_5
               try clear hfz21_0
               try clear hfz21_1
               try clear hfz21_2
               try clear hfz21_3
               try clear hfz21_4
               try clear hfz21_5
               try clear hx277_0
               try clear hx277_1
               try clear hx277_2
               try clear hx277_3
               try clear hx277_4
               try clear hx277_5
               try clear hx279_0
               try clear hx279_1
               try clear hx279_2
               try clear hx279_3
               try clear hx279_4
               try clear hx279_5
               try clear hx284_0
               try clear hx284_1
               try clear hx284_2
               try clear hx284_3
               try clear hx284_4
               try clear hx284_5
               try clear p2
               try clear p277
               try clear p279
               try clear p284
               try clear p6
               try clear q2
               try clear q277
               try clear q279
               try clear q284
               obtain ⟨x8_5,rfl,HA,HK5,HB⟩ := hrel
               cases gk with
               | zero => exact absurd HA.out (by simp [plenumref34_Check.l4])
               | succ k5 =>
                have H := HA.out
                clear HA
                simp only [plenumref34_Check.l4] at H
                by_cases c28 : x8_5 < x7_4
                ·rw [if_pos c28] at H
                 have c28b0 : decide (x8_5 < x7_4) = true := decide_eq_true c28
                 clear c28
                 by_cases c29 : 0 ≤ x8_5
                 case neg => rw [if_neg c29] at H;exact absurd H (by simp)
                 rw [if_pos c29] at H
                 have c29b0 : decide (0 ≤ x8_5) = true := decide_eq_true c29
                 clear c29
                 by_cases c30 : x8_5 < (l0.length : Int)
                 case neg => rw [if_neg c30] at H;exact absurd H (by simp)
                 rw [if_pos c30] at H
                 have c30b0 : decide (x8_5 < (l0.length : Int)) = true := decide_eq_true c30
                 clear c30
                 by_cases c31 : 0 ≤ x7_4
                 case neg => rw [if_neg c31] at H;exact absurd H (by simp)
                 rw [if_pos c31] at H
                 have c31b0 : decide (0 ≤ x7_4) = true := decide_eq_true c31
                 clear c31
                 by_cases c32 : x7_4 < (l0.length : Int)
                 case neg => rw [if_neg c32] at H;exact absurd H (by simp)
                 rw [if_pos c32] at H
                 have c32b0 : decide (x7_4 < (l0.length : Int)) = true := decide_eq_true c32
                 clear c32
                 by_cases c33 : ((rd_T26 l0 x8_5).f4) = ((rd_T26 l0 x7_4).f4)
                 ·rw [if_pos c33] at H
                  have c33b0 : (((rd_T26 l0 x8_5).f4) == ((rd_T26 l0 x7_4).f4)) = true := beq_iff_eq.mpr c33
                  have c33b1 : (((rd_T26 l0 x8_5).f4) != ((rd_T26 l0 x7_4).f4)) = false := bne_eq_false_iff_eq.mpr c33
                  clear c33
                  obtain rfl := Option.some.inj H
                  have p286 : 0 ≤ (x8_5 : Int) := Y9
                  have q286 : x8_5 < (l0.length : Int) := Y9
                  obtain ⟨ad286,e286,hx286_0,hx286_1,hx286_2,hx286_3,hx286_4,hx286_5⟩ := at_T26 HR0.out x8_5 p286 q286
                  cases e286
                  replace hx286_0 := Y10 HB.out hx286_0
                  replace hx286_1 := Y10 HB.out hx286_1
                  replace hx286_2 := Y10 HB.out hx286_2
                  replace hx286_3 := Y10 HB.out hx286_3
                  replace hx286_4 := Y10 HB.out hx286_4
                  replace hx286_5 := Y10 HB.out hx286_5
                  replace p286 := eq_true p286
                  replace q286 := eq_true q286
                  have p287 : 0 ≤ (x7_4 : Int) := Y9
                  have q287 : x7_4 < (l0.length : Int) := Y9
                  obtain ⟨ad287,e287,hx287_0,hx287_1,hx287_2,hx287_3,hx287_4,hx287_5⟩ := at_T26 HR0.out x7_4 p287 q287
                  obtain rfl : ad286 = ad287 := (by injection e287)
                  replace hx287_0 := Y10 HB.out hx287_0
                  replace hx287_1 := Y10 HB.out hx287_1
                  replace hx287_2 := Y10 HB.out hx287_2
                  replace hx287_3 := Y10 HB.out hx287_3
                  replace hx287_4 := Y10 HB.out hx287_4
                  replace hx287_5 := Y10 HB.out hx287_5
                  replace p287 := eq_true p287
                  replace q287 := eq_true q287
                  go_wp2
                  repeat (go_quiet (fail);try go_wp2)
                  go_ret
                  exact ⟨by first | rfl | (simp [errW_none,errW_some] <;> rfl) | (simp [*,errW_none,errW_some] <;> rfl),Y3 HB.out⟩
                 ·rw [if_neg c33] at H
                  have c33b0 : (((rd_T26 l0 x8_5).f4) == ((rd_T26 l0 x7_4).f4)) = false := beq_eq_false_iff_ne.mpr c33
                  have c33b1 : (((rd_T26 l0 x8_5).f4) != ((rd_T26 l0 x7_4).f4)) = true := bne_iff_ne.mpr c33
                  by_cases c34 : ((Op.bytesLess (((rd_T26 l0 x8_5).f0).toList) (((rd_T26 l0 x7_4).f0).toList)) = true)
                  ·rw [if_pos c34] at H
                   have c34b0 : (Op.bytesLess (((rd_T26 l0 x8_5).f0).toList) (((rd_T26 l0 x7_4).f0).toList)) = true := c34
                   clear c34
                   have H' := Yd H
                   clear H
                   have p286 : 0 ≤ (x8_5 : Int) := Y9
                   have q286 : x8_5 < (l0.length : Int) := Y9
                   obtain ⟨ad286,e286,hx286_0,hx286_1,hx286_2,hx286_3,hx286_4,hx286_5⟩ := at_T26 HR0.out x8_5 p286 q286
                   cases e286
                   replace hx286_0 := Y10 HB.out hx286_0
                   replace hx286_1 := Y10 HB.out hx286_1
                   replace hx286_2 := Y10 HB.out hx286_2
                   replace hx286_3 := Y10 HB.out hx286_3
                   replace hx286_4 := Y10 HB.out hx286_4
                   replace hx286_5 := Y10 HB.out hx286_5
                   replace p286 := eq_true p286
                   replace q286 := eq_true q286
                   have p287 : 0 ≤ (x7_4 : Int) := Y9
                   have q287 : x7_4 < (l0.length : Int) := Y9
                   obtain ⟨ad287,e287,hx287_0,hx287_1,hx287_2,hx287_3,hx287_4,hx287_5⟩ := at_T26 HR0.out x7_4 p287 q287
                   obtain rfl : ad286 = ad287 := (by injection e287)
                   replace hx287_0 := Y10 HB.out hx287_0
                   replace hx287_1 := Y10 HB.out hx287_1
                   replace hx287_2 := Y10 HB.out hx287_2
                   replace hx287_3 := Y10 HB.out hx287_3
                   replace hx287_4 := Y10 HB.out hx287_4
                   replace hx287_5 := Y10 HB.out hx287_5
                   replace p287 := eq_true p287
                   replace q287 := eq_true q287
                   have p288 : 0 ≤ (x8_5 : Int) := Y9
                   have q288 : x8_5 < (l0.length : Int) := Y9
                   obtain ⟨ad288,e288,hx288_0,hx288_1,hx288_2,hx288_3,hx288_4,hx288_5⟩ := at_T26 HR0.out x8_5 p288 q288
                   obtain rfl : ad286 = ad288 := (by injection e288)
                   replace hx288_0 := Y10 HB.out hx288_0
                   replace hx288_1 := Y10 HB.out hx288_1
                   replace hx288_2 := Y10 HB.out hx288_2
                   replace hx288_3 := Y10 HB.out hx288_3
                   replace hx288_4 := Y10 HB.out hx288_4
                   replace hx288_5 := Y10 HB.out hx288_5
                   replace p288 := eq_true p288
                   replace q288 := eq_true q288
                   have p289 : 0 ≤ (x7_4 : Int) := Y9
                   have q289 : x7_4 < (l0.length : Int) := Y9
                   obtain ⟨ad289,e289,hx289_0,hx289_1,hx289_2,hx289_3,hx289_4,hx289_5⟩ := at_T26 HR0.out x7_4 p289 q289
                   obtain rfl : ad286 = ad289 := (by injection e289)
                   replace hx289_0 := Y10 HB.out hx289_0
                   replace hx289_1 := Y10 HB.out hx289_1
                   replace hx289_2 := Y10 HB.out hx289_2
                   replace hx289_3 := Y10 HB.out hx289_3
                   replace hx289_4 := Y10 HB.out hx289_4
                   replace hx289_5 := Y10 HB.out hx289_5
                   replace p289 := eq_true p289
                   replace q289 := eq_true q289
                   go_wp2
                   repeat (go_quiet (fail);try go_wp2)
                   go_roundg k5
                   case measure => have := HK1.out;have := HK2.out;have := HK3.out;have := HK4.out;have := HK5.out;omega
                   case rel => exact ⟨(wrap64 (x8_5 + 1)),Y12,H',⟨by have := HK1.out;have := HK2.out;have := HK3.out;have := HK4.out;have := HK5.out;omega⟩,⟨Y3 HB.out⟩⟩
                  ·rw [if_neg c34] at H
                   have c34b0 : (Op.bytesLess (((rd_T26 l0 x8_5).f0).toList) (((rd_T26 l0 x7_4).f0).toList)) = false := by simpa using c34
                   clear c34
                   obtain rfl := Option.some.inj H
                   have p286 : 0 ≤ (x8_5 : Int) := Y9
                   have q286 : x8_5 < (l0.length : Int) := Y9
                   obtain ⟨ad286,e286,hx286_0,hx286_1,hx286_2,hx286_3,hx286_4,hx286_5⟩ := at_T26 HR0.out x8_5 p286 q286
                   cases e286
                   replace hx286_0 := Y10 HB.out hx286_0
                   replace hx286_1 := Y10 HB.out hx286_1
                   replace hx286_2 := Y10 HB.out hx286_2
                   replace hx286_3 := Y10 HB.out hx286_3
                   replace hx286_4 := Y10 HB.out hx286_4
                   replace hx286_5 := Y10 HB.out hx286_5
                   replace p286 := eq_true p286
                   replace q286 := eq_true q286
                   have p287 : 0 ≤ (x7_4 : Int) := Y9
                   have q287 : x7_4 < (l0.length : Int) := Y9
                   obtain ⟨ad287,e287,hx287_0,hx287_1,hx287_2,hx287_3,hx287_4,hx287_5⟩ := at_T26 HR0.out x7_4 p287 q287
                   obtain rfl : ad286 = ad287 := (by injection e287)
                   replace hx287_0 := Y10 HB.out hx287_0
                   replace hx287_1 := Y10 HB.out hx287_1
                   replace hx287_2 := Y10 HB.out hx287_2
                   replace hx287_3 := Y10 HB.out hx287_3
                   replace hx287_4 := Y10 HB.out hx287_4
                   replace hx287_5 := Y10 HB.out hx287_5
                   replace p287 := eq_true p287
                   replace q287 := eq_true q287
                   have p288 : 0 ≤ (x8_5 : Int) := Y9
                   have q288 : x8_5 < (l0.length : Int) := Y9
                   obtain ⟨ad288,e288,hx288_0,hx288_1,hx288_2,hx288_3,hx288_4,hx288_5⟩ := at_T26 HR0.out x8_5 p288 q288
                   obtain rfl : ad286 = ad288 := (by injection e288)
                   replace hx288_0 := Y10 HB.out hx288_0
                   replace hx288_1 := Y10 HB.out hx288_1
                   replace hx288_2 := Y10 HB.out hx288_2
                   replace hx288_3 := Y10 HB.out hx288_3
                   replace hx288_4 := Y10 HB.out hx288_4
                   replace hx288_5 := Y10 HB.out hx288_5
                   replace p288 := eq_true p288
                   replace q288 := eq_true q288
                   have p289 : 0 ≤ (x7_4 : Int) := Y9
                   have q289 : x7_4 < (l0.length : Int) := Y9
                   obtain ⟨ad289,e289,hx289_0,hx289_1,hx289_2,hx289_3,hx289_4,hx289_5⟩ := at_T26 HR0.out x7_4 p289 q289
                   obtain rfl : ad286 = ad289 := (by injection e289)
                   replace hx289_0 := Y10 HB.out hx289_0
                   replace hx289_1 := Y10 HB.out hx289_1
                   replace hx289_2 := Y10 HB.out hx289_2
                   replace hx289_3 := Y10 HB.out hx289_3
                   replace hx289_4 := Y10 HB.out hx289_4
                   replace hx289_5 := Y10 HB.out hx289_5
                   replace p289 := eq_true p289
                   replace q289 := eq_true q289
                   go_wp2
                   repeat (go_quiet (fail);try go_wp2)
                   go_ret
                   exact ⟨by first | rfl | (simp [errW_none,errW_some] <;> rfl) | (simp [*,errW_none,errW_some] <;> rfl),Y3 HB.out⟩
                ·rw [if_neg c28] at H
                 have c28b0 : decide (x8_5 < x7_4) = false := decide_eq_false c28
                 clear c28
                 have H' := Yd H
                 clear H
                 go_wp2
                 repeat (go_quiet (fail);try go_wp2)
                 go_roundg k5
                 case measure => have := HK1.out;have := HK2.out;have := HK3.out;have := HK4.out;have := HK5.out;omega
                 case rel => exact ⟨(wrap64 (x7_4 + 1)),Y12,H',⟨by have := HK1.out;have := HK2.out;have := HK3.out;have := HK4.out;have := HK5.out;omega⟩,⟨Y3 HB.out⟩⟩
             ·rw [if_neg c27] at H
              have c27b0 : decide (x7_4 < (l0.length : Int)) = false := decide_eq_false c27
              clear c27
              obtain rfl := Option.some.inj H
              go_wp2
              repeat (go_quiet (fail);try go_wp2)
              go_ret
              exact ⟨by first | rfl | (simp [errW_none,errW_some] <;> rfl) | (simp [*,errW_none,errW_some] <;> rfl),Y3 HB.out⟩
end Go.Proofs.Ytaoicdkjjjlmeaa.PD34
namespace Go.Proofs.Ytaoicdkjjjlmeaa.PD34
open Go.RowKit Go.Proofs.YtaoicdkjjjlmeaaW.PrintWords Go.Proofs.YtaoicdkjjjlmeaaW.PrintLast Go.Proofs.YtaoicdkjjjlmeaaW.PrintMore
attribute [local go_sem] max2_int min2_int max_two min_two max_three min_three max_four min_four
mutual
def plenumref34_Expire.l0 : Nat → List (S26) → Int → List (S26) → Int → Option ((List (S26)))
 | 0,_,_,_,_ => none
 | k + 1,x0,x1,x5,x6 => if x6 < (x0.length : Int) then ((plenumref34_Check.f k x0).bind fun t376 => (plenumref34_Expire.j1 k x0 x1 x5 x6 (t376 == 0))) else (plenumref34_Expire.j1 k x0 x1 x5 x6 false)
def plenumref34_Expire.j1 : Nat → List (S26) → Int → List (S26) → Int → Bool → Option ((List (S26)))
 | 0,_,_,_,_,_ => none
 | k + 1,x0,x1,x5,x6,x16 => if x16 = true then (if 0 ≤ x6 then (if x6 < (x0.length : Int) then (if ((rd_T26 x0 x6).f2) > x1 then (if x5.length < 2513169434916 then (plenumref34_Expire.l0 k x0 x1 (x5 ++ [(⟨(rd_T26 x0 x6).f0,(rd_T26 x0 x6).f1,(rd_T26 x0 x6).f2,(⟨(rd_T26 x0 x6).f3.f0,(rd_T26 x0 x6).f3.f1⟩ : S24),(rd_T26 x0 x6).f4⟩ : S26)]) (wrap64 (x6 + 1))) else (none)) else (plenumref34_Expire.l0 k x0 x1 x5 (wrap64 (x6 + 1)))) else (none)) else (none)) else (some x5)
end
def plenumref34_Expire.f (k : Nat) (l0 : List (S26)) (a1 : Int) : Option ((List (S26))) := plenumref34_Expire.l0 k l0 a1 (([] : List (S26))) 0
theorem plenumref34_Expire.mono_l : ∀ k,(∀ y0 y1 y2 y3,LeO (plenumref34_Expire.l0 k y0 y1 y2 y3) (plenumref34_Expire.l0 (k + 1) y0 y1 y2 y3)) ∧ (∀ y0 y1 y2 y3 y4,LeO (plenumref34_Expire.j1 k y0 y1 y2 y3 y4) (plenumref34_Expire.j1 (k + 1) y0 y1 y2 y3 y4))
 | 0 => ⟨fun _ _ _ _ r h => by simp [plenumref34_Expire.l0] at h,fun _ _ _ _ _ r h => by simp [plenumref34_Expire.j1] at h⟩
 | k + 1 => by
  obtain ⟨ih0,ih1⟩ := plenumref34_Expire.mono_l k
  refine ⟨?_,?_⟩
  ·intro y0 y1 y2 y3
   unfold plenumref34_Expire.l0
   repeat' first
   | (with_reducible exact ih0 _ _ _ _)
   | (with_reducible exact ih1 _ _ _ _ _)
   | (with_reducible exact plenumref34_Check.mono _ _)
   | (with_reducible exact LeO.refl _)
   | (with_reducible exact LeO.none _)
   | (with_reducible refine LeO.ite ?_ ?_)
   | (with_reducible refine LeO.bind ?_ (fun _ => ?_))
   | exact ih0 _ _ _ _
   | exact ih1 _ _ _ _ _
   | exact plenumref34_Check.mono _ _
   | exact LeO.none _
   | refine LeO.ite ?_ ?_
   | refine LeO.bind ?_ (fun _ => ?_)
  ·intro y0 y1 y2 y3 y4
   unfold plenumref34_Expire.j1
   repeat' first
   | (with_reducible exact ih0 _ _ _ _)
   | (with_reducible exact ih1 _ _ _ _ _)
   | (with_reducible exact plenumref34_Check.mono _ _)
   | (with_reducible exact LeO.refl _)
   | (with_reducible exact LeO.none _)
   | (with_reducible refine LeO.ite ?_ ?_)
   | (with_reducible refine LeO.bind ?_ (fun _ => ?_))
   | exact ih0 _ _ _ _
   | exact ih1 _ _ _ _ _
   | exact plenumref34_Check.mono _ _
   | exact LeO.none _
   | refine LeO.ite ?_ ?_
   | refine LeO.bind ?_ (fun _ => ?_)
theorem plenumref34_Expire.mono : ∀ a0 a1 k,LeO (plenumref34_Expire.f k a0 a1) (plenumref34_Expire.f (k + 1) a0 a1) := by
 intro a0 a1 k
 obtain ⟨ih0,ih1⟩ := plenumref34_Expire.mono_l k
 unfold plenumref34_Expire.f
 repeat' first
   | (with_reducible exact ih0 _ _ _ _)
   | (with_reducible exact ih1 _ _ _ _ _)
   | (with_reducible exact plenumref34_Check.mono _ _)
   | (with_reducible exact LeO.refl _)
   | (with_reducible exact LeO.none _)
   | (with_reducible refine LeO.ite ?_ ?_)
   | (with_reducible refine LeO.bind ?_ (fun _ => ?_))
   | exact ih0 _ _ _ _
   | exact ih1 _ _ _ _ _
   | exact plenumref34_Check.mono _ _
   | exact LeO.none _
   | refine LeO.ite ?_ ?_
   | refine LeO.bind ?_ (fun _ => ?_)
set_option maxHeartbeats 100000000 in
set_option maxRecDepth 100000 in
theorem plenumref34_Expire.calls (k : Nat) (A0 : Option Addr) (c0 : Nat) (l0 : List (S26)) (a1 : Int) (r : List (S26)) (w : World) (hr0 : Kd.C k26 w A0 l0.length l0) (hc0 : l0.length ≤ c0) (h : plenumref34_Expire.f k l0 a1 = some r) :
  Calls Try.prog 15 #[.slice A0 l0.length c0,.int .i64 a1] w fun e w' => ∃ v0_ : Value,e = .returned (v0_) ∧ Kd.R k26 26 w' w.heap.size (fun _ => True) v0_ r ∧ Below w.heap.size w w' := by
 have hu26 := Try.underlying26
 have HR0 := Yd hr0
 have HC0 := Yd hc0
 clear hr0 hc0
 have HB := Yd (Below.refl w.heap.size w)
 have H : (plenumref34_Expire.l0 k l0 a1 (([] : List (S26))) 0) = some r := h
 clear h
 obtain ⟨y373,hy373⟩ : ∃ y_ : List (S26),y_ = (([] : List (S26))) := ⟨_,rfl⟩
 replace H : (plenumref34_Expire.l0 k l0 a1 y373 0) = some r := by first | (rw [hy373];with_reducible exact H) | (have H2_ := (Option.bind_some _ _).symm.trans H;rw [hy373];with_reducible exact H2_) | (have H2_ := (Option.bind_some _ _).symm.trans H;with_reducible exact H2_) | with_reducible exact H | (rw [hy373];exact H) | exact H
 have Ny373 := Yd hy373
 clear hy373
 have H' := Yd H
 clear H
 go_enter Try.func15,Try.ntmps15
 go_wp2_with (first | ((with_reducible refine gate_dst (N := 7) rfl ?_);refine Kd.R_lit k26 _ 26 ?hg (N := 7) ?hd (xs := ([] : List (S26))) (inner := []) (ok := fun _ => True) (okp := fun _ => True) ?hr ?hp (fun _ hk => hk) trivial (Below.refl _ _) (Nat.le_refl _) (by simp) ?_;(case hd => rfl);(case hg => rfl);(case hr => first | (go_simp;done) | (go_simp;rfl));(case hp => exact (Reps.none _ _));intro v374 w3 ho4 hb hg_ hnew_;clear hg_ hnew_;(first | rw [← Ny373.out] at ho4 | (simp only [Int.reduceToNat] at ho4;rw [← Ny373.out] at ho4));have n0_ := Yd (Kd.R_lower ho4 (below_size (Y3 HB.out)));have n1_ := Yd (below_step (Y3 HB.out) hb);clear HB;have HO375 := n0_;have HB := n1_;clear n0_ n1_;clear hb ho4))
 go_loopg [5,6] k (fun kq v5 v6 w' => ∃ (x5_1 : List (S26)) (x6_1 : Int),v6 = .int .i64 x6_1 ∧ Aside0 (plenumref34_Expire.l0 kq l0 a1 x5_1 x6_1 = some r) ∧ Aside0 (kq ≤ k) ∧ Aside0 (Kd.R k26 26 w' w.heap.size (fun _ => True) v5 x5_1) ∧ Aside0 (Below w.heap.size w w'))
 case atStart => exact ⟨(y373),(0),Y12,H',⟨Nat.le_refl _⟩,⟨Y5 HO375.out⟩,⟨Y3 HB.out⟩⟩
 case round =>
  clear H'
  try clear c1
  try clear p2
  obtain ⟨x5_1,x6_1,rfl,HA,HK1,HO_5,HB⟩ := hrel
  cases gk with
  | zero => exact absurd HA.out (by simp [plenumref34_Expire.l0])
  | succ k1 =>
   have H := HA.out
   clear HA
   simp only [plenumref34_Expire.l0] at H
   have HC5 := Yd H
   clear H
   go_upto_region 3 with (fail)
   go_cut [16] (fun v16 wc => ∃ (kq : Nat) (x16_4 : Bool),v16 = .bool x16_4 ∧ Aside0 (plenumref34_Expire.j1 kq l0 a1 x5_1 x6_1 x16_4 = some r) ∧ Aside0 (kq ≤ k1) ∧ Aside0 (Kd.R k26 26 wc w.heap.size (fun _ => True) u5 x5_1) ∧ Aside0 (Below w.heap.size w wc))
   case first =>
    have H := HC5.out
    clear HC5
    by_cases c6 : x6_1 < (l0.length : Int)
    ·rw [if_pos c6] at H
     have c6b0 : decide (x6_1 < (l0.length : Int)) = true := decide_eq_true c6
     clear c6
     (first | rw [c6b0] | (simp only [i64_w,i32_w];rw [c6b0]) | skip)
     replace H := Option.bind_eq_some_iff.mp H
     obtain ⟨t376,A70,H⟩ := H
     replace H : (plenumref34_Expire.j1 k1 l0 a1 x5_1 x6_1 (t376 == 0)) = some r := H
     have A7 := Yd A70
     clear A70
     have H' := Yd H
     clear H
     go_wp2_with (first | (go_at_call 10;(with_reducible refine (plenumref34_Check.calls k1 _ _ l0 t376 _ ?side1 ?side2 A7.out).mono ?_);(case side1 => exact Y11 (Kd.C_below HR0.out HB.out));(case side2 => exact HC0.out);rintro e w8 ⟨rfl,hb⟩;have n0_ := Yd (Kd.R_below (Y5 HO_5.out) hb);have n1_ := Yd (below_step (Y3 HB.out) hb);clear HO_5;clear HB;have HO_5 := n0_;have HB := n1_;clear n0_ n1_;(try clear hb);(try clear hb2);(try clear hk);(try clear hi)))
     go_meet
     case rel => exact ⟨_,((t376 == 0)),Y12,H',⟨by have := HK1.out;first | omega | exact Nat.le_refl _⟩,⟨Y5 HO_5.out⟩,⟨Y3 HB.out⟩⟩
    ·rw [if_neg c6] at H
     have c6b0 : decide (x6_1 < (l0.length : Int)) = false := decide_eq_false c6
     clear c6
     (first | rw [c6b0] | (simp only [i64_w,i32_w];rw [c6b0]) | skip)
     have H' := Yd H
     clear H
     go_wp2
     go_meet
     case rel => exact ⟨_,(false),Y12,H',⟨by have := HK1.out;first | omega | exact Nat.le_refl _⟩,⟨Y5 HO_5.out⟩,⟨Y3 HB.out⟩⟩
   case rest =>
    clear HC5
    try clear c1
    try clear p2
    try clear c6
    try clear c6b0
    try clear p2
    obtain ⟨kq,x16_4,rfl,HA,HJ4,HO_5,HB⟩ := hcut
    cases kq with
    | zero => exact absurd HA.out (by simp [plenumref34_Expire.j1])
    | succ kj4 =>
     have H := HA.out
     clear HA
     simp only [plenumref34_Expire.j1] at H
     by_cases c9 : x16_4 = true
     ·subst c9
      have H1 : (if 0 ≤ x6_1 then (if x6_1 < (l0.length : Int) then (if ((rd_T26 l0 x6_1).f2) > a1 then (if x5_1.length < 2513169434916 then (plenumref34_Expire.l0 kj4 l0 a1 (x5_1 ++ [(⟨(rd_T26 l0 x6_1).f0,(rd_T26 l0 x6_1).f1,(rd_T26 l0 x6_1).f2,(⟨(rd_T26 l0 x6_1).f3.f0,(rd_T26 l0 x6_1).f3.f1⟩ : S24),(rd_T26 l0 x6_1).f4⟩ : S26)]) (wrap64 (x6_1 + 1))) else (none)) else (plenumref34_Expire.l0 kj4 l0 a1 x5_1 (wrap64 (x6_1 + 1)))) else (none)) else (none)) = some r := by rw [if_pos rfl] at H;exact H
      clear H
      have H := H1
      clear H1
      by_cases c10 : 0 ≤ x6_1
      case neg => rw [if_neg c10] at H;exact absurd H (by simp)
      rw [if_pos c10] at H
      have c10b0 : decide (0 ≤ x6_1) = true := decide_eq_true c10
      clear c10
      by_cases c11 : x6_1 < (l0.length : Int)
      case neg => rw [if_neg c11] at H;exact absurd H (by simp)
      rw [if_pos c11] at H
      have c11b0 : decide (x6_1 < (l0.length : Int)) = true := decide_eq_true c11
      clear c11
      by_cases c12 : ((rd_T26 l0 x6_1).f2) > a1
      ·rw [if_pos c12] at H
       have c12b0 : decide (a1 < ((rd_T26 l0 x6_1).f2)) = true := decide_eq_true c12
       clear c12
       by_cases c13 : x5_1.length < 2513169434916
       case neg => rw [if_neg c13] at H;exact absurd H (by simp)
       rw [if_pos c13] at H
       have LMc13 := Yd c13
       clear c13
       obtain ⟨y379,hy379⟩ : ∃ y_ : List (S26),y_ = (x5_1 ++ [(⟨(rd_T26 l0 x6_1).f0,(rd_T26 l0 x6_1).f1,(rd_T26 l0 x6_1).f2,(⟨(rd_T26 l0 x6_1).f3.f0,(rd_T26 l0 x6_1).f3.f1⟩ : S24),(rd_T26 l0 x6_1).f4⟩ : S26)]) := ⟨_,rfl⟩
       replace H : (plenumref34_Expire.l0 kj4 l0 a1 y379 (wrap64 (x6_1 + 1))) = some r := by first | (rw [hy379];with_reducible exact H) | (have H2_ := (Option.bind_some _ _).symm.trans H;rw [hy379];with_reducible exact H2_) | (have H2_ := (Option.bind_some _ _).symm.trans H;with_reducible exact H2_) | with_reducible exact H | (rw [hy379];exact H) | exact H
       have Ny379 := Yd hy379
       clear hy379
       have H' := Yd H
       clear H
       have p377 : 0 ≤ (x6_1 : Int) := Y9
       have q377 : x6_1 < (l0.length : Int) := Y9
       obtain ⟨ad377,e377,hx377_0,hx377_1,hx377_2,hx377_3,hx377_4,hx377_5⟩ := at_T26 HR0.out x6_1 p377 q377
       cases e377
       replace hx377_0 := Y10 HB.out hx377_0
       replace hx377_1 := Y10 HB.out hx377_1
       replace hx377_2 := Y10 HB.out hx377_2
       replace hx377_3 := Y10 HB.out hx377_3
       replace hx377_4 := Y10 HB.out hx377_4
       replace hx377_5 := Y10 HB.out hx377_5
       replace p377 := eq_true p377
       replace q377 := eq_true q377
       have p378 : 0 ≤ (x6_1 : Int) := Y9
       have q378 : x6_1 < (l0.length : Int) := Y9
       obtain ⟨ad378,e378,hx378_0,hx378_1,hx378_2,hx378_3,hx378_4,hx378_5⟩ := at_T26 HR0.out x6_1 p378 q378
       obtain rfl : ad377 = ad378 := (by injection e378)
       replace hx378_0 := Y10 HB.out hx378_0
       replace hx378_1 := Y10 HB.out hx378_1
       replace hx378_2 := Y10 HB.out hx378_2
       replace hx378_3 := Y10 HB.out hx378_3
       replace hx378_4 := Y10 HB.out hx378_4
       replace hx378_5 := Y10 HB.out hx378_5
       replace p378 := eq_true p378
       replace q378 := eq_true q378
       go_wp2_with (first | ((with_reducible refine gate_builtin (b := .append) (xs := #[.tmp 26,.tmp 31]) rfl ?_);at_builtin;refine Kd.R_append k26 (w0 := w) w.heap.size rfl (.tmp 26) (.tmp 31) 22 26 (.agg #[(.string ⟨#[]⟩),(.int .i64 0),(.int .i64 0),(.int .i64 0),(.int .i64 0),(.int .i64 0)]) 56 rfl Try.underlying22 info26 rfl (by decide) (by omega) u5 x5_1 (⟨(rd_T26 l0 x6_1).f0,(rd_T26 l0 x6_1).f1,(rd_T26 l0 x6_1).f2,(⟨(rd_T26 l0 x6_1).f3.f0,(rd_T26 l0 x6_1).f3.f1⟩ : S24),(rd_T26 l0 x6_1).f4⟩ : S26) [.string ((rd_T26 l0 x6_1).f0),.int .i64 ((rd_T26 l0 x6_1).f1),.int .i64 ((rd_T26 l0 x6_1).f2),.int .i64 ((rd_T26 l0 x6_1).f3.f0),.int .i64 ((rd_T26 l0 x6_1).f3.f1),.int .i64 ((rd_T26 l0 x6_1).f4)] (fun _ => True) (fun _ => False) rfl rfl ?aP (fun _ hk => hk.elim) ?aF ?aO ?aB ?aS ?aL ?_;(case aP => exact k26_mkM _ _ _ (⟨(rd_T26 l0 x6_1).f0,(rd_T26 l0 x6_1).f1,(rd_T26 l0 x6_1).f2,(⟨(rd_T26 l0 x6_1).f3.f0,(rd_T26 l0 x6_1).f3.f1⟩ : S24),(rd_T26 l0 x6_1).f4⟩ : S26));(case aB => exact (Y3 HB.out));(case aF => exact (fun _ _ => trivial));(case aO => exact (Y5 HO_5.out));(case aS => exact (below_size (Y3 HB.out)));(case aL => have := LMc13.out;omega);intro v380 w14 ho hb hg hat;rw [← Ny379.out] at ho;have n0_ := Yd (hb);have n1_ := Yd (ho);clear HB;clear HO_5;have HB := n0_;have HO381 := n1_;clear n0_ n1_;clear ho hb hg hat))
       go_roundg kj4
       case measure => have := HK1.out;have := HJ4.out;omega
       case rel => exact ⟨(y379),(wrap64 (x6_1 + 1)),Y12,H',⟨by have := HK1.out;have := HJ4.out;omega⟩,⟨Y5 HO381.out⟩,⟨Y3 HB.out⟩⟩
      ·rw [if_neg c12] at H
       have c12b0 : decide (a1 < ((rd_T26 l0 x6_1).f2)) = false := decide_eq_false c12
       clear c12
       have H' := Yd H
       clear H
       have p377 : 0 ≤ (x6_1 : Int) := Y9
       have q377 : x6_1 < (l0.length : Int) := Y9
       obtain ⟨ad377,e377,hx377_0,hx377_1,hx377_2,hx377_3,hx377_4,hx377_5⟩ := at_T26 HR0.out x6_1 p377 q377
       cases e377
       replace hx377_0 := Y10 HB.out hx377_0
       replace hx377_1 := Y10 HB.out hx377_1
       replace hx377_2 := Y10 HB.out hx377_2
       replace hx377_3 := Y10 HB.out hx377_3
       replace hx377_4 := Y10 HB.out hx377_4
       replace hx377_5 := Y10 HB.out hx377_5
       replace p377 := eq_true p377
       replace q377 := eq_true q377
       go_wp2
       go_roundg kj4
       case measure => have := HK1.out;have := HJ4.out;omega
       case rel => exact ⟨(x5_1),(wrap64 (x6_1 + 1)),Y12,H',⟨by have := HK1.out;have := HJ4.out;omega⟩,⟨Y5 HO_5.out⟩,⟨Y3 HB.out⟩⟩
     ·replace c9 := Bool.eq_false_iff.mpr c9
      subst c9
      have H1 : (some x5_1) = some r := by rw [if_neg (show ¬ (false = true) by decide)] at H;exact H
      clear H
      have H := H1
      clear H1
      obtain rfl := Option.some.inj H
      go_wp2
      go_ret
      exact ⟨_,by first | rfl | (simp [errW_none,errW_some] <;> rfl) | (simp [*,errW_none,errW_some] <;> rfl),by (with_reducible repeat (first | apply Kd.R_alloc | apply Kd.R_drewN | apply Kd.R_drew));exact HO_5.out,Y3 HB.out⟩
end Go.Proofs.Ytaoicdkjjjlmeaa.PD34
