/- THE LAW: see the last theorem; the walk through the program and the plain law, joined. Conditions: none. -/
import Derived.Test.YtaoicdkjjjlmeaaZc3
import Derived.ProofKit
import Derived.Deep.Slices
import Derived.ChangeSame
import Derived.Test.YtaoicdkjjjlmeaaRows
import Derived.OpenShut
import Derived.ShutString
import Derived.ChangeOld
set_option linter.unusedVariables false
set_option linter.unusedSimpArgs false
namespace Go.Proofs.Ytaoicdkjjjlmeaa.PD34
open Go.RowKit Go.Proofs.YtaoicdkjjjlmeaaW.PrintWords Go.Proofs.YtaoicdkjjjlmeaaW.PrintLast Go.Proofs.YtaoicdkjjjlmeaaW.PrintMore
attribute [local go_sem] max2_int min2_int max_two min_two max_three min_three max_four min_four
attribute [local go_sem high] eqA24
def plenumlaw34_OverrideChecks.f (k : Nat) (l0 : List (S26)) (a1 : Int) : Option (Bool) := (plenumlaw34_awake.f k).bind fun t321 => (if t321 = true then ((plenumref34_Few.f k l0).bind fun t322 => (if t322 = true then ((plenumref34_Check.f k l0).bind fun t323 => ((override_Check.f k l0).bind fun t324 => (if t324 = t323 then (if t323 = 0 then (some true) else ((override_Pieces.f k l0 0 10).bind fun bt326 => ((override_Next.f k l0 a1).bind fun bt330 => ((override_Add.f k l0 (⟨#[]⟩ : ByteArray) 0 0 0 0 0).bind fun bt332 => ((override_Remove.f k l0 (⟨#[97]⟩ : ByteArray)).bind fun bt336 => (if bt326.2 = t323 then (if bt330.2 = t323 then (if bt332.2 = t323 then (if bt336.2 = t323 then (if (bt326.1.length : Int) = 0 then (if bt330.1 = 0 then (if (bt332.1.length : Int) = 0 then (if (bt336.1.length : Int) = 0 then ((override_At.f k l0 a1).bind fun t340 => (if t340 = (-1) then ((override_Value.f k l0 a1 3 7).bind fun bt341 => (if (bt341.1 == 3 && (bt341.2 == 7)) = true then ((override_Expire.f k l0 a1).bind fun t343 => (some ((t343.length : Int) == 0))) else (none))) else (none))) else (none)) else (none)) else (none)) else (none)) else (none)) else (none)) else (none)) else (none))))))) else (none)))) else (some true))) else (none))
theorem plenumlaw34_OverrideChecks.mono : ∀ a0 a1 k,LeO (plenumlaw34_OverrideChecks.f k a0 a1) (plenumlaw34_OverrideChecks.f (k + 1) a0 a1) := by
 intro a0 a1 k
 unfold plenumlaw34_OverrideChecks.f
 repeat' first
   | (with_reducible exact override_Add.mono _ _ _ _ _ _ _ _)
   | (with_reducible exact override_At.mono _ _ _)
   | (with_reducible exact override_Check.mono _ _)
   | (with_reducible exact override_Expire.mono _ _ _)
   | (with_reducible exact override_Next.mono _ _ _)
   | (with_reducible exact override_Pieces.mono _ _ _ _)
   | (with_reducible exact override_Remove.mono _ _ _)
   | (with_reducible exact override_Value.mono _ _ _ _ _)
   | (with_reducible exact plenumlaw34_awake.mono _)
   | (with_reducible exact plenumref34_Check.mono _ _)
   | (with_reducible exact plenumref34_Few.mono _ _)
   | (with_reducible exact LeO.refl _)
   | (with_reducible exact LeO.none _)
   | (with_reducible refine LeO.ite ?_ ?_)
   | (with_reducible refine LeO.bind ?_ (fun _ => ?_))
   | exact override_Add.mono _ _ _ _ _ _ _ _
   | exact override_At.mono _ _ _
   | exact override_Check.mono _ _
   | exact override_Expire.mono _ _ _
   | exact override_Next.mono _ _ _
   | exact override_Pieces.mono _ _ _ _
   | exact override_Remove.mono _ _ _
   | exact override_Value.mono _ _ _ _ _
   | exact plenumlaw34_awake.mono _
   | exact plenumref34_Check.mono _ _
   | exact plenumref34_Few.mono _ _
   | exact LeO.none _
   | refine LeO.ite ?_ ?_
   | refine LeO.bind ?_ (fun _ => ?_)
def plenumlaw34_OverrideChecks.T15 : Bool × List (List Nat × List Nat) := (true,[([],[]),([],[]),([0,1],[0,1]),([2],[2]),([3],[3]),([3],[3]),([4,5,3],[3,4,5]),([3,6],[3,6]),([7,3],[7]),([8],[8]),([8],[8]),([9,10,8],[8,9,10]),([8,11],[8,11]),([12,8],[12]),([13],[13]),([13],[13]),([14,15,13],[13,14,15]),([13,16],[13,16]),([17,13],[17]),([18],[18]),([19,18],[18,19]),([20,18],[18,20]),([18,21],[18,21]),([22,18],[22]),([23],[23]),([24,23],[23,24]),([23,25],[23,25]),([26,23],[26]),([27],[27]),([28,27],[27,28]),([29,27],[27,29]),([27,30],[27,30]),([31,27],[31]),([32],[32]),([33,32],[32,33]),([34,32],[32,34]),([32,35],[32,35]),([36,32],[36]),([37],[37]),([37],[37]),([38,39,37,37],[37,38,39]),([40,37],[37,40]),([37,41],[37,41]),([42,40],[42]),([43],[43]),([43],[43]),([43],[43]),([44,45,46,43,43],[43,44,45,46]),([43],[43]),([47,48,43],[43,47,48]),([43,49],[43,49]),([50,47],[50]),([51],[51]),([51],[51]),([52,53,51,51],[51,52,53]),([54,51],[51,54]),([55,51],[51,55]),([51,56],[51,56]),([57,54,0,1,2,3,4,5,6,7,8,9,10,11,12,13,14,15,16,17,18,19,20,21,22,23,24,25,26,27,28,29,30,31,32,33,34,35,36,37,38,39,40,41,42,43,44,45,46,47,48,49,50,51,52,53,54,55,56,57],[57])])
def plenumlaw34_OverrideChecks.B15 : List Nat := [0,0,3,7,15,15,63,127,255,511,511,2047,4095,8191,16383,16383,65535,131071,262143,524287,1048575,2097151,4194303,8388607,16777215,33554431,67108863,134217727,268435455,536870911,1073741823,2147483647,4294967295,8589934591,17179869183,34359738367,68719476735,137438953471,274877906943,274877906943,1099511627775,2199023255551,4398046511103,8796093022207,17592186044415,17592186044415,17592186044415,140737488355327,17592186044415,562949953421311,1125899906842623,2251799813685247,4503599627370495,4503599627370495,18014398509481983,36028797018963967,72057594037927935,144115188075855871,288230376151711743]
theorem plenumlaw34_OverrideChecks.tab15 : rtab .any (opsOf Try.f5 15) = plenumlaw34_OverrideChecks.T15 := by kernel_rfl
theorem plenumlaw34_OverrideChecks.bits15 : waitsOk plenumlaw34_OverrideChecks.T15.2 plenumlaw34_OverrideChecks.B15 = true := by kernel_rfl
set_option maxHeartbeats 100000000 in
set_option maxRecDepth 100000 in
theorem plenumlaw34_OverrideChecks.calls (k : Nat) (A0 : Option Addr) (c0 : Nat) (l0 : List (S26)) (a1 : Int) (r : Bool) (w : World) (hr0 : Kd.C k26 w A0 l0.length l0) (hc0 : l0.length ≤ c0) (h : plenumlaw34_OverrideChecks.f k l0 a1 = some r) :
  Calls Try.prog 5 #[.slice A0 l0.length c0,.int .i64 a1] w fun e w' => e = .returned (.bool r) ∧ Below w.heap.size w w' := by
 have hu24 := Try.underlying24
 have hu26 := Try.underlying26
 have HR0 := Yd hr0
 have HC0 := Yd hc0
 clear hr0 hc0
 have HB := Yd (Below.refl w.heap.size w)
 have H : ((plenumlaw34_awake.f k).bind fun t321 => (if t321 = true then ((plenumref34_Few.f k l0).bind fun t322 => (if t322 = true then ((plenumref34_Check.f k l0).bind fun t323 => ((override_Check.f k l0).bind fun t324 => (if t324 = t323 then (if t323 = 0 then (some true) else ((override_Pieces.f k l0 0 10).bind fun bt326 => ((override_Next.f k l0 a1).bind fun bt330 => ((override_Add.f k l0 (⟨#[]⟩ : ByteArray) 0 0 0 0 0).bind fun bt332 => ((override_Remove.f k l0 (⟨#[97]⟩ : ByteArray)).bind fun bt336 => (if bt326.2 = t323 then (if bt330.2 = t323 then (if bt332.2 = t323 then (if bt336.2 = t323 then (if (bt326.1.length : Int) = 0 then (if bt330.1 = 0 then (if (bt332.1.length : Int) = 0 then (if (bt336.1.length : Int) = 0 then ((override_At.f k l0 a1).bind fun t340 => (if t340 = (-1) then ((override_Value.f k l0 a1 3 7).bind fun bt341 => (if (bt341.1 == 3 && (bt341.2 == 7)) = true then ((override_Expire.f k l0 a1).bind fun t343 => (some ((t343.length : Int) == 0))) else (none))) else (none))) else (none)) else (none)) else (none)) else (none)) else (none)) else (none)) else (none)) else (none))))))) else (none)))) else (some true))) else (none))) = some r := h
 clear h
 replace H := Option.bind_eq_some_iff.mp H
 obtain ⟨t321,A30,H⟩ := H
 replace H : (if t321 = true then ((plenumref34_Few.f k l0).bind fun t322 => (if t322 = true then ((plenumref34_Check.f k l0).bind fun t323 => ((override_Check.f k l0).bind fun t324 => (if t324 = t323 then (if t323 = 0 then (some true) else ((override_Pieces.f k l0 0 10).bind fun bt326 => ((override_Next.f k l0 a1).bind fun bt330 => ((override_Add.f k l0 (⟨#[]⟩ : ByteArray) 0 0 0 0 0).bind fun bt332 => ((override_Remove.f k l0 (⟨#[97]⟩ : ByteArray)).bind fun bt336 => (if bt326.2 = t323 then (if bt330.2 = t323 then (if bt332.2 = t323 then (if bt336.2 = t323 then (if (bt326.1.length : Int) = 0 then (if bt330.1 = 0 then (if (bt332.1.length : Int) = 0 then (if (bt336.1.length : Int) = 0 then ((override_At.f k l0 a1).bind fun t340 => (if t340 = (-1) then ((override_Value.f k l0 a1 3 7).bind fun bt341 => (if (bt341.1 == 3 && (bt341.2 == 7)) = true then ((override_Expire.f k l0 a1).bind fun t343 => (some ((t343.length : Int) == 0))) else (none))) else (none))) else (none)) else (none)) else (none)) else (none)) else (none)) else (none)) else (none)) else (none))))))) else (none)))) else (some true))) else (none)) = some r := H
 have A3 := Yd A30
 clear A30
 by_cases c4 : t321 = true
 ·subst c4
  have H1 : ((plenumref34_Few.f k l0).bind fun t322 => (if t322 = true then ((plenumref34_Check.f k l0).bind fun t323 => ((override_Check.f k l0).bind fun t324 => (if t324 = t323 then (if t323 = 0 then (some true) else ((override_Pieces.f k l0 0 10).bind fun bt326 => ((override_Next.f k l0 a1).bind fun bt330 => ((override_Add.f k l0 (⟨#[]⟩ : ByteArray) 0 0 0 0 0).bind fun bt332 => ((override_Remove.f k l0 (⟨#[97]⟩ : ByteArray)).bind fun bt336 => (if bt326.2 = t323 then (if bt330.2 = t323 then (if bt332.2 = t323 then (if bt336.2 = t323 then (if (bt326.1.length : Int) = 0 then (if bt330.1 = 0 then (if (bt332.1.length : Int) = 0 then (if (bt336.1.length : Int) = 0 then ((override_At.f k l0 a1).bind fun t340 => (if t340 = (-1) then ((override_Value.f k l0 a1 3 7).bind fun bt341 => (if (bt341.1 == 3 && (bt341.2 == 7)) = true then ((override_Expire.f k l0 a1).bind fun t343 => (some ((t343.length : Int) == 0))) else (none))) else (none))) else (none)) else (none)) else (none)) else (none)) else (none)) else (none)) else (none)) else (none))))))) else (none)))) else (some true))) = some r := by rw [if_pos rfl] at H;exact H
  clear H
  have H := H1
  clear H1
  replace H := Option.bind_eq_some_iff.mp H
  obtain ⟨t322,A50,H⟩ := H
  replace H : (if t322 = true then ((plenumref34_Check.f k l0).bind fun t323 => ((override_Check.f k l0).bind fun t324 => (if t324 = t323 then (if t323 = 0 then (some true) else ((override_Pieces.f k l0 0 10).bind fun bt326 => ((override_Next.f k l0 a1).bind fun bt330 => ((override_Add.f k l0 (⟨#[]⟩ : ByteArray) 0 0 0 0 0).bind fun bt332 => ((override_Remove.f k l0 (⟨#[97]⟩ : ByteArray)).bind fun bt336 => (if bt326.2 = t323 then (if bt330.2 = t323 then (if bt332.2 = t323 then (if bt336.2 = t323 then (if (bt326.1.length : Int) = 0 then (if bt330.1 = 0 then (if (bt332.1.length : Int) = 0 then (if (bt336.1.length : Int) = 0 then ((override_At.f k l0 a1).bind fun t340 => (if t340 = (-1) then ((override_Value.f k l0 a1 3 7).bind fun bt341 => (if (bt341.1 == 3 && (bt341.2 == 7)) = true then ((override_Expire.f k l0 a1).bind fun t343 => (some ((t343.length : Int) == 0))) else (none))) else (none))) else (none)) else (none)) else (none)) else (none)) else (none)) else (none)) else (none)) else (none))))))) else (none)))) else (some true)) = some r := H
  have A5 := Yd A50
  clear A50
  by_cases c6 : t322 = true
  ·subst c6
   have H1 : ((plenumref34_Check.f k l0).bind fun t323 => ((override_Check.f k l0).bind fun t324 => (if t324 = t323 then (if t323 = 0 then (some true) else ((override_Pieces.f k l0 0 10).bind fun bt326 => ((override_Next.f k l0 a1).bind fun bt330 => ((override_Add.f k l0 (⟨#[]⟩ : ByteArray) 0 0 0 0 0).bind fun bt332 => ((override_Remove.f k l0 (⟨#[97]⟩ : ByteArray)).bind fun bt336 => (if bt326.2 = t323 then (if bt330.2 = t323 then (if bt332.2 = t323 then (if bt336.2 = t323 then (if (bt326.1.length : Int) = 0 then (if bt330.1 = 0 then (if (bt332.1.length : Int) = 0 then (if (bt336.1.length : Int) = 0 then ((override_At.f k l0 a1).bind fun t340 => (if t340 = (-1) then ((override_Value.f k l0 a1 3 7).bind fun bt341 => (if (bt341.1 == 3 && (bt341.2 == 7)) = true then ((override_Expire.f k l0 a1).bind fun t343 => (some ((t343.length : Int) == 0))) else (none))) else (none))) else (none)) else (none)) else (none)) else (none)) else (none)) else (none)) else (none)) else (none))))))) else (none)))) = some r := by rw [if_pos rfl] at H;exact H
   clear H
   have H := H1
   clear H1
   replace H := Option.bind_eq_some_iff.mp H
   obtain ⟨t323,A70,H⟩ := H
   replace H : ((override_Check.f k l0).bind fun t324 => (if t324 = t323 then (if t323 = 0 then (some true) else ((override_Pieces.f k l0 0 10).bind fun bt326 => ((override_Next.f k l0 a1).bind fun bt330 => ((override_Add.f k l0 (⟨#[]⟩ : ByteArray) 0 0 0 0 0).bind fun bt332 => ((override_Remove.f k l0 (⟨#[97]⟩ : ByteArray)).bind fun bt336 => (if bt326.2 = t323 then (if bt330.2 = t323 then (if bt332.2 = t323 then (if bt336.2 = t323 then (if (bt326.1.length : Int) = 0 then (if bt330.1 = 0 then (if (bt332.1.length : Int) = 0 then (if (bt336.1.length : Int) = 0 then ((override_At.f k l0 a1).bind fun t340 => (if t340 = (-1) then ((override_Value.f k l0 a1 3 7).bind fun bt341 => (if (bt341.1 == 3 && (bt341.2 == 7)) = true then ((override_Expire.f k l0 a1).bind fun t343 => (some ((t343.length : Int) == 0))) else (none))) else (none))) else (none)) else (none)) else (none)) else (none)) else (none)) else (none)) else (none)) else (none))))))) else (none))) = some r := H
   have A7 := Yd A70
   clear A70
   replace H := Option.bind_eq_some_iff.mp H
   obtain ⟨t324,A80,H⟩ := H
   replace H : (if t324 = t323 then (if t323 = 0 then (some true) else ((override_Pieces.f k l0 0 10).bind fun bt326 => ((override_Next.f k l0 a1).bind fun bt330 => ((override_Add.f k l0 (⟨#[]⟩ : ByteArray) 0 0 0 0 0).bind fun bt332 => ((override_Remove.f k l0 (⟨#[97]⟩ : ByteArray)).bind fun bt336 => (if bt326.2 = t323 then (if bt330.2 = t323 then (if bt332.2 = t323 then (if bt336.2 = t323 then (if (bt326.1.length : Int) = 0 then (if bt330.1 = 0 then (if (bt332.1.length : Int) = 0 then (if (bt336.1.length : Int) = 0 then ((override_At.f k l0 a1).bind fun t340 => (if t340 = (-1) then ((override_Value.f k l0 a1 3 7).bind fun bt341 => (if (bt341.1 == 3 && (bt341.2 == 7)) = true then ((override_Expire.f k l0 a1).bind fun t343 => (some ((t343.length : Int) == 0))) else (none))) else (none))) else (none)) else (none)) else (none)) else (none)) else (none)) else (none)) else (none)) else (none))))))) else (none)) = some r := H
   have A8 := Yd A80
   clear A80
   by_cases c9 : t324 = t323
   case neg => rw [if_neg c9] at H;exact absurd H (by simp)
   rw [if_pos c9] at H
   have c9b0 : (t324 == t323) = true := beq_iff_eq.mpr c9
   have c9b1 : (t324 != t323) = false := bne_eq_false_iff_eq.mpr c9
   clear c9
   by_cases c10 : t323 = 0
   ·rw [if_pos c10] at H
    have c10b0 : (t323 == 0) = true := beq_iff_eq.mpr c10
    have c10b1 : (t323 != 0) = false := bne_eq_false_iff_eq.mpr c10
    clear c10
    obtain rfl := Option.some.inj H
    go_enter Try.func5,Try.ntmps5
    go_wp2_with (first | ((with_reducible refine gate_callee (f := 6) rfl ?_);refine goesL_ (some 15) rfl rfl Try.func6 (by kernel_rfl) rfl #[] rfl Y8 ?_;(with_reducible refine (plenumlaw34_awake.calls k  true _ A3.out).mono ?_);rintro e w11 ⟨rfl,hb⟩;refine ⟨_,rfl,?_⟩;have n0_ := Yd (below_step (Y3 HB.out) hb);clear HB;have HB := n0_;clear n0_;(try clear hb);(try clear hb2);(try clear hk);(try clear hi)) | ((with_reducible refine gate_callee (f := 7) rfl ?_);refine goesL_ (some 18) rfl rfl Try.func7 (by kernel_rfl) rfl #[.slice A0 l0.length c0] rfl Y8 ?_;(with_reducible refine (plenumref34_Few.calls k _ _ l0 true _ ?side1 ?side2 A5.out).mono ?_);(case side1 => exact Y11 (Kd.C_below HR0.out HB.out));(case side2 => exact HC0.out);rintro e w' ⟨rfl,⟨nd,rfl⟩⟩;refine ⟨_,rfl,?_⟩) | ((with_reducible refine gate_callee (f := 10) rfl ?_);refine goesL_ (some 21) rfl rfl Try.func10 (by kernel_rfl) rfl #[.slice A0 l0.length c0] rfl Y8 ?_;(with_reducible refine (plenumref34_Check.calls k _ _ l0 t323 _ ?side1 ?side2 A7.out).mono ?_);(case side1 => exact Y11 (Kd.C_below HR0.out (Y3 HB.out)));(case side2 => exact HC0.out);rintro e w12 ⟨rfl,hb⟩;refine ⟨_,rfl,?_⟩;have n0_ := Yd (below_step (Y3 HB.out) hb);clear HB;have HB := n0_;clear n0_;(try clear hb);(try clear hb2);(try clear hk);(try clear hi)) | ((with_reducible refine gate_callee (f := 16) rfl ?_);refine goesL_ (some 23) rfl rfl Try.func16 (by kernel_rfl) rfl #[.slice A0 l0.length c0] rfl Y8 ?_;(with_reducible refine (override_Check.calls k _ _ l0 t324 _ ?side1 ?side2 A8.out).mono ?_);(case side1 => exact Y11 (Kd.C_below HR0.out HB.out));(case side2 => exact HC0.out);rintro e w13 ⟨rfl,hb⟩;refine ⟨_,rfl,?_⟩;have n0_ := Yd (below_step (Y3 HB.out) hb);clear HB;have HB := n0_;clear n0_;(try clear hb);(try clear hb2);(try clear hk);(try clear hi)))
    go_ret
    exact ⟨by first | rfl | (simp [errW_none,errW_some] <;> rfl) | (simp [*,errW_none,errW_some] <;> rfl),Y3 HB.out⟩
   ·rw [if_neg c10] at H
    have c10b0 : (t323 == 0) = false := beq_eq_false_iff_ne.mpr c10
    have c10b1 : (t323 != 0) = true := bne_iff_ne.mpr c10
    replace H := Option.bind_eq_some_iff.mp H
    obtain ⟨⟨t326,t327⟩,A140,H⟩ := H
    replace H : ((override_Next.f k l0 a1).bind fun bt330 => ((override_Add.f k l0 (⟨#[]⟩ : ByteArray) 0 0 0 0 0).bind fun bt332 => ((override_Remove.f k l0 (⟨#[97]⟩ : ByteArray)).bind fun bt336 => (if t327 = t323 then (if bt330.2 = t323 then (if bt332.2 = t323 then (if bt336.2 = t323 then (if (t326.length : Int) = 0 then (if bt330.1 = 0 then (if (bt332.1.length : Int) = 0 then (if (bt336.1.length : Int) = 0 then ((override_At.f k l0 a1).bind fun t340 => (if t340 = (-1) then ((override_Value.f k l0 a1 3 7).bind fun bt341 => (if (bt341.1 == 3 && (bt341.2 == 7)) = true then ((override_Expire.f k l0 a1).bind fun t343 => (some ((t343.length : Int) == 0))) else (none))) else (none))) else (none)) else (none)) else (none)) else (none)) else (none)) else (none)) else (none)) else (none))))) = some r := H
    have A14 := Yd A140
    clear A140
    replace H := Option.bind_eq_some_iff.mp H
    obtain ⟨⟨t330,t331⟩,A150,H⟩ := H
    replace H : ((override_Add.f k l0 (⟨#[]⟩ : ByteArray) 0 0 0 0 0).bind fun bt332 => ((override_Remove.f k l0 (⟨#[97]⟩ : ByteArray)).bind fun bt336 => (if t327 = t323 then (if t331 = t323 then (if bt332.2 = t323 then (if bt336.2 = t323 then (if (t326.length : Int) = 0 then (if t330 = 0 then (if (bt332.1.length : Int) = 0 then (if (bt336.1.length : Int) = 0 then ((override_At.f k l0 a1).bind fun t340 => (if t340 = (-1) then ((override_Value.f k l0 a1 3 7).bind fun bt341 => (if (bt341.1 == 3 && (bt341.2 == 7)) = true then ((override_Expire.f k l0 a1).bind fun t343 => (some ((t343.length : Int) == 0))) else (none))) else (none))) else (none)) else (none)) else (none)) else (none)) else (none)) else (none)) else (none)) else (none)))) = some r := H
    have A15 := Yd A150
    clear A150
    replace H := Option.bind_eq_some_iff.mp H
    obtain ⟨⟨t332,t335⟩,A160,H⟩ := H
    replace H : ((override_Remove.f k l0 (⟨#[97]⟩ : ByteArray)).bind fun bt336 => (if t327 = t323 then (if t331 = t323 then (if t335 = t323 then (if bt336.2 = t323 then (if (t326.length : Int) = 0 then (if t330 = 0 then (if (t332.length : Int) = 0 then (if (bt336.1.length : Int) = 0 then ((override_At.f k l0 a1).bind fun t340 => (if t340 = (-1) then ((override_Value.f k l0 a1 3 7).bind fun bt341 => (if (bt341.1 == 3 && (bt341.2 == 7)) = true then ((override_Expire.f k l0 a1).bind fun t343 => (some ((t343.length : Int) == 0))) else (none))) else (none))) else (none)) else (none)) else (none)) else (none)) else (none)) else (none)) else (none)) else (none))) = some r := H
    have A16 := Yd A160
    clear A160
    replace H := Option.bind_eq_some_iff.mp H
    obtain ⟨⟨t336,t337⟩,A170,H⟩ := H
    replace H : (if t327 = t323 then (if t331 = t323 then (if t335 = t323 then (if t337 = t323 then (if (t326.length : Int) = 0 then (if t330 = 0 then (if (t332.length : Int) = 0 then (if (t336.length : Int) = 0 then ((override_At.f k l0 a1).bind fun t340 => (if t340 = (-1) then ((override_Value.f k l0 a1 3 7).bind fun bt341 => (if (bt341.1 == 3 && (bt341.2 == 7)) = true then ((override_Expire.f k l0 a1).bind fun t343 => (some ((t343.length : Int) == 0))) else (none))) else (none))) else (none)) else (none)) else (none)) else (none)) else (none)) else (none)) else (none)) else (none)) = some r := H
    have A17 := Yd A170
    clear A170
    by_cases c18 : t327 = t323
    ·rw [if_pos c18] at H
     have c18b0 : (t327 == t323) = true := beq_iff_eq.mpr c18
     have c18b1 : (t327 != t323) = false := bne_eq_false_iff_eq.mpr c18
     clear c18
     by_cases c19 : t331 = t323
     ·rw [if_pos c19] at H
      have c19b0 : (t331 == t323) = true := beq_iff_eq.mpr c19
      have c19b1 : (t331 != t323) = false := bne_eq_false_iff_eq.mpr c19
      clear c19
      by_cases c20 : t335 = t323
      ·rw [if_pos c20] at H
       have c20b0 : (t335 == t323) = true := beq_iff_eq.mpr c20
       have c20b1 : (t335 != t323) = false := bne_eq_false_iff_eq.mpr c20
       clear c20
       by_cases c21 : t337 = t323
       ·rw [if_pos c21] at H
        have c21b0 : (t337 == t323) = true := beq_iff_eq.mpr c21
        have c21b1 : (t337 != t323) = false := bne_eq_false_iff_eq.mpr c21
        clear c21
        by_cases c22 : (t326.length : Int) = 0
        ·rw [if_pos c22] at H
         have c22b0 : ((t326.length : Int) == 0) = true := beq_iff_eq.mpr c22
         have c22b1 : ((t326.length : Int) != 0) = false := bne_eq_false_iff_eq.mpr c22
         clear c22
         by_cases c23 : t330 = 0
         ·rw [if_pos c23] at H
          have c23b0 : (t330 == 0) = true := beq_iff_eq.mpr c23
          have c23b1 : (t330 != 0) = false := bne_eq_false_iff_eq.mpr c23
          clear c23
          by_cases c24 : (t332.length : Int) = 0
          ·rw [if_pos c24] at H
           have c24b0 : ((t332.length : Int) == 0) = true := beq_iff_eq.mpr c24
           have c24b1 : ((t332.length : Int) != 0) = false := bne_eq_false_iff_eq.mpr c24
           clear c24
           by_cases c25 : (t336.length : Int) = 0
           ·rw [if_pos c25] at H
            have c25b0 : ((t336.length : Int) == 0) = true := beq_iff_eq.mpr c25
            have c25b1 : ((t336.length : Int) != 0) = false := bne_eq_false_iff_eq.mpr c25
            clear c25
            replace H := Option.bind_eq_some_iff.mp H
            obtain ⟨t340,A260,H⟩ := H
            replace H : (if t340 = (-1) then ((override_Value.f k l0 a1 3 7).bind fun bt341 => (if (bt341.1 == 3 && (bt341.2 == 7)) = true then ((override_Expire.f k l0 a1).bind fun t343 => (some ((t343.length : Int) == 0))) else (none))) else (none)) = some r := H
            have A26 := Yd A260
            clear A260
            by_cases c27 : t340 = (-1)
            ·rw [if_pos c27] at H
             have c27b0 : (t340 == (-1)) = true := beq_iff_eq.mpr c27
             have c27b1 : (t340 != (-1)) = false := bne_eq_false_iff_eq.mpr c27
             clear c27
             replace H := Option.bind_eq_some_iff.mp H
             obtain ⟨⟨t341,t342⟩,A280,H⟩ := H
             replace H : (if (t341 == 3 && (t342 == 7)) = true then ((override_Expire.f k l0 a1).bind fun t343 => (some ((t343.length : Int) == 0))) else (none)) = some r := H
             have A28 := Yd A280
             clear A280
             by_cases c29 : (t341 == 3 && (t342 == 7)) = true
             ·rw [if_pos c29] at H
              have c29b0 : (t341 == 3 && (t342 == 7)) = true := c29
              (try (have c29b1 : decide (t341 = 3 && (t342 == 7)) = true := by simpa using c29))
              (try (have c29b2 : (t341 == 3 && (t342 == 7)) = true := by simpa using c29))
              clear c29
              replace H := Option.bind_eq_some_iff.mp H
              obtain ⟨t343,A300,H⟩ := H
              replace H : (some ((t343.length : Int) == 0)) = some r := H
              have A30 := Yd A300
              clear A300
              obtain rfl := Option.some.inj H
              go_enter Try.func5,Try.ntmps5
              try go_wp2_with (first | ((with_reducible refine gate_callee (f := 6) rfl ?_);refine goesL_ (some 15) rfl rfl Try.func6 (by kernel_rfl) rfl #[] rfl Y8 ?_;(with_reducible refine (plenumlaw34_awake.calls k  true _ A3.out).mono ?_);rintro e w31 ⟨rfl,hb⟩;refine ⟨_,rfl,?_⟩;have n0_ := Yd (below_step (Y3 HB.out) hb);clear HB;have HB := n0_;clear n0_;(try clear hb);(try clear hb2);(try clear hk);(try clear hi)) | ((with_reducible refine gate_callee (f := 7) rfl ?_);refine goesL_ (some 18) rfl rfl Try.func7 (by kernel_rfl) rfl #[.slice A0 l0.length c0] rfl Y8 ?_;(with_reducible refine (plenumref34_Few.calls k _ _ l0 true _ ?side1 ?side2 A5.out).mono ?_);(case side1 => exact Y11 (Kd.C_below HR0.out HB.out));(case side2 => exact HC0.out);rintro e w' ⟨rfl,⟨nd,rfl⟩⟩;refine ⟨_,rfl,?_⟩;(try (rw [drewN_self w31];generalize hq_ : World.drewN w31 _ = w31;have n0_ : Aside0 (Below w.heap.size w w31) := ⟨by rw [← hq_];exact (Y3 HB.out)⟩;clear HB hq_;have HB := n0_;clear n0_))) | ((with_reducible refine gate_callee (f := 10) rfl ?_);refine goesL_ (some 21) rfl rfl Try.func10 (by kernel_rfl) rfl #[.slice A0 l0.length c0] rfl Y8 ?_;(with_reducible refine (plenumref34_Check.calls k _ _ l0 t323 _ ?side1 ?side2 A7.out).mono ?_);(case side1 => exact Y11 (Kd.C_below HR0.out HB.out));(case side2 => exact HC0.out);rintro e w32 ⟨rfl,hb⟩;refine ⟨_,rfl,?_⟩;have n0_ := Yd (below_step (Y3 HB.out) hb);clear HB;have HB := n0_;clear n0_;(try clear hb);(try clear hb2);(try clear hk);(try clear hi)) | ((with_reducible refine gate_callee (f := 16) rfl ?_);refine goesL_ (some 23) rfl rfl Try.func16 (by kernel_rfl) rfl #[.slice A0 l0.length c0] rfl Y8 ?_;(with_reducible refine (override_Check.calls k _ _ l0 t324 _ ?side1 ?side2 A8.out).mono ?_);(case side1 => exact Y11 (Kd.C_below HR0.out HB.out));(case side2 => exact HC0.out);rintro e w33 ⟨rfl,hb⟩;refine ⟨_,rfl,?_⟩;have n0_ := Yd (below_step (Y3 HB.out) hb);clear HB;have HB := n0_;clear n0_;(try clear hb);(try clear hb2);(try clear hk);(try clear hi)) | ((with_reducible refine gate_dst (N := 6) rfl ?_);(try (refine gate_guard (by rfl) ?_;dsimp only));refine box_event ?hg (N := 6) ?hd (cs := #[.int .i64 0,.int .i64 0]) (t := 24) ?hr ?_;(case hd => rfl);(case hg => rfl);(case hr => first | (go_simp;done) | (go_simp;rfl));intro gb325 hg w34 hbox hb;have n0_ := Yd (below_step (Y3 HB.out) hb);have n1_ := Yd (hbox);have n2_ := Yd ((by rw [hg];exact (below_size (Y3 HB.out)) : w.heap.size ≤ gb325));have n3_ := Yd ((by rw [hg];exact (below_size (Y3 HB.out)) : w.heap.size ≤ gb325));clear HB;have HB := n0_;have BK325 := n1_;have GW325 := n2_;have GE325 := n3_;clear n0_ n1_ n2_ n3_;clear hb hbox hg;have hcz35_0 : w34.cell? ⟨gb325,0,none⟩ = some (.int .i64 0) := (blk_cell BK325.out 0).trans rfl;have hcz35_1 : w34.cell? ⟨gb325,1,none⟩ = some (.int .i64 0) := (blk_cell BK325.out 1).trans rfl;have hfz35_0 := blk_frozen BK325.out 0;have hfz35_1 := blk_frozen BK325.out 1) | ((with_reducible refine gate_callee (f := 19) rfl ?_);refine goesL_ (some 31) rfl rfl Try.func19 (by kernel_rfl) rfl #[.slice A0 l0.length c0,.int .i64 0,.int .i64 10] rfl Y8 ?_;(with_reducible refine (override_Pieces.calls k _ _ l0 0 10 t326 t327 _ ?side1 ?side2 A14.out).mono ?_);(case side1 => exact Kd.C_below HR0.out (by first | exact Y4 HB.out GE325.out | exact Y3 HB.out));(case side2 => exact HC0.out);rintro e w36 ⟨v328,rfl,ho0,hb⟩;refine ⟨_,rfl,?_⟩;have n0_ := Yd (Kd.R_lower ho0 (below_size (by first | exact Y4 HB.out GE325.out | exact Y3 HB.out)));have n1_ := Yd (blk_below (g := gb325) (o := .cells #[.int .i64 3,.int .i64 7] 24 (0,0)) (by (with_reducible repeat (first | refine blk_drewN ?_ _ | refine blk_drew ?_ | refine blk_alloc ?_ _));refine blk_put (cs := #[.int .i64 3,.int .i64 0]) ?_ 1 _ rfl;(with_reducible repeat (first | refine blk_drewN ?_ _ | refine blk_drew ?_ | refine blk_alloc ?_ _));refine blk_put (cs := #[.int .i64 0,.int .i64 0]) ?_ 0 _ rfl;(with_reducible repeat (first | refine blk_drewN ?_ _ | refine blk_drew ?_ | refine blk_alloc ?_ _));exact BK325.out) hb);have n2_ := Yd (below_step (by first | exact Y4 HB.out GE325.out | exact Y3 HB.out) hb);clear BK325;clear HB;have HO329 := n0_;have BK325 := n1_;have HB := n2_;clear n0_ n1_ n2_;(try clear hb);(try clear hb2);(try clear hk);(try clear hi);(try clear ho0)) | ((with_reducible refine gate_callee (f := 20) rfl ?_);refine goesL_ (some 37) rfl rfl Try.func20 (by kernel_rfl) rfl #[.slice A0 l0.length c0,.int .i64 a1] rfl Y8 ?_;(with_reducible refine (override_Next.calls k _ _ l0 a1 t330 t331 _ ?side1 ?side2 A15.out).mono ?_);(case side1 => exact Y11 (Kd.C_below HR0.out HB.out));(case side2 => exact HC0.out);rintro e w37 ⟨rfl,hb⟩;refine ⟨_,rfl,?_⟩;have n0_ := Yd (Kd.R_below (Y5 HO329.out) hb);have n1_ := Yd (blk_below (g := gb325) (o := .cells #[.int .i64 3,.int .i64 7] 24 (0,0)) (Y6 BK325.out) hb);have n2_ := Yd (below_step (by first | exact Y4 HB.out GE325.out | exact Y3 HB.out) hb);clear HO329;clear BK325;clear HB;have HO329 := n0_;have BK325 := n1_;have HB := n2_;clear n0_ n1_ n2_;(try clear hb);(try clear hb2);(try clear hk);(try clear hi)) | ((with_reducible refine gate_callee (f := 8) rfl ?_);refine goesL_ (some 43) rfl rfl Try.func8 (by kernel_rfl) rfl #[.slice A0 l0.length c0,.agg #[.string (⟨#[]⟩ : ByteArray),.int .i64 0,.int .i64 0,.int .i64 0,.int .i64 0,.int .i64 0]] rfl Y8 ?_;(with_reducible refine (override_Add.calls k _ _ l0 (⟨#[]⟩ : ByteArray) 0 0 0 0 0 t332 t335 _ ?side1 ?side2 A16.out).mono ?_);(case side1 => exact Y11 (Kd.C_below HR0.out HB.out));(case side2 => exact HC0.out);rintro e w38 ⟨v333,rfl,ho0,hb⟩;refine ⟨_,rfl,?_⟩;have n0_ := Yd (Kd.R_below (Y5 HO329.out) hb);have n1_ := Yd (Kd.R_lower ho0 (below_size (by first | exact Y4 HB.out GE325.out | exact Y3 HB.out)));have n2_ := Yd (blk_below (g := gb325) (o := .cells #[.int .i64 3,.int .i64 7] 24 (0,0)) (Y6 BK325.out) hb);have n3_ := Yd (below_step (by first | exact Y4 HB.out GE325.out | exact Y3 HB.out) hb);clear HO329;clear BK325;clear HB;have HO329 := n0_;have HO334 := n1_;have BK325 := n2_;have HB := n3_;clear n0_ n1_ n2_ n3_;(try clear hb);(try clear hb2);(try clear hk);(try clear hi);(try clear ho0)) | ((with_reducible refine gate_callee (f := 9) rfl ?_);refine goesL_ (some 48) rfl rfl Try.func9 (by kernel_rfl) rfl #[.slice A0 l0.length c0,.string (⟨#[97]⟩ : ByteArray)] rfl Y8 ?_;(with_reducible refine (override_Remove.calls k _ _ l0 (⟨#[97]⟩ : ByteArray) t336 t337 _ ?side1 ?side2 A17.out).mono ?_);(case side1 => exact Y11 (Kd.C_below HR0.out HB.out));(case side2 => exact HC0.out);rintro e w39 ⟨v338,rfl,ho0,hb⟩;refine ⟨_,rfl,?_⟩;have n0_ := Yd (Kd.R_below (Y5 HO329.out) hb);have n1_ := Yd (Kd.R_elder' (Y5 HO334.out) (Kd.R_base ho0) hb);have n2_ := Yd (Kd.R_lower (Kd.R_new' ho0 (Kd.R_lt (Y5 HO334.out))) (below_size (by first | exact Y4 HB.out GE325.out | exact Y3 HB.out)));have n3_ := Yd (blk_below (g := gb325) (o := .cells #[.int .i64 3,.int .i64 7] 24 (0,0)) (Y6 BK325.out) hb);have n4_ := Yd (below_step (by first | exact Y4 HB.out GE325.out | exact Y3 HB.out) hb);clear HO329;clear HO334;clear BK325;clear HB;have HO329 := n0_;have HO334 := n1_;have HO339 := n2_;have BK325 := n3_;have HB := n4_;clear n0_ n1_ n2_ n3_ n4_;(try clear hb);(try clear hb2);(try clear hk);(try clear hi);(try clear ho0)))
              have n0_ := Yd (Kd.R_drew HO329.out)
              have n1_ := Yd (Kd.R_drew HO334.out)
              have n2_ := Yd (Kd.R_drew HO339.out)
              have n3_ := Yd (blk_drew BK325.out)
              have n4_ := Yd (below_drew1 HB.out)
              clear HO329
              clear HO334
              clear HO339
              clear BK325
              clear HB
              have HO329 := n0_
              have HO334 := n1_
              have HO339 := n2_
              have BK325 := n3_
              have HB := n4_
              clear n0_ n1_ n2_ n3_ n4_
              obtain ⟨Ao41,co41,eo41⟩ := Kd.R_slice HO329.out
              (first | subst eo41 | (injection eo41 with f1_ f2_ f3_;have f4_ := f1_.symm;have f5_ := f3_.symm;clear f1_ f2_ f3_;subst f4_;subst f5_))
              obtain ⟨Ao42,co42,eo42⟩ := Kd.R_slice HO334.out
              (first | subst eo42 | (injection eo42 with f1_ f2_ f3_;have f4_ := f1_.symm;have f5_ := f3_.symm;clear f1_ f2_ f3_;subst f4_;subst f5_))
              obtain ⟨Ao43,co43,eo43⟩ := Kd.R_slice HO339.out
              (first | subst eo43 | (injection eo43 with f1_ f2_ f3_;have f4_ := f1_.symm;have f5_ := f3_.symm;clear f1_ f2_ f3_;subst f4_;subst f5_))
              refine start_ (n := 59) (S := fun w' => w'.cell? ⟨gb325,0,none⟩ = some (.int .i64 3) ∧ w'.cell? ⟨gb325,1,none⟩ = some (.int .i64 7)) (ds := []) #[YF,YF,YF,YF,YF,YF,YF,YF,YF,YF,YF,YF,YF,YF,YF,YF,YF,YF,YF,YF,YF,YF,YF,YF,YF,YF,YF,YF,YF,YF,YF,YF,YF,YF,YF,YF,YF,YF,YF,YF,YF,YF,YF,YF,YF,YF,YF,YF,YF,YF,YF,YF,YF,YF,YF,YF,YF,YF,YF] (by kernel_rfl) rfl rfl ⟨(blk_cell BK325.out 0).trans rfl,(blk_cell BK325.out 1).trans rfl⟩ (fun hHeld => ?_);refine with_tabW plenumlaw34_OverrideChecks.tab15 plenumlaw34_OverrideChecks.bits15 (fun HT_ HW_ => ?_)
              generalize w39.drew = w40 at HO329 HO334 HO339 BK325 HB hHeld ⊢
              refine pure_ (i := 0) (N := some 51) (v := ?_) (a' := ?_) #[YT,YF,YF,YF,YF,YF,YF,YF,YF,YF,YF,YF,YF,YF,YF,YF,YF,YF,YF,YF,YF,YF,YF,YF,YF,YF,YF,YF,YF,YF,YF,YF,YF,YF,YF,YF,YF,YF,YF,YF,YF,YF,YF,YF,YF,YF,YF,YF,YF,YF,YF,YF,YF,YF,YF,YF,YF,YF,YF] rfl rfl (any_of HT_.out (by kernel_rfl)) (fun _ _ _ h => h) (Or.inl ⟨by rfl,?_⟩) ?_ ?_
              rotate_left
              ·intro w'
               go_simp
               with_reducible rfl
              rotate_left
              ·simp only [Act.put,Ya,Yb,Yc,i64_w,i32_w]
               rfl
              refine pure_ (i := 1) (N := some 52) (v := ?_) (a' := ?_) #[YT,YT,YF,YF,YF,YF,YF,YF,YF,YF,YF,YF,YF,YF,YF,YF,YF,YF,YF,YF,YF,YF,YF,YF,YF,YF,YF,YF,YF,YF,YF,YF,YF,YF,YF,YF,YF,YF,YF,YF,YF,YF,YF,YF,YF,YF,YF,YF,YF,YF,YF,YF,YF,YF,YF,YF,YF,YF,YF] rfl rfl (any_of HT_.out (by kernel_rfl)) (fun _ _ _ h => h) (Or.inl ⟨by rfl,?_⟩) ?_ ?_
              rotate_left
              ·intro w'
               go_simp
               with_reducible rfl
              rotate_left
              ·simp only [Act.put,Ya,Yb,Yc,i64_w,i32_w]
               rfl
              refine pure_ (i := 2) (N := some 53) (v := ?_) (a' := ?_) #[YT,YT,YT,YF,YF,YF,YF,YF,YF,YF,YF,YF,YF,YF,YF,YF,YF,YF,YF,YF,YF,YF,YF,YF,YF,YF,YF,YF,YF,YF,YF,YF,YF,YF,YF,YF,YF,YF,YF,YF,YF,YF,YF,YF,YF,YF,YF,YF,YF,YF,YF,YF,YF,YF,YF,YF,YF,YF,YF] rfl rfl (any_of HT_.out (by kernel_rfl)) (fun _ _ _ h => h) (Or.inl ⟨by rfl,?_⟩) ?_ ?_
              rotate_left
              ·intro w'
               go_simp
               with_reducible rfl
              rotate_left
              ·simp only [Act.put,Ya,Yb,Yc,i64_w,i32_w]
               rfl
              refine pure_ (i := 3) (N := some 54) (v := ?_) (a' := ?_) #[YT,YT,YT,YT,YF,YF,YF,YF,YF,YF,YF,YF,YF,YF,YF,YF,YF,YF,YF,YF,YF,YF,YF,YF,YF,YF,YF,YF,YF,YF,YF,YF,YF,YF,YF,YF,YF,YF,YF,YF,YF,YF,YF,YF,YF,YF,YF,YF,YF,YF,YF,YF,YF,YF,YF,YF,YF,YF,YF] rfl rfl (any_of HT_.out (by kernel_rfl)) (fun _ _ _ h => h) (Or.inl ⟨by rfl,?_⟩) ?_ ?_
              rotate_left
              ·intro w'
               go_simp
               with_reducible rfl
              rotate_left
              ·simp only [Act.put,Ya,Yb,Yc,i64_w,i32_w]
               rfl
              refine pure_ (i := 4) (N := some 55) (v := ?_) (a' := ?_) #[YT,YT,YT,YT,YT,YF,YF,YF,YF,YF,YF,YF,YF,YF,YF,YF,YF,YF,YF,YF,YF,YF,YF,YF,YF,YF,YF,YF,YF,YF,YF,YF,YF,YF,YF,YF,YF,YF,YF,YF,YF,YF,YF,YF,YF,YF,YF,YF,YF,YF,YF,YF,YF,YF,YF,YF,YF,YF,YF] rfl rfl (any_of HT_.out (by kernel_rfl)) (fun _ _ _ h => h) (Or.inl ⟨by rfl,?_⟩) ?_ ?_
              rotate_left
              ·intro w'
               go_simp
               with_reducible rfl
              rotate_left
              ·simp only [Act.put,Ya,Yb,Yc,i64_w,i32_w]
               rfl
              refine pure_ (i := 5) (N := some 56) (v := ?_) (a' := ?_) #[YT,YT,YT,YT,YT,YT,YF,YF,YF,YF,YF,YF,YF,YF,YF,YF,YF,YF,YF,YF,YF,YF,YF,YF,YF,YF,YF,YF,YF,YF,YF,YF,YF,YF,YF,YF,YF,YF,YF,YF,YF,YF,YF,YF,YF,YF,YF,YF,YF,YF,YF,YF,YF,YF,YF,YF,YF,YF,YF] rfl rfl (any_of HT_.out (by kernel_rfl)) (fun _ _ _ h => h) (Or.inl ⟨by rfl,?_⟩) ?_ ?_
              rotate_left
              ·intro w'
               go_simp
               with_reducible rfl
              rotate_left
              ·simp only [Act.put,Ya,Yb,Yc,i64_w,i32_w]
               rfl
              refine pure_ (i := 6) (N := some 57) (v := ?_) (a' := ?_) #[YT,YT,YT,YT,YT,YT,YT,YF,YF,YF,YF,YF,YF,YF,YF,YF,YF,YF,YF,YF,YF,YF,YF,YF,YF,YF,YF,YF,YF,YF,YF,YF,YF,YF,YF,YF,YF,YF,YF,YF,YF,YF,YF,YF,YF,YF,YF,YF,YF,YF,YF,YF,YF,YF,YF,YF,YF,YF,YF] rfl rfl (any_of HT_.out (by kernel_rfl)) (fun _ _ _ h => h) (Or.inl ⟨by rfl,?_⟩) ?_ ?_
              rotate_left
              ·intro w'
               go_simp
               with_reducible rfl
              rotate_left
              ·simp only [Act.put,Ya,Yb,Yc,i64_w,i32_w]
               rfl
              refine pure_ (i := 7) (N := some 58) (v := ?_) (a' := ?_) #[YT,YT,YT,YT,YT,YT,YT,YT,YF,YF,YF,YF,YF,YF,YF,YF,YF,YF,YF,YF,YF,YF,YF,YF,YF,YF,YF,YF,YF,YF,YF,YF,YF,YF,YF,YF,YF,YF,YF,YF,YF,YF,YF,YF,YF,YF,YF,YF,YF,YF,YF,YF,YF,YF,YF,YF,YF,YF,YF] rfl rfl (any_of HT_.out (by kernel_rfl)) (fun _ _ _ h => h) (Or.inl ⟨by rfl,?_⟩) ?_ ?_
              rotate_left
              ·intro w'
               go_simp
               with_reducible rfl
              rotate_left
              ·simp only [Act.put,Ya,Yb,Yc,i64_w,i32_w]
               rfl
              refine pure_ (i := 8) (N := some 59) (v := ?_) (a' := ?_) #[YT,YT,YT,YT,YT,YT,YT,YT,YT,YF,YF,YF,YF,YF,YF,YF,YF,YF,YF,YF,YF,YF,YF,YF,YF,YF,YF,YF,YF,YF,YF,YF,YF,YF,YF,YF,YF,YF,YF,YF,YF,YF,YF,YF,YF,YF,YF,YF,YF,YF,YF,YF,YF,YF,YF,YF,YF,YF,YF] rfl rfl (any_of HT_.out (by kernel_rfl)) (fun _ _ _ h => h) (Or.inl ⟨by rfl,?_⟩) ?_ ?_
              rotate_left
              ·intro w'
               go_simp
               with_reducible rfl
              rotate_left
              ·simp only [Act.put,Ya,Yb,Yc,i64_w,i32_w]
               rfl
              refine pure_ (i := 9) (N := some 60) (v := ?_) (a' := ?_) #[YT,YT,YT,YT,YT,YT,YT,YT,YT,YT,YF,YF,YF,YF,YF,YF,YF,YF,YF,YF,YF,YF,YF,YF,YF,YF,YF,YF,YF,YF,YF,YF,YF,YF,YF,YF,YF,YF,YF,YF,YF,YF,YF,YF,YF,YF,YF,YF,YF,YF,YF,YF,YF,YF,YF,YF,YF,YF,YF] rfl rfl (any_of HT_.out (by kernel_rfl)) (fun _ _ _ h => h) (Or.inl ⟨by rfl,?_⟩) ?_ ?_
              rotate_left
              ·intro w'
               go_simp
               with_reducible rfl
              rotate_left
              ·simp only [Act.put,Ya,Yb,Yc,i64_w,i32_w]
               rfl
              refine pure_ (i := 10) (N := some 61) (v := ?_) (a' := ?_) #[YT,YT,YT,YT,YT,YT,YT,YT,YT,YT,YT,YF,YF,YF,YF,YF,YF,YF,YF,YF,YF,YF,YF,YF,YF,YF,YF,YF,YF,YF,YF,YF,YF,YF,YF,YF,YF,YF,YF,YF,YF,YF,YF,YF,YF,YF,YF,YF,YF,YF,YF,YF,YF,YF,YF,YF,YF,YF,YF] rfl rfl (any_of HT_.out (by kernel_rfl)) (fun _ _ _ h => h) (Or.inl ⟨by rfl,?_⟩) ?_ ?_
              rotate_left
              ·intro w'
               go_simp
               with_reducible rfl
              rotate_left
              ·simp only [Act.put,Ya,Yb,Yc,i64_w,i32_w]
               rfl
              refine pure_ (i := 11) (N := some 62) (v := ?_) (a' := ?_) #[YT,YT,YT,YT,YT,YT,YT,YT,YT,YT,YT,YT,YF,YF,YF,YF,YF,YF,YF,YF,YF,YF,YF,YF,YF,YF,YF,YF,YF,YF,YF,YF,YF,YF,YF,YF,YF,YF,YF,YF,YF,YF,YF,YF,YF,YF,YF,YF,YF,YF,YF,YF,YF,YF,YF,YF,YF,YF,YF] rfl rfl (any_of HT_.out (by kernel_rfl)) (fun _ _ _ h => h) (Or.inl ⟨by rfl,?_⟩) ?_ ?_
              rotate_left
              ·intro w'
               go_simp
               with_reducible rfl
              rotate_left
              ·simp only [Act.put,Ya,Yb,Yc,i64_w,i32_w]
               rfl
              refine pure_ (i := 12) (N := some 63) (v := ?_) (a' := ?_) #[YT,YT,YT,YT,YT,YT,YT,YT,YT,YT,YT,YT,YT,YF,YF,YF,YF,YF,YF,YF,YF,YF,YF,YF,YF,YF,YF,YF,YF,YF,YF,YF,YF,YF,YF,YF,YF,YF,YF,YF,YF,YF,YF,YF,YF,YF,YF,YF,YF,YF,YF,YF,YF,YF,YF,YF,YF,YF,YF] rfl rfl (any_of HT_.out (by kernel_rfl)) (fun _ _ _ h => h) (Or.inl ⟨by rfl,?_⟩) ?_ ?_
              rotate_left
              ·intro w'
               go_simp
               with_reducible rfl
              rotate_left
              ·simp only [Act.put,Ya,Yb,Yc,i64_w,i32_w]
               rfl
              refine pure_ (i := 13) (N := some 64) (v := ?_) (a' := ?_) #[YT,YT,YT,YT,YT,YT,YT,YT,YT,YT,YT,YT,YT,YT,YF,YF,YF,YF,YF,YF,YF,YF,YF,YF,YF,YF,YF,YF,YF,YF,YF,YF,YF,YF,YF,YF,YF,YF,YF,YF,YF,YF,YF,YF,YF,YF,YF,YF,YF,YF,YF,YF,YF,YF,YF,YF,YF,YF,YF] rfl rfl (any_of HT_.out (by kernel_rfl)) (fun _ _ _ h => h) (Or.inl ⟨by rfl,?_⟩) ?_ ?_
              rotate_left
              ·intro w'
               go_simp
               with_reducible rfl
              rotate_left
              ·simp only [Act.put,Ya,Yb,Yc,i64_w,i32_w]
               rfl
              refine pure_ (i := 14) (N := some 65) (v := ?_) (a' := ?_) #[YT,YT,YT,YT,YT,YT,YT,YT,YT,YT,YT,YT,YT,YT,YT,YF,YF,YF,YF,YF,YF,YF,YF,YF,YF,YF,YF,YF,YF,YF,YF,YF,YF,YF,YF,YF,YF,YF,YF,YF,YF,YF,YF,YF,YF,YF,YF,YF,YF,YF,YF,YF,YF,YF,YF,YF,YF,YF,YF] rfl rfl (any_of HT_.out (by kernel_rfl)) (fun _ _ _ h => h) (Or.inl ⟨by rfl,?_⟩) ?_ ?_
              rotate_left
              ·intro w'
               go_simp
               with_reducible rfl
              rotate_left
              ·simp only [Act.put,Ya,Yb,Yc,i64_w,i32_w]
               rfl
              refine pure_ (i := 15) (N := some 66) (v := ?_) (a' := ?_) #[YT,YT,YT,YT,YT,YT,YT,YT,YT,YT,YT,YT,YT,YT,YT,YT,YF,YF,YF,YF,YF,YF,YF,YF,YF,YF,YF,YF,YF,YF,YF,YF,YF,YF,YF,YF,YF,YF,YF,YF,YF,YF,YF,YF,YF,YF,YF,YF,YF,YF,YF,YF,YF,YF,YF,YF,YF,YF,YF] rfl rfl (any_of HT_.out (by kernel_rfl)) (fun _ _ _ h => h) (Or.inl ⟨by rfl,?_⟩) ?_ ?_
              rotate_left
              ·intro w'
               go_simp
               with_reducible rfl
              rotate_left
              ·simp only [Act.put,Ya,Yb,Yc,i64_w,i32_w]
               rfl
              refine pure_ (i := 16) (N := some 67) (v := ?_) (a' := ?_) #[YT,YT,YT,YT,YT,YT,YT,YT,YT,YT,YT,YT,YT,YT,YT,YT,YT,YF,YF,YF,YF,YF,YF,YF,YF,YF,YF,YF,YF,YF,YF,YF,YF,YF,YF,YF,YF,YF,YF,YF,YF,YF,YF,YF,YF,YF,YF,YF,YF,YF,YF,YF,YF,YF,YF,YF,YF,YF,YF] rfl rfl (any_of HT_.out (by kernel_rfl)) (fun _ _ _ h => h) (Or.inl ⟨by rfl,?_⟩) ?_ ?_
              rotate_left
              ·intro w'
               go_simp
               with_reducible rfl
              rotate_left
              ·simp only [Act.put,Ya,Yb,Yc,i64_w,i32_w]
               rfl
              refine pure_ (i := 17) (N := some 68) (v := ?_) (a' := ?_) #[YT,YT,YT,YT,YT,YT,YT,YT,YT,YT,YT,YT,YT,YT,YT,YT,YT,YT,YF,YF,YF,YF,YF,YF,YF,YF,YF,YF,YF,YF,YF,YF,YF,YF,YF,YF,YF,YF,YF,YF,YF,YF,YF,YF,YF,YF,YF,YF,YF,YF,YF,YF,YF,YF,YF,YF,YF,YF,YF] rfl rfl (any_of HT_.out (by kernel_rfl)) (fun _ _ _ h => h) (Or.inl ⟨by rfl,?_⟩) ?_ ?_
              rotate_left
              ·intro w'
               go_simp
               with_reducible rfl
              rotate_left
              ·simp only [Act.put,Ya,Yb,Yc,i64_w,i32_w]
               rfl
              refine pure_ (i := 18) (N := some 69) (v := ?_) (a' := ?_) #[YT,YT,YT,YT,YT,YT,YT,YT,YT,YT,YT,YT,YT,YT,YT,YT,YT,YT,YT,YF,YF,YF,YF,YF,YF,YF,YF,YF,YF,YF,YF,YF,YF,YF,YF,YF,YF,YF,YF,YF,YF,YF,YF,YF,YF,YF,YF,YF,YF,YF,YF,YF,YF,YF,YF,YF,YF,YF,YF] rfl rfl (any_of HT_.out (by kernel_rfl)) (fun _ _ _ h => h) (Or.inl ⟨by rfl,?_⟩) ?_ ?_
              rotate_left
              ·intro w'
               go_simp
               with_reducible rfl
              rotate_left
              ·simp only [Act.put,Ya,Yb,Yc,i64_w,i32_w]
               rfl
              refine pure_ (i := 19) (N := some 70) (v := ?_) (a' := ?_) #[YT,YT,YT,YT,YT,YT,YT,YT,YT,YT,YT,YT,YT,YT,YT,YT,YT,YT,YT,YT,YF,YF,YF,YF,YF,YF,YF,YF,YF,YF,YF,YF,YF,YF,YF,YF,YF,YF,YF,YF,YF,YF,YF,YF,YF,YF,YF,YF,YF,YF,YF,YF,YF,YF,YF,YF,YF,YF,YF] rfl rfl (any_of HT_.out (by kernel_rfl)) (fun _ _ _ h => h) (Or.inl ⟨by rfl,?_⟩) ?_ ?_
              rotate_left
              ·intro w'
               go_simp
               with_reducible rfl
              rotate_left
              ·simp only [Act.put,Ya,Yb,Yc,i64_w,i32_w]
               rfl
              refine pure_ (i := 20) (N := some 71) (v := ?_) (a' := ?_) #[YT,YT,YT,YT,YT,YT,YT,YT,YT,YT,YT,YT,YT,YT,YT,YT,YT,YT,YT,YT,YT,YF,YF,YF,YF,YF,YF,YF,YF,YF,YF,YF,YF,YF,YF,YF,YF,YF,YF,YF,YF,YF,YF,YF,YF,YF,YF,YF,YF,YF,YF,YF,YF,YF,YF,YF,YF,YF,YF] rfl rfl (any_of HT_.out (by kernel_rfl)) (fun _ _ _ h => h) (Or.inl ⟨by rfl,?_⟩) ?_ ?_
              rotate_left
              ·intro w'
               go_simp
               with_reducible rfl
              rotate_left
              ·simp only [Act.put,Ya,Yb,Yc,i64_w,i32_w]
               rfl
              refine pure_ (i := 21) (N := some 72) (v := ?_) (a' := ?_) #[YT,YT,YT,YT,YT,YT,YT,YT,YT,YT,YT,YT,YT,YT,YT,YT,YT,YT,YT,YT,YT,YT,YF,YF,YF,YF,YF,YF,YF,YF,YF,YF,YF,YF,YF,YF,YF,YF,YF,YF,YF,YF,YF,YF,YF,YF,YF,YF,YF,YF,YF,YF,YF,YF,YF,YF,YF,YF,YF] rfl rfl (any_of HT_.out (by kernel_rfl)) (fun _ _ _ h => h) (Or.inl ⟨by rfl,?_⟩) ?_ ?_
              rotate_left
              ·intro w'
               go_simp
               with_reducible rfl
              rotate_left
              ·simp only [Act.put,Ya,Yb,Yc,i64_w,i32_w]
               rfl
              refine pure_ (i := 22) (N := some 73) (v := ?_) (a' := ?_) #[YT,YT,YT,YT,YT,YT,YT,YT,YT,YT,YT,YT,YT,YT,YT,YT,YT,YT,YT,YT,YT,YT,YT,YF,YF,YF,YF,YF,YF,YF,YF,YF,YF,YF,YF,YF,YF,YF,YF,YF,YF,YF,YF,YF,YF,YF,YF,YF,YF,YF,YF,YF,YF,YF,YF,YF,YF,YF,YF] rfl rfl (any_of HT_.out (by kernel_rfl)) (fun _ _ _ h => h) (Or.inl ⟨by rfl,?_⟩) ?_ ?_
              rotate_left
              ·intro w'
               go_simp
               with_reducible rfl
              rotate_left
              ·simp only [Act.put,Ya,Yb,Yc,i64_w,i32_w]
               rfl
              refine pure_ (i := 23) (N := some 74) (v := ?_) (a' := ?_) #[YT,YT,YT,YT,YT,YT,YT,YT,YT,YT,YT,YT,YT,YT,YT,YT,YT,YT,YT,YT,YT,YT,YT,YT,YF,YF,YF,YF,YF,YF,YF,YF,YF,YF,YF,YF,YF,YF,YF,YF,YF,YF,YF,YF,YF,YF,YF,YF,YF,YF,YF,YF,YF,YF,YF,YF,YF,YF,YF] rfl rfl (any_of HT_.out (by kernel_rfl)) (fun _ _ _ h => h) (Or.inl ⟨by rfl,?_⟩) ?_ ?_
              rotate_left
              ·intro w'
               go_simp
               with_reducible rfl
              rotate_left
              ·simp only [Act.put,Ya,Yb,Yc,i64_w,i32_w]
               rfl
              refine pure_ (i := 24) (N := some 75) (v := ?_) (a' := ?_) #[YT,YT,YT,YT,YT,YT,YT,YT,YT,YT,YT,YT,YT,YT,YT,YT,YT,YT,YT,YT,YT,YT,YT,YT,YT,YF,YF,YF,YF,YF,YF,YF,YF,YF,YF,YF,YF,YF,YF,YF,YF,YF,YF,YF,YF,YF,YF,YF,YF,YF,YF,YF,YF,YF,YF,YF,YF,YF,YF] rfl rfl (any_of HT_.out (by kernel_rfl)) (fun _ _ _ h => h) (Or.inl ⟨by rfl,?_⟩) ?_ ?_
              rotate_left
              ·intro w'
               go_simp
               with_reducible rfl
              rotate_left
              ·simp only [Act.put,Ya,Yb,Yc,i64_w,i32_w]
               rfl
              refine pure_ (i := 25) (N := some 76) (v := ?_) (a' := ?_) #[YT,YT,YT,YT,YT,YT,YT,YT,YT,YT,YT,YT,YT,YT,YT,YT,YT,YT,YT,YT,YT,YT,YT,YT,YT,YT,YF,YF,YF,YF,YF,YF,YF,YF,YF,YF,YF,YF,YF,YF,YF,YF,YF,YF,YF,YF,YF,YF,YF,YF,YF,YF,YF,YF,YF,YF,YF,YF,YF] rfl rfl (any_of HT_.out (by kernel_rfl)) (fun _ _ _ h => h) (Or.inl ⟨by rfl,?_⟩) ?_ ?_
              rotate_left
              ·intro w'
               go_simp
               with_reducible rfl
              rotate_left
              ·simp only [Act.put,Ya,Yb,Yc,i64_w,i32_w]
               rfl
              refine pure_ (i := 26) (N := some 77) (v := ?_) (a' := ?_) #[YT,YT,YT,YT,YT,YT,YT,YT,YT,YT,YT,YT,YT,YT,YT,YT,YT,YT,YT,YT,YT,YT,YT,YT,YT,YT,YT,YF,YF,YF,YF,YF,YF,YF,YF,YF,YF,YF,YF,YF,YF,YF,YF,YF,YF,YF,YF,YF,YF,YF,YF,YF,YF,YF,YF,YF,YF,YF,YF] rfl rfl (any_of HT_.out (by kernel_rfl)) (fun _ _ _ h => h) (Or.inl ⟨by rfl,?_⟩) ?_ ?_
              rotate_left
              ·intro w'
               go_simp
               with_reducible rfl
              rotate_left
              ·simp only [Act.put,Ya,Yb,Yc,i64_w,i32_w]
               rfl
              refine pure_ (i := 27) (N := some 78) (v := ?_) (a' := ?_) #[YT,YT,YT,YT,YT,YT,YT,YT,YT,YT,YT,YT,YT,YT,YT,YT,YT,YT,YT,YT,YT,YT,YT,YT,YT,YT,YT,YT,YF,YF,YF,YF,YF,YF,YF,YF,YF,YF,YF,YF,YF,YF,YF,YF,YF,YF,YF,YF,YF,YF,YF,YF,YF,YF,YF,YF,YF,YF,YF] rfl rfl (any_of HT_.out (by kernel_rfl)) (fun _ _ _ h => h) (Or.inl ⟨by rfl,?_⟩) ?_ ?_
              rotate_left
              ·intro w'
               go_simp
               with_reducible rfl
              rotate_left
              ·simp only [Act.put,Ya,Yb,Yc,i64_w,i32_w]
               rfl
              refine pure_ (i := 28) (N := some 79) (v := ?_) (a' := ?_) #[YT,YT,YT,YT,YT,YT,YT,YT,YT,YT,YT,YT,YT,YT,YT,YT,YT,YT,YT,YT,YT,YT,YT,YT,YT,YT,YT,YT,YT,YF,YF,YF,YF,YF,YF,YF,YF,YF,YF,YF,YF,YF,YF,YF,YF,YF,YF,YF,YF,YF,YF,YF,YF,YF,YF,YF,YF,YF,YF] rfl rfl (any_of HT_.out (by kernel_rfl)) (fun _ _ _ h => h) (Or.inl ⟨by rfl,?_⟩) ?_ ?_
              rotate_left
              ·intro w'
               go_simp
               with_reducible rfl
              rotate_left
              ·simp only [Act.put,Ya,Yb,Yc,i64_w,i32_w]
               rfl
              refine pure_ (i := 29) (N := some 80) (v := ?_) (a' := ?_) #[YT,YT,YT,YT,YT,YT,YT,YT,YT,YT,YT,YT,YT,YT,YT,YT,YT,YT,YT,YT,YT,YT,YT,YT,YT,YT,YT,YT,YT,YT,YF,YF,YF,YF,YF,YF,YF,YF,YF,YF,YF,YF,YF,YF,YF,YF,YF,YF,YF,YF,YF,YF,YF,YF,YF,YF,YF,YF,YF] rfl rfl (any_of HT_.out (by kernel_rfl)) (fun _ _ _ h => h) (Or.inl ⟨by rfl,?_⟩) ?_ ?_
              rotate_left
              ·intro w'
               go_simp
               with_reducible rfl
              rotate_left
              ·simp only [Act.put,Ya,Yb,Yc,i64_w,i32_w]
               rfl
              refine pure_ (i := 30) (N := some 81) (v := ?_) (a' := ?_) #[YT,YT,YT,YT,YT,YT,YT,YT,YT,YT,YT,YT,YT,YT,YT,YT,YT,YT,YT,YT,YT,YT,YT,YT,YT,YT,YT,YT,YT,YT,YT,YF,YF,YF,YF,YF,YF,YF,YF,YF,YF,YF,YF,YF,YF,YF,YF,YF,YF,YF,YF,YF,YF,YF,YF,YF,YF,YF,YF] rfl rfl (any_of HT_.out (by kernel_rfl)) (fun _ _ _ h => h) (Or.inl ⟨by rfl,?_⟩) ?_ ?_
              rotate_left
              ·intro w'
               go_simp
               with_reducible rfl
              rotate_left
              ·simp only [Act.put,Ya,Yb,Yc,i64_w,i32_w]
               rfl
              refine pure_ (i := 31) (N := some 82) (v := ?_) (a' := ?_) #[YT,YT,YT,YT,YT,YT,YT,YT,YT,YT,YT,YT,YT,YT,YT,YT,YT,YT,YT,YT,YT,YT,YT,YT,YT,YT,YT,YT,YT,YT,YT,YT,YF,YF,YF,YF,YF,YF,YF,YF,YF,YF,YF,YF,YF,YF,YF,YF,YF,YF,YF,YF,YF,YF,YF,YF,YF,YF,YF] rfl rfl (any_of HT_.out (by kernel_rfl)) (fun _ _ _ h => h) (Or.inl ⟨by rfl,?_⟩) ?_ ?_
              rotate_left
              ·intro w'
               go_simp
               with_reducible rfl
              rotate_left
              ·simp only [Act.put,Ya,Yb,Yc,i64_w,i32_w]
               rfl
              refine pure_ (i := 32) (N := some 83) (v := ?_) (a' := ?_) #[YT,YT,YT,YT,YT,YT,YT,YT,YT,YT,YT,YT,YT,YT,YT,YT,YT,YT,YT,YT,YT,YT,YT,YT,YT,YT,YT,YT,YT,YT,YT,YT,YT,YF,YF,YF,YF,YF,YF,YF,YF,YF,YF,YF,YF,YF,YF,YF,YF,YF,YF,YF,YF,YF,YF,YF,YF,YF,YF] rfl rfl (any_of HT_.out (by kernel_rfl)) (fun _ _ _ h => h) (Or.inl ⟨by rfl,?_⟩) ?_ ?_
              rotate_left
              ·intro w'
               go_simp
               with_reducible rfl
              rotate_left
              ·simp only [Act.put,Ya,Yb,Yc,i64_w,i32_w]
               rfl
              refine pure_ (i := 33) (N := some 84) (v := ?_) (a' := ?_) #[YT,YT,YT,YT,YT,YT,YT,YT,YT,YT,YT,YT,YT,YT,YT,YT,YT,YT,YT,YT,YT,YT,YT,YT,YT,YT,YT,YT,YT,YT,YT,YT,YT,YT,YF,YF,YF,YF,YF,YF,YF,YF,YF,YF,YF,YF,YF,YF,YF,YF,YF,YF,YF,YF,YF,YF,YF,YF,YF] rfl rfl (any_of HT_.out (by kernel_rfl)) (fun _ _ _ h => h) (Or.inl ⟨by rfl,?_⟩) ?_ ?_
              rotate_left
              ·intro w'
               go_simp
               with_reducible rfl
              rotate_left
              ·simp only [Act.put,Ya,Yb,Yc,i64_w,i32_w]
               rfl
              refine pure_ (i := 34) (N := some 85) (v := ?_) (a' := ?_) #[YT,YT,YT,YT,YT,YT,YT,YT,YT,YT,YT,YT,YT,YT,YT,YT,YT,YT,YT,YT,YT,YT,YT,YT,YT,YT,YT,YT,YT,YT,YT,YT,YT,YT,YT,YF,YF,YF,YF,YF,YF,YF,YF,YF,YF,YF,YF,YF,YF,YF,YF,YF,YF,YF,YF,YF,YF,YF,YF] rfl rfl (any_of HT_.out (by kernel_rfl)) (fun _ _ _ h => h) (Or.inl ⟨by rfl,?_⟩) ?_ ?_
              rotate_left
              ·intro w'
               go_simp
               with_reducible rfl
              rotate_left
              ·simp only [Act.put,Ya,Yb,Yc,i64_w,i32_w]
               rfl
              refine pure_ (i := 35) (N := some 86) (v := ?_) (a' := ?_) #[YT,YT,YT,YT,YT,YT,YT,YT,YT,YT,YT,YT,YT,YT,YT,YT,YT,YT,YT,YT,YT,YT,YT,YT,YT,YT,YT,YT,YT,YT,YT,YT,YT,YT,YT,YT,YF,YF,YF,YF,YF,YF,YF,YF,YF,YF,YF,YF,YF,YF,YF,YF,YF,YF,YF,YF,YF,YF,YF] rfl rfl (any_of HT_.out (by kernel_rfl)) (fun _ _ _ h => h) (Or.inl ⟨by rfl,?_⟩) ?_ ?_
              rotate_left
              ·intro w'
               go_simp
               with_reducible rfl
              rotate_left
              ·simp only [Act.put,Ya,Yb,Yc,i64_w,i32_w]
               rfl
              refine pure_ (i := 36) (N := some 87) (v := ?_) (a' := ?_) #[YT,YT,YT,YT,YT,YT,YT,YT,YT,YT,YT,YT,YT,YT,YT,YT,YT,YT,YT,YT,YT,YT,YT,YT,YT,YT,YT,YT,YT,YT,YT,YT,YT,YT,YT,YT,YT,YF,YF,YF,YF,YF,YF,YF,YF,YF,YF,YF,YF,YF,YF,YF,YF,YF,YF,YF,YF,YF,YF] rfl rfl (any_of HT_.out (by kernel_rfl)) (fun _ _ _ h => h) (Or.inl ⟨by rfl,?_⟩) ?_ ?_
              rotate_left
              ·intro w'
               go_simp
               with_reducible rfl
              rotate_left
              ·simp only [Act.put,Ya,Yb,Yc,i64_w,i32_w]
               rfl
              refine pure_ (i := 37) (N := some 88) (v := ?_) (a' := ?_) #[YT,YT,YT,YT,YT,YT,YT,YT,YT,YT,YT,YT,YT,YT,YT,YT,YT,YT,YT,YT,YT,YT,YT,YT,YT,YT,YT,YT,YT,YT,YT,YT,YT,YT,YT,YT,YT,YT,YF,YF,YF,YF,YF,YF,YF,YF,YF,YF,YF,YF,YF,YF,YF,YF,YF,YF,YF,YF,YF] rfl rfl (any_of HT_.out (by kernel_rfl)) (fun _ _ _ h => h) (Or.inl ⟨by rfl,?_⟩) ?_ ?_
              rotate_left
              ·intro w'
               go_simp
               with_reducible rfl
              rotate_left
              ·simp only [Act.put,Ya,Yb,Yc,i64_w,i32_w]
               rfl
              refine pure_ (i := 38) (N := some 89) (v := ?_) (a' := ?_) #[YT,YT,YT,YT,YT,YT,YT,YT,YT,YT,YT,YT,YT,YT,YT,YT,YT,YT,YT,YT,YT,YT,YT,YT,YT,YT,YT,YT,YT,YT,YT,YT,YT,YT,YT,YT,YT,YT,YT,YF,YF,YF,YF,YF,YF,YF,YF,YF,YF,YF,YF,YF,YF,YF,YF,YF,YF,YF,YF] rfl rfl (any_of HT_.out (by kernel_rfl)) (fun _ _ _ h => h) (Or.inl ⟨by rfl,?_⟩) ?_ ?_
              rotate_left
              ·intro w'
               go_simp
               with_reducible rfl
              rotate_left
              ·simp only [Act.put,Ya,Yb,Yc,i64_w,i32_w]
               rfl
              refine pure_ (i := 39) (N := some 90) (v := ?_) (a' := ?_) #[YT,YT,YT,YT,YT,YT,YT,YT,YT,YT,YT,YT,YT,YT,YT,YT,YT,YT,YT,YT,YT,YT,YT,YT,YT,YT,YT,YT,YT,YT,YT,YT,YT,YT,YT,YT,YT,YT,YT,YT,YF,YF,YF,YF,YF,YF,YF,YF,YF,YF,YF,YF,YF,YF,YF,YF,YF,YF,YF] rfl rfl (any_of HT_.out (by kernel_rfl)) (fun _ _ _ h => h) (Or.inl ⟨by rfl,?_⟩) ?_ ?_
              rotate_left
              ·intro w'
               go_simp
               with_reducible rfl
              rotate_left
              ·simp only [Act.put,Ya,Yb,Yc,i64_w,i32_w]
               rfl
              refine one_ (i := 40) (N := some 91) #[YT,YT,YT,YT,YT,YT,YT,YT,YT,YT,YT,YT,YT,YT,YT,YT,YT,YT,YT,YT,YT,YT,YT,YT,YT,YT,YT,YT,YT,YT,YT,YT,YT,YT,YT,YT,YT,YT,YT,YT,YT,YF,YF,YF,YF,YF,YF,YF,YF,YF,YF,YF,YF,YF,YF,YF,YF,YF,YF] rfl rfl (one_of HT_.out (by kernel_rfl)) (by decide) (fun K hK => ?_)
              refine goes_ Try.func17 (by kernel_rfl) rfl #[.slice A0 l0.length c0,.int .i64 a1] (by rfl) rfl rfl Y8 ?_
              with_reducible refine (override_At.calls k _ _ l0 a1 t340 _ ?side1 ?side2 A26.out).mono ?_
              (case side1 => exact Y11 (Kd.C_below HR0.out HB.out))
              (case side2 => exact HC0.out)
              rintro e w44 ⟨rfl,hb⟩
              refine ⟨_,rfl,?_⟩
              have n0_ := Yd (Kd.R_below (Y5 HO329.out) hb)
              have n1_ := Yd (Kd.R_below (Y5 HO334.out) hb)
              have n2_ := Yd (Kd.R_below (Y5 HO339.out) hb)
              have n3_ := Yd (blk_below (g := gb325) (o := .cells #[.int .i64 3,.int .i64 7] 24 (0,0)) (Y6 BK325.out) hb)
              have n4_ := Yd (below_step (by first | exact Y4 HB.out GE325.out | exact Y3 HB.out) hb)
              clear HO329
              clear HO334
              clear HO339
              clear BK325
              clear HB
              have HO329 := n0_
              have HO334 := n1_
              have HO339 := n2_
              have BK325 := n3_
              have HB := n4_
              clear n0_ n1_ n2_ n3_ n4_
              (try clear hb)
              (try clear hb2)
              (try clear hk)
              (try clear hi)
              refine hK.out _ _ ⟨(blk_cell BK325.out 0).trans rfl,(blk_cell BK325.out 1).trans rfl⟩ (fun hHeld => ?_)
              clear hK K
              refine norm_ (a' := ?_) ?_ ?_
              rotate_left
              ·show Act.put _ (some 91) _ = _
               simp only [Act.put,Ya,Yb,Yc,i64_w,i32_w]
               rfl
              refine pure_ (i := 41) (N := some 92) (v := ?_) (a' := ?_) #[YT,YT,YT,YT,YT,YT,YT,YT,YT,YT,YT,YT,YT,YT,YT,YT,YT,YT,YT,YT,YT,YT,YT,YT,YT,YT,YT,YT,YT,YT,YT,YT,YT,YT,YT,YT,YT,YT,YT,YT,YT,YT,YF,YF,YF,YF,YF,YF,YF,YF,YF,YF,YF,YF,YF,YF,YF,YF,YF] rfl rfl (any_of HT_.out (by kernel_rfl)) (fun _ _ _ h => h) (Or.inl ⟨by rfl,?_⟩) ?_ ?_
              rotate_left
              ·intro w'
               go_simp
               with_reducible rfl
              rotate_left
              ·simp only [Act.put,Ya,Yb,Yc,i64_w,i32_w]
               rfl
              refine pure_ (i := 42) (N := some 93) (v := ?_) (a' := ?_) #[YT,YT,YT,YT,YT,YT,YT,YT,YT,YT,YT,YT,YT,YT,YT,YT,YT,YT,YT,YT,YT,YT,YT,YT,YT,YT,YT,YT,YT,YT,YT,YT,YT,YT,YT,YT,YT,YT,YT,YT,YT,YT,YT,YF,YF,YF,YF,YF,YF,YF,YF,YF,YF,YF,YF,YF,YF,YF,YF] rfl rfl (any_of HT_.out (by kernel_rfl)) (fun _ _ _ h => h) (Or.inl ⟨by rfl,?_⟩) ?_ ?_
              rotate_left
              ·intro w'
               go_simp
               with_reducible rfl
              rotate_left
              ·simp only [Act.put,Ya,Yb,Yc,i64_w,i32_w]
               rfl
              refine pure_ (i := 43) (N := some 94) (v := ?_) (a' := ?_) #[YT,YT,YT,YT,YT,YT,YT,YT,YT,YT,YT,YT,YT,YT,YT,YT,YT,YT,YT,YT,YT,YT,YT,YT,YT,YT,YT,YT,YT,YT,YT,YT,YT,YT,YT,YT,YT,YT,YT,YT,YT,YT,YT,YT,YF,YF,YF,YF,YF,YF,YF,YF,YF,YF,YF,YF,YF,YF,YF] rfl rfl (any_of HT_.out (by kernel_rfl)) (fun _ _ _ h => h) (Or.inl ⟨by rfl,?_⟩) ?_ ?_
              rotate_left
              ·intro w'
               go_simp
               with_reducible rfl
              rotate_left
              ·simp only [Act.put,Ya,Yb,Yc,i64_w,i32_w]
               rfl
              refine pure_ (i := 44) (N := some 95) (v := ?_) (a' := ?_) #[YT,YT,YT,YT,YT,YT,YT,YT,YT,YT,YT,YT,YT,YT,YT,YT,YT,YT,YT,YT,YT,YT,YT,YT,YT,YT,YT,YT,YT,YT,YT,YT,YT,YT,YT,YT,YT,YT,YT,YT,YT,YT,YT,YT,YT,YF,YF,YF,YF,YF,YF,YF,YF,YF,YF,YF,YF,YF,YF] rfl rfl (any_of HT_.out (by kernel_rfl)) (fun _ _ _ h => h) (Or.inl ⟨by rfl,?_⟩) ?_ ?_
              rotate_left
              ·intro w'
               go_simp
               with_reducible rfl
              rotate_left
              ·simp only [Act.put,Ya,Yb,Yc,i64_w,i32_w]
               rfl
              refine pure_ (i := 45) (N := some 96) (v := ?_) (a' := ?_) #[YT,YT,YT,YT,YT,YT,YT,YT,YT,YT,YT,YT,YT,YT,YT,YT,YT,YT,YT,YT,YT,YT,YT,YT,YT,YT,YT,YT,YT,YT,YT,YT,YT,YT,YT,YT,YT,YT,YT,YT,YT,YT,YT,YT,YT,YT,YF,YF,YF,YF,YF,YF,YF,YF,YF,YF,YF,YF,YF] rfl rfl (any_of HT_.out (by kernel_rfl)) (fun _ _ _ h => h) (Or.inl ⟨by rfl,?_⟩) ?_ ?_
              rotate_left
              ·intro w'
               go_simp
               with_reducible rfl
              rotate_left
              ·simp only [Act.put,Ya,Yb,Yc,i64_w,i32_w]
               rfl
              refine take_ (i := 46) (N := some 97) (v := ?_) (a' := ?_) #[YT,YT,YT,YT,YT,YT,YT,YT,YT,YT,YT,YT,YT,YT,YT,YT,YT,YT,YT,YT,YT,YT,YT,YT,YT,YT,YT,YT,YT,YT,YT,YT,YT,YT,YT,YT,YT,YT,YT,YT,YT,YT,YT,YT,YT,YT,YT,YF,YF,YF,YF,YF,YF,YF,YF,YF,YF,YF,YF] rfl rfl (take_ofW HT_.out HW_.out (by kernel_rfl)) (fun _ _ _ h => h) (Or.inl ⟨by rfl,?_⟩) hHeld ?_ ?_
              rotate_left
              ·rintro w' ⟨s0,s1⟩
               go_simp
               with_reducible rfl
              rotate_left
              ·simp only [Act.put,Ya,Yb,Yc,i64_w,i32_w]
               rfl
              refine take_ (i := 48) (N := some 99) (v := ?_) (a' := ?_) #[YT,YT,YT,YT,YT,YT,YT,YT,YT,YT,YT,YT,YT,YT,YT,YT,YT,YT,YT,YT,YT,YT,YT,YT,YT,YT,YT,YT,YT,YT,YT,YT,YT,YT,YT,YT,YT,YT,YT,YT,YT,YT,YT,YT,YT,YT,YT,YF,YT,YF,YF,YF,YF,YF,YF,YF,YF,YF,YF] rfl rfl (take_ofW HT_.out HW_.out (by kernel_rfl)) (fun _ _ _ h => h) (Or.inl ⟨by rfl,?_⟩) hHeld ?_ ?_
              rotate_left
              ·rintro w' ⟨s0,s1⟩
               go_simp
               with_reducible rfl
              rotate_left
              ·simp only [Act.put,Ya,Yb,Yc,i64_w,i32_w]
               rfl
              refine one_ (i := 47) (N := some 98) #[YT,YT,YT,YT,YT,YT,YT,YT,YT,YT,YT,YT,YT,YT,YT,YT,YT,YT,YT,YT,YT,YT,YT,YT,YT,YT,YT,YT,YT,YT,YT,YT,YT,YT,YT,YT,YT,YT,YT,YT,YT,YT,YT,YT,YT,YT,YT,YT,YT,YF,YF,YF,YF,YF,YF,YF,YF,YF,YF] rfl rfl (one_of HT_.out (by kernel_rfl)) (by decide) (fun K hK => ?_)
              refine goes_ Try.func18 (by kernel_rfl) rfl #[.slice A0 l0.length c0,.int .i64 a1,.agg #[.int .i64 3,.int .i64 7]] (by rfl) rfl rfl Y8 ?_
              with_reducible refine (override_Value.calls k _ _ l0 a1 3 7 t341 t342 _ ?side1 ?side2 A28.out).mono ?_
              (case side1 => exact Y11 (Kd.C_below HR0.out HB.out))
              (case side2 => exact HC0.out)
              rintro e w45 ⟨rfl,hb⟩
              refine ⟨_,rfl,?_⟩
              have n0_ := Yd (Kd.R_below (Y5 HO329.out) hb)
              have n1_ := Yd (Kd.R_below (Y5 HO334.out) hb)
              have n2_ := Yd (Kd.R_below (Y5 HO339.out) hb)
              have n3_ := Yd (blk_below (g := gb325) (o := .cells #[.int .i64 3,.int .i64 7] 24 (0,0)) (Y6 BK325.out) hb)
              have n4_ := Yd (below_step (by first | exact Y4 HB.out GE325.out | exact Y3 HB.out) hb)
              clear HO329
              clear HO334
              clear HO339
              clear BK325
              clear HB
              have HO329 := n0_
              have HO334 := n1_
              have HO339 := n2_
              have BK325 := n3_
              have HB := n4_
              clear n0_ n1_ n2_ n3_ n4_
              (try clear hb)
              (try clear hb2)
              (try clear hk)
              (try clear hi)
              refine hK.out _ _ ⟨(blk_cell BK325.out 0).trans rfl,(blk_cell BK325.out 1).trans rfl⟩ (fun hHeld => ?_)
              clear hK K
              refine norm_ (a' := ?_) ?_ ?_
              rotate_left
              ·show Act.put _ (some 98) _ = _
               simp only [Act.put,Ya,Yb,Yc,i64_w,i32_w]
               rfl
              refine pure_ (i := 49) (N := some 100) (v := ?_) (a' := ?_) #[YT,YT,YT,YT,YT,YT,YT,YT,YT,YT,YT,YT,YT,YT,YT,YT,YT,YT,YT,YT,YT,YT,YT,YT,YT,YT,YT,YT,YT,YT,YT,YT,YT,YT,YT,YT,YT,YT,YT,YT,YT,YT,YT,YT,YT,YT,YT,YT,YT,YT,YF,YF,YF,YF,YF,YF,YF,YF,YF] rfl rfl (any_of HT_.out (by kernel_rfl)) (fun _ _ _ h => h) (Or.inl ⟨by rfl,?_⟩) ?_ ?_
              rotate_left
              ·intro w'
               go_simp
               with_reducible rfl
              rotate_left
              ·simp only [Act.put,Ya,Yb,Yc,i64_w,i32_w]
               rfl
              refine pure_ (i := 50) (N := some 101) (v := ?_) (a' := ?_) #[YT,YT,YT,YT,YT,YT,YT,YT,YT,YT,YT,YT,YT,YT,YT,YT,YT,YT,YT,YT,YT,YT,YT,YT,YT,YT,YT,YT,YT,YT,YT,YT,YT,YT,YT,YT,YT,YT,YT,YT,YT,YT,YT,YT,YT,YT,YT,YT,YT,YT,YT,YF,YF,YF,YF,YF,YF,YF,YF] rfl rfl (any_of HT_.out (by kernel_rfl)) (fun _ _ _ h => h) (Or.inl ⟨by rfl,?_⟩) ?_ ?_
              rotate_left
              ·intro w'
               go_simp
               with_reducible rfl
              rotate_left
              ·simp only [Act.put,Ya,Yb,Yc,i64_w,i32_w]
               rfl
              refine pure_ (i := 51) (N := some 102) (v := ?_) (a' := ?_) #[YT,YT,YT,YT,YT,YT,YT,YT,YT,YT,YT,YT,YT,YT,YT,YT,YT,YT,YT,YT,YT,YT,YT,YT,YT,YT,YT,YT,YT,YT,YT,YT,YT,YT,YT,YT,YT,YT,YT,YT,YT,YT,YT,YT,YT,YT,YT,YT,YT,YT,YT,YT,YF,YF,YF,YF,YF,YF,YF] rfl rfl (any_of HT_.out (by kernel_rfl)) (fun _ _ _ h => h) (Or.inl ⟨by rfl,?_⟩) ?_ ?_
              rotate_left
              ·intro w'
               go_simp
               with_reducible rfl
              rotate_left
              ·simp only [Act.put,Ya,Yb,Yc,i64_w,i32_w]
               rfl
              refine pure_ (i := 52) (N := some 103) (v := ?_) (a' := ?_) #[YT,YT,YT,YT,YT,YT,YT,YT,YT,YT,YT,YT,YT,YT,YT,YT,YT,YT,YT,YT,YT,YT,YT,YT,YT,YT,YT,YT,YT,YT,YT,YT,YT,YT,YT,YT,YT,YT,YT,YT,YT,YT,YT,YT,YT,YT,YT,YT,YT,YT,YT,YT,YT,YF,YF,YF,YF,YF,YF] rfl rfl (any_of HT_.out (by kernel_rfl)) (fun _ _ _ h => h) (Or.inl ⟨by rfl,?_⟩) ?_ ?_
              rotate_left
              ·intro w'
               go_simp
               with_reducible rfl
              rotate_left
              ·simp only [Act.put,Ya,Yb,Yc,i64_w,i32_w]
               rfl
              refine pure_ (i := 53) (N := some 104) (v := ?_) (a' := ?_) #[YT,YT,YT,YT,YT,YT,YT,YT,YT,YT,YT,YT,YT,YT,YT,YT,YT,YT,YT,YT,YT,YT,YT,YT,YT,YT,YT,YT,YT,YT,YT,YT,YT,YT,YT,YT,YT,YT,YT,YT,YT,YT,YT,YT,YT,YT,YT,YT,YT,YT,YT,YT,YT,YT,YF,YF,YF,YF,YF] rfl rfl (any_of HT_.out (by kernel_rfl)) (fun _ _ _ h => h) (Or.inl ⟨by rfl,?_⟩) ?_ ?_
              rotate_left
              ·intro w'
               go_simp
               with_reducible rfl
              rotate_left
              ·simp only [Act.put,Ya,Yb,Yc,i64_w,i32_w]
               rfl
              refine one_ (i := 54) (N := some 105) #[YT,YT,YT,YT,YT,YT,YT,YT,YT,YT,YT,YT,YT,YT,YT,YT,YT,YT,YT,YT,YT,YT,YT,YT,YT,YT,YT,YT,YT,YT,YT,YT,YT,YT,YT,YT,YT,YT,YT,YT,YT,YT,YT,YT,YT,YT,YT,YT,YT,YT,YT,YT,YT,YT,YT,YF,YF,YF,YF] rfl rfl (one_of HT_.out (by kernel_rfl)) (by decide) (fun K hK => ?_)
              refine goes_ Try.func14 (by kernel_rfl) rfl #[.slice A0 l0.length c0,.int .i64 a1] (by rfl) rfl rfl Y8 ?_
              with_reducible refine (override_Expire.calls k _ _ l0 a1 t343 _ ?side1 ?side2 A30.out).mono ?_
              (case side1 => exact Y11 (Kd.C_below HR0.out HB.out))
              (case side2 => exact HC0.out)
              rintro e w46 ⟨v344,rfl,ho0,hb⟩
              refine ⟨_,rfl,?_⟩
              have n0_ := Yd (Kd.R_below (Y5 HO329.out) hb)
              have n1_ := Yd (Kd.R_elder' (Y5 HO334.out) (Kd.R_base ho0) hb)
              have n2_ := Yd (Kd.R_elder' (Y5 HO339.out) (Kd.R_base ho0) hb)
              have n3_ := Yd (Kd.R_lower (Kd.R_new' (Kd.R_new' ho0 (Kd.R_lt (Y5 HO334.out))) (Kd.R_lt (Y5 HO339.out))) (below_size (by first | exact Y4 HB.out GE325.out | exact Y3 HB.out)))
              have n4_ := Yd (blk_below (g := gb325) (o := .cells #[.int .i64 3,.int .i64 7] 24 (0,0)) (Y6 BK325.out) hb)
              have n5_ := Yd (below_step (by first | exact Y4 HB.out GE325.out | exact Y3 HB.out) hb)
              clear HO329
              clear HO334
              clear HO339
              clear BK325
              clear HB
              have HO329 := n0_
              have HO334 := n1_
              have HO339 := n2_
              have HO345 := n3_
              have BK325 := n4_
              have HB := n5_
              clear n0_ n1_ n2_ n3_ n4_ n5_
              (try clear hb)
              (try clear hb2)
              (try clear hk)
              (try clear hi)
              (try clear ho0)
              obtain ⟨Ao47,co47,eo47⟩ := Kd.R_slice HO345.out
              (first | subst eo47 | (injection eo47 with f1_ f2_ f3_;have f4_ := f1_.symm;have f5_ := f3_.symm;clear f1_ f2_ f3_;subst f4_;subst f5_))
              refine hK.out _ _ ⟨(blk_cell BK325.out 0).trans rfl,(blk_cell BK325.out 1).trans rfl⟩ (fun hHeld => ?_)
              clear hK K
              refine norm_ (a' := ?_) ?_ ?_
              rotate_left
              ·show Act.put _ (some 105) _ = _
               simp only [Act.put,Ya,Yb,Yc,i64_w,i32_w]
               rfl
              refine pure_ (i := 55) (N := some 106) (v := ?_) (a' := ?_) #[YT,YT,YT,YT,YT,YT,YT,YT,YT,YT,YT,YT,YT,YT,YT,YT,YT,YT,YT,YT,YT,YT,YT,YT,YT,YT,YT,YT,YT,YT,YT,YT,YT,YT,YT,YT,YT,YT,YT,YT,YT,YT,YT,YT,YT,YT,YT,YT,YT,YT,YT,YT,YT,YT,YT,YT,YF,YF,YF] rfl rfl (any_of HT_.out (by kernel_rfl)) (fun _ _ _ h => h) (Or.inl ⟨by rfl,?_⟩) ?_ ?_
              rotate_left
              ·intro w'
               go_simp
               with_reducible rfl
              rotate_left
              ·simp only [Act.put,Ya,Yb,Yc,i64_w,i32_w]
               rfl
              refine pure_ (i := 56) (N := some 107) (v := ?_) (a' := ?_) #[YT,YT,YT,YT,YT,YT,YT,YT,YT,YT,YT,YT,YT,YT,YT,YT,YT,YT,YT,YT,YT,YT,YT,YT,YT,YT,YT,YT,YT,YT,YT,YT,YT,YT,YT,YT,YT,YT,YT,YT,YT,YT,YT,YT,YT,YT,YT,YT,YT,YT,YT,YT,YT,YT,YT,YT,YT,YF,YF] rfl rfl (any_of HT_.out (by kernel_rfl)) (fun _ _ _ h => h) (Or.inl ⟨by rfl,?_⟩) ?_ ?_
              rotate_left
              ·intro w'
               go_simp
               with_reducible rfl
              rotate_left
              ·simp only [Act.put,Ya,Yb,Yc,i64_w,i32_w]
               rfl
              refine pure_ (i := 57) (N := some 108) (v := ?_) (a' := ?_) #[YT,YT,YT,YT,YT,YT,YT,YT,YT,YT,YT,YT,YT,YT,YT,YT,YT,YT,YT,YT,YT,YT,YT,YT,YT,YT,YT,YT,YT,YT,YT,YT,YT,YT,YT,YT,YT,YT,YT,YT,YT,YT,YT,YT,YT,YT,YT,YT,YT,YT,YT,YT,YT,YT,YT,YT,YT,YT,YF] rfl rfl (any_of HT_.out (by kernel_rfl)) (fun _ _ _ h => h) (Or.inl ⟨by rfl,?_⟩) ?_ ?_
              rotate_left
              ·intro w'
               go_simp
               with_reducible rfl
              rotate_left
              ·simp only [Act.put,Ya,Yb,Yc,i64_w,i32_w]
               rfl
              refine pure_ (i := 58) (N := some 4) (v := ?_) (a' := ?_) #[YT,YT,YT,YT,YT,YT,YT,YT,YT,YT,YT,YT,YT,YT,YT,YT,YT,YT,YT,YT,YT,YT,YT,YT,YT,YT,YT,YT,YT,YT,YT,YT,YT,YT,YT,YT,YT,YT,YT,YT,YT,YT,YT,YT,YT,YT,YT,YT,YT,YT,YT,YT,YT,YT,YT,YT,YT,YT,YT] rfl rfl (any_of HT_.out (by kernel_rfl)) (fun _ _ _ h => h) (Or.inl ⟨by rfl,?_⟩) ?_ ?_
              rotate_left
              ·intro w'
               go_simp
               with_reducible rfl
              rotate_left
              ·simp only [Act.put,Ya,Yb,Yc,i64_w,i32_w]
               rfl
              refine done_ (done_of HT_.out (by kernel_rfl)) ?_
              try go_wp2
              go_ret
              exact ⟨by first | rfl | (simp [errW_none,errW_some] <;> rfl) | (simp [*,errW_none,errW_some] <;> rfl),by repeat (first | (with_reducible first | exact HB.out | apply below_alloc | apply Y15 | apply below_drew1 | refine below_set ?_ GE325.out) | exact HB.out)⟩
             ·rw [if_neg c29] at H
              have c29b0 : (t341 == 3 && (t342 == 7)) = false := by simpa using c29
              (try (have c29b1 : decide (t341 = 3 && (t342 == 7)) = false := by simpa using c29))
              (try (have c29b2 : (t341 == 3 && (t342 == 7)) = false := by simpa using c29))
              (try (have c29b3 : ¬ (t341 = 3 && (t342 == 7)) := by simpa using c29))
              clear c29
              exact absurd H (by simp)
            ·rw [if_neg c27] at H
             have c27b0 : (t340 == (-1)) = false := beq_eq_false_iff_ne.mpr c27
             have c27b1 : (t340 != (-1)) = true := bne_iff_ne.mpr c27
             exact absurd H (by simp)
           ·rw [if_neg c25] at H
            have c25b0 : ((t336.length : Int) == 0) = false := beq_eq_false_iff_ne.mpr c25
            have c25b1 : ((t336.length : Int) != 0) = true := bne_iff_ne.mpr c25
            have c25b2 : ¬ (t336 = []) := fun h_ => c25 (by rw [h_];rfl)
            exact absurd H (by simp)
          ·rw [if_neg c24] at H
           have c24b0 : ((t332.length : Int) == 0) = false := beq_eq_false_iff_ne.mpr c24
           have c24b1 : ((t332.length : Int) != 0) = true := bne_iff_ne.mpr c24
           have c24b2 : ¬ (t332 = []) := fun h_ => c24 (by rw [h_];rfl)
           exact absurd H (by simp)
         ·rw [if_neg c23] at H
          have c23b0 : (t330 == 0) = false := beq_eq_false_iff_ne.mpr c23
          have c23b1 : (t330 != 0) = true := bne_iff_ne.mpr c23
          exact absurd H (by simp)
        ·rw [if_neg c22] at H
         have c22b0 : ((t326.length : Int) == 0) = false := beq_eq_false_iff_ne.mpr c22
         have c22b1 : ((t326.length : Int) != 0) = true := bne_iff_ne.mpr c22
         have c22b2 : ¬ (t326 = []) := fun h_ => c22 (by rw [h_];rfl)
         exact absurd H (by simp)
       ·rw [if_neg c21] at H
        have c21b0 : (t337 == t323) = false := beq_eq_false_iff_ne.mpr c21
        have c21b1 : (t337 != t323) = true := bne_iff_ne.mpr c21
        exact absurd H (by simp)
      ·rw [if_neg c20] at H
       have c20b0 : (t335 == t323) = false := beq_eq_false_iff_ne.mpr c20
       have c20b1 : (t335 != t323) = true := bne_iff_ne.mpr c20
       exact absurd H (by simp)
     ·rw [if_neg c19] at H
      have c19b0 : (t331 == t323) = false := beq_eq_false_iff_ne.mpr c19
      have c19b1 : (t331 != t323) = true := bne_iff_ne.mpr c19
      exact absurd H (by simp)
    ·rw [if_neg c18] at H
     have c18b0 : (t327 == t323) = false := beq_eq_false_iff_ne.mpr c18
     have c18b1 : (t327 != t323) = true := bne_iff_ne.mpr c18
     exact absurd H (by simp)
  ·replace c6 := Bool.eq_false_iff.mpr c6
   subst c6
   have H1 : (some true) = some r := by rw [if_neg (show ¬ (false = true) by decide)] at H;exact H
   clear H
   have H := H1
   clear H1
   obtain rfl := Option.some.inj H
   go_enter Try.func5,Try.ntmps5
   go_wp2_with (first | ((with_reducible refine gate_callee (f := 6) rfl ?_);refine goesL_ (some 15) rfl rfl Try.func6 (by kernel_rfl) rfl #[] rfl Y8 ?_;(with_reducible refine (plenumlaw34_awake.calls k  true _ A3.out).mono ?_);rintro e w48 ⟨rfl,hb⟩;refine ⟨_,rfl,?_⟩;have n0_ := Yd (below_step (Y3 HB.out) hb);clear HB;have HB := n0_;clear n0_;(try clear hb);(try clear hb2);(try clear hk);(try clear hi)) | ((with_reducible refine gate_callee (f := 7) rfl ?_);refine goesL_ (some 18) rfl rfl Try.func7 (by kernel_rfl) rfl #[.slice A0 l0.length c0] rfl Y8 ?_;(with_reducible refine (plenumref34_Few.calls k _ _ l0 false _ ?side1 ?side2 A5.out).mono ?_);(case side1 => exact Y11 (Kd.C_below HR0.out HB.out));(case side2 => exact HC0.out);rintro e w' ⟨rfl,⟨nd,rfl⟩⟩;refine ⟨_,rfl,?_⟩))
   go_ret
   exact ⟨by first | rfl | (simp [errW_none,errW_some] <;> rfl) | (simp [*,errW_none,errW_some] <;> rfl),Y3 HB.out⟩
 ·replace c4 := Bool.eq_false_iff.mpr c4
  subst c4
  have H1 : (none) = some r := by rw [if_neg (show ¬ (false = true) by decide)] at H;exact H
  clear H
  have H := H1
  clear H1
  exact absurd H (by simp)
end Go.Proofs.Ytaoicdkjjjlmeaa.PD34
namespace Go.Proofs.YtaoicdkjjjlmeaaX
open Go.RowKit
def Evn {α : Type} (g : Nat → Option α) (v : α) : Prop := ∃ n, ∀ k, n ≤ k → g k = some v
theorem Evn.const {α : Type} (v : α) : Evn (fun _ => some v) v := ⟨0, fun _ _ => rfl⟩
theorem Evn.of {α : Type} {g : Option α} {v : α} (h : g = some v) : Evn (fun _ => g) v := ⟨0, fun _ _ => h⟩
theorem Evn.of_eq {α : Type} {g : Nat → Option α} {v u : α} (h : Evn g v) (e : v = u) : Evn g u := e ▸ h
theorem Evn.ex {α : Type} {g : Nat → Option α} {v : α} (h : Evn g v) : ∃ k, g k = some v := by
 obtain ⟨n, hn⟩ := h
 exact ⟨n, hn n (Nat.le_refl _)⟩
theorem Evn.step {α : Type} {f g : Nat → Option α} {v : α} (h : ∀ k, f (k + 1) = g k) (hg : Evn g v) : Evn f v := by
 obtain ⟨n, hn⟩ := hg
 refine ⟨n + 1, fun k hk => ?_⟩
 obtain ⟨j, rfl⟩ : ∃ j, k = j + 1 := ⟨k - 1, by omega⟩
 rw [h]
 exact hn j (by omega)
theorem Evn.congr {α : Type} {f g : Nat → Option α} {v : α} (h : ∀ k, f k = g k) (hg : Evn g v) : Evn f v := by
 obtain ⟨n, hn⟩ := hg
 exact ⟨n, fun k hk => (h k).trans (hn k hk)⟩
theorem Evn.bind {α β : Type} {g : Nat → Option α} {h : Nat → α → Option β} {v : α} {u : β} (hg : Evn g v) (hh : Evn (fun k => h k v) u) : Evn (fun k => (g k).bind (h k)) u := by
 obtain ⟨n, hn⟩ := hg
 obtain ⟨m, hm⟩ := hh
 refine ⟨max n m, fun k hk => ?_⟩
 show (g k).bind (h k) = some u
 rw [hn k (by omega)]
 exact hm k (by omega)
theorem Evn.ite {α : Type} {c : Prop} [Decidable c] {f g : Nat → Option α} {v : α} (h1 : c → Evn f v) (h2 : ¬ c → Evn g v) : Evn (fun k => if c then f k else g k) v := by
 by_cases h : c
 ·simp only [if_pos h]; exact h1 h
 ·simp only [if_neg h]; exact h2 h
theorem Evn.pos {α : Type} {c : Prop} [Decidable c] {f g : Nat → Option α} {v : α} (hc : c) (h : Evn f v) : Evn (fun k => if c then f k else g k) v := by
 simp only [if_pos hc]; exact h
theorem Evn.neg {α : Type} {c : Prop} [Decidable c] {f g : Nat → Option α} {v : α} (hc : ¬ c) (h : Evn g v) : Evn (fun k => if c then f k else g k) v := by
 simp only [if_neg hc]; exact h
theorem Evn.uniq {α : Type} {g : Nat → Option α} {v u : α} (h : Evn g v) (h2 : Evn g u) : v = u := by
 obtain ⟨n, hn⟩ := h
 obtain ⟨m, hm⟩ := h2
 have e1 := hn (max n m) (by omega)
 have e2 := hm (max n m) (by omega)
 rw [e1] at e2
 exact Option.some.inj e2
theorem w64 {n : Int} (h1 : -9223372036854775808 ≤ n) (h2 : n ≤ 9223372036854775807) : wrap64 n = n := by unfold wrap64; omega
theorem search1 {α : Type} (bad : Nat → Prop) (f : Nat → Int → Option α) (n : Nat) {e : α} (hbad : ∀ i : Nat, i < n → bad i → Evn (fun k => f k (i : Int)) e)
  (hnext : ∀ i : Nat, i < n → ¬ bad i → ∀ u, Evn (fun k => f k ((i : Int) + 1)) u → Evn (fun k => f k (i : Int)) u) : ∀ (m i : Nat), i + m = n → (∃ j, i ≤ j ∧ j < n ∧ bad j) → Evn (fun k => f k (i : Int)) e
 | 0, i, hm, h => by
  obtain ⟨j, h1, h2, _⟩ := h
  omega
 | m + 1, i, hm, h => by
  by_cases hb : bad i
  ·exact hbad i (by omega) hb
  ·refine hnext i (by omega) hb _ (search1 bad f n hbad hnext m (i + 1) (by omega) ?_)
   obtain ⟨j, h1, h2, h3⟩ := h
   refine ⟨j, ?_, h2, h3⟩
   rcases Nat.lt_or_eq_of_le h1 with h4 | rfl
   ·omega
   ·exact absurd h3 hb
open Classical in
theorem search {α : Type} (bad : Nat → Prop) (f : Nat → Int → Option α) (n : Nat) {e v : α} (hend : Evn (fun k => f k (n : Int)) v) (hbad : ∀ i : Nat, i < n → bad i → Evn (fun k => f k (i : Int)) e)
  (hnext : ∀ i : Nat, i < n → ¬ bad i → ∀ u, Evn (fun k => f k ((i : Int) + 1)) u → Evn (fun k => f k (i : Int)) u) : ∀ (m i : Nat), i + m = n → Evn (fun k => f k (i : Int)) (if ∃ j, i ≤ j ∧ j < n ∧ bad j then e else v)
 | 0, i, hm => by
  rw [if_neg (by rintro ⟨j, h1, h2, _⟩; omega)]
  obtain rfl : i = n := by omega
  exact hend
 | m + 1, i, hm => by
  by_cases hb : bad i
  ·rw [if_pos ⟨i, Nat.le_refl _, by omega, hb⟩]
   exact hbad i (by omega) hb
  ·have ih := search bad f n hend hbad hnext m (i + 1) (by omega)
   refine hnext i (by omega) hb _ ?_
   refine Evn.of_eq ih ?_
   by_cases h : ∃ j, i ≤ j ∧ j < n ∧ bad j
   ·rw [if_pos h, if_pos]
    obtain ⟨j, h1, h2, h3⟩ := h
    refine ⟨j, ?_, h2, h3⟩
    rcases Nat.lt_or_eq_of_le h1 with h4 | rfl
    ·omega
    ·exact absurd h3 hb
   ·rw [if_neg h, if_neg]
    rintro ⟨j, h1, h2, h3⟩
    exact h ⟨j, by omega, h2, h3⟩
theorem find (bad : Nat → Prop) (f : Nat → Int → Option Int) (n : Nat) (hend : Evn (fun k => f k (n : Int)) (-1)) (hbad : ∀ i : Nat, i < n → bad i → Evn (fun k => f k (i : Int)) (i : Int))
  (hnext : ∀ i : Nat, i < n → ¬ bad i → ∀ u, Evn (fun k => f k ((i : Int) + 1)) u → Evn (fun k => f k (i : Int)) u) : ∀ (m i : Nat), i + m = n → ∃ r : Int, Evn (fun k => f k (i : Int)) r ∧ (0 ≤ r ↔ ∃ j, i ≤ j ∧ j < n ∧ bad j)
 | 0, i, hm => by
  obtain rfl : i = n := by omega
  refine ⟨-1, hend, ⟨fun h => by omega, ?_⟩⟩
  rintro ⟨j, h1, h2, _⟩
  omega
 | m + 1, i, hm => by
  by_cases hb : bad i
  ·exact ⟨i, hbad i (by omega) hb, ⟨fun _ => ⟨i, Nat.le_refl _, by omega, hb⟩, fun _ => by omega⟩⟩
  ·obtain ⟨r, hr, he⟩ := find bad f n hend hbad hnext m (i + 1) (by omega)
   refine ⟨r, hnext i (by omega) hb r hr, he.trans ⟨?_, ?_⟩⟩
   ·rintro ⟨j, h1, h2, h3⟩
    exact ⟨j, by omega, h2, h3⟩
   ·rintro ⟨j, h1, h2, h3⟩
    refine ⟨j, ?_, h2, h3⟩
    rcases Nat.lt_or_eq_of_le h1 with h4 | rfl
    ·omega
    ·exact absurd h3 hb
theorem fold {σ α : Type} (f : Nat → σ → Int → Option α) (st : Nat → σ) (n : Nat) {v : α} (hend : Evn (fun k => f k (st n) (n : Int)) v)
  (hstep : ∀ i : Nat, i < n → ∀ u, Evn (fun k => f k (st (i + 1)) ((i : Int) + 1)) u → Evn (fun k => f k (st i) (i : Int)) u) : ∀ (m i : Nat), i + m = n → Evn (fun k => f k (st i) (i : Int)) v
 | 0, i, hm => by
  obtain rfl : i = n := by omega
  exact hend
 | m + 1, i, hm => hstep i (by omega) v (fold f st n hend hstep m (i + 1) (by omega))
end Go.Proofs.YtaoicdkjjjlmeaaX
namespace Go.Proofs.Ytaoicdkjjjlmeaa.PD34
open Go.RowKit Go.Proofs.YtaoicdkjjjlmeaaW.PrintWords Go.Proofs.YtaoicdkjjjlmeaaW.PrintLast Go.Proofs.YtaoicdkjjjlmeaaW.PrintMore
open Go.Proofs.YtaoicdkjjjlmeaaX
theorem bal (s : ByteArray) : s.toList = s.data.toList := ByteArray.toList_eq s
theorem bless : ∀ (x y : List UInt8), Op.bytesLess x y = true ↔ x < y
 | _, [] => by simp [Op.bytesLess]
 | [], _ :: _ => by simp [Op.bytesLess]
 | a :: x, b :: y => by
  have ih := bless x y
  rw [List.cons_lt_cons_iff]
  simp [Op.bytesLess, ih]
abbrev okc (c : Int) : Prop := (97 ≤ c ∧ c ≤ 122) ∨ (48 ≤ c ∧ c ≤ 57) ∨ c = 95
def okFrom (s : ByteArray) (i : Int) : Prop := ∀ j : Int, i ≤ j → j < (s.size : Int) → okc (bt s j)
def NameOk (s : ByteArray) : Prop := 1 ≤ (s.size : Int) ∧ (s.size : Int) ≤ 24 ∧ 97 ≤ bt s 0 ∧ bt s 0 ≤ 122 ∧ okFrom s 0
open Classical in
theorem nm_run (s : ByteArray) (hs : s.size ≤ 1000) : ∀ (m : Nat) (i : Int), 0 ≤ i → i + m = (s.size : Int) → Evn (fun k => override_name.l0 k s (s.size : Int) i) (decide (okFrom s i))
 | 0, i, h0, hm => by
  refine Evn.step (fun k => by rw [override_name.l0]) (Evn.neg (by omega) (Evn.of_eq (Evn.const true) ?_))
  exact (decide_eq_true (fun j h1 h2 => by omega)).symm
 | m + 1, i, h0, hm => by
  have ih := nm_run s hs m (i + 1) (by omega) (by omega)
  have hj : ∀ b : Bool, (b = true ↔ ¬ okc (bt s i)) → Evn (fun k => override_name.j2 k s (s.size : Int) i b) (decide (okFrom s i)) := by
   intro b hb
   refine Evn.step (fun k => by rw [override_name.j2]) ?_
   refine Evn.ite (fun hbt => ?_) (fun hbf => ?_)
   ·refine Evn.of_eq (Evn.const false) ?_
    exact (decide_eq_false (fun h => hb.1 hbt (h i (Int.le_refl _) (by omega)))).symm
   ·rw [w64 (by omega) (by omega)]
    refine Evn.of_eq ih ?_
    have hok : okc (bt s i) := by
     by_cases h : okc (bt s i)
     ·exact h
     ·exact absurd (hb.2 h) hbf
    rw [decide_eq_decide]
    constructor
    ·intro h j h1 h2
     rcases Int.lt_or_eq_of_le h1 with h3 | rfl
     ·exact h j (by omega) h2
     ·exact hok
    ·intro h j h1 h2
     exact h j (by omega) h2
  refine Evn.step (fun k => by rw [override_name.l0]) (Evn.pos (by omega) (Evn.pos (by omega) (Evn.pos (by omega) ?_)))
  generalize bt s i = c at hj
  refine Evn.ite (fun h1 => Evn.ite (fun h2 => hj _ ?_) (fun h2 => Evn.ite (fun h3 => hj _ ?_) (fun h3 => hj _ ?_))) (fun h1 => Evn.ite (fun h2 => Evn.ite (fun h3 => hj _ ?_) (fun h3 => Evn.ite (fun h4 => hj _ ?_) (fun h4 => hj _ ?_))) (fun h2 => hj _ ?_))
  all_goals (simp only [bne_iff_ne, ne_eq, Bool.false_eq_true, false_iff, Decidable.not_not, okc]; omega)
theorem size_nil (s : ByteArray) : s.toList = [] ↔ s.size = 0 := by
 rw [bal]
 constructor
 ·intro h
  have : s.data.toList.length = 0 := by rw [h]; rfl
  simpa using this
 ·intro h
  apply List.eq_nil_of_length_eq_zero
  simpa using h
open Classical in
theorem name_val (s : ByteArray) (hs : s.size ≤ 1000) : Evn (fun k => override_name.f k s) (decide (NameOk s)) := by
 have hj : ∀ b : Bool, (b = true ↔ ¬ (1 ≤ (s.size : Int) ∧ (s.size : Int) ≤ 24 ∧ 97 ≤ bt s 0 ∧ bt s 0 ≤ 122)) → Evn (fun k => override_name.j0 k s b) (decide (NameOk s)) := by
  intro b hb
  refine Evn.step (fun k => by rw [override_name.j0]) ?_
  refine Evn.ite (fun hbt => ?_) (fun hbf => ?_)
  ·refine Evn.of_eq (Evn.const false) ?_
   exact (decide_eq_false (fun h => hb.1 hbt ⟨h.1, h.2.1, h.2.2.1, h.2.2.2.1⟩)).symm
  ·refine Evn.of_eq (nm_run s hs s.size 0 (by omega) (by omega)) ?_
   have hg : 1 ≤ (s.size : Int) ∧ (s.size : Int) ≤ 24 ∧ 97 ≤ bt s 0 ∧ bt s 0 ≤ 122 := by
    by_cases h : 1 ≤ (s.size : Int) ∧ (s.size : Int) ≤ 24 ∧ 97 ≤ bt s 0 ∧ bt s 0 ≤ 122
    ·exact h
    ·exact absurd (hb.2 h) hbf
   rw [decide_eq_decide]
   exact ⟨fun h => ⟨hg.1, hg.2.1, hg.2.2.1, hg.2.2.2, h⟩, fun h => h.2.2.2.2⟩
 unfold override_name.f
 refine Evn.ite (fun h1 => hj _ ?_) (fun h1 => Evn.ite (fun h2 => hj _ ?_) (fun h2 => Evn.pos ?_ (Evn.ite (fun h3 => hj _ ?_) (fun h3 => hj _ ?_))))
 ·have := (size_nil s).1 h1
  simp only [true_iff]
  omega
 ·simp only [true_iff]
  omega
 ·have : ¬ s.size = 0 := fun h => h1 ((size_nil s).2 h)
  omega
 ·simp only [true_iff]
  omega
 ·have : ¬ s.size = 0 := fun h => h1 ((size_nil s).2 h)
  rw [decide_eq_true_eq]
  omega
open Classical in
theorem ref_run (s : ByteArray) (hs : s.size ≤ 1000) : ∀ (m : Nat) (i : Int), 0 ≤ i → i + m = (s.size : Int) → Evn (fun k => plenumref10_Name.l0 k s i) (decide ((1 ≤ (s.size : Int) ∧ (s.size : Int) ≤ 24) ∧ okFrom s i ∧ (i = 0 → i < (s.size : Int) → 97 ≤ bt s 0 ∧ bt s 0 ≤ 122)))
 | 0, i, h0, hm => by
  refine Evn.step (fun k => by rw [plenumref10_Name.l0]) (Evn.neg (by omega) (Evn.ite (fun h => Evn.of_eq (Evn.const _) ?_) (fun h => Evn.of_eq (Evn.const _) ?_)))
  ·rw [decide_eq_decide]
   exact ⟨fun h2 => ⟨⟨h, h2⟩, fun j h1 h2 => by omega, fun _ h2 => by omega⟩, fun h2 => h2.1.2⟩
  ·exact (decide_eq_false (fun h2 => h h2.1.1)).symm
 | m + 1, i, h0, hm => by
  have ih := ref_run s hs m (i + 1) (by omega) (by omega)
  have hj : ∀ b : Bool, (b = true ↔ ¬ (okc (bt s i) ∧ (i = 0 → 97 ≤ bt s i ∧ bt s i ≤ 122))) → Evn (fun k => plenumref10_Name.j1 k s i b) (decide ((1 ≤ (s.size : Int) ∧ (s.size : Int) ≤ 24) ∧ okFrom s i ∧ (i = 0 → i < (s.size : Int) → 97 ≤ bt s 0 ∧ bt s 0 ≤ 122))) := by
   intro b hb
   refine Evn.step (fun k => by rw [plenumref10_Name.j1]) ?_
   refine Evn.ite (fun hbt => ?_) (fun hbf => ?_)
   ·refine Evn.of_eq (Evn.const false) ?_
    refine (decide_eq_false (fun h => hb.1 hbt ⟨h.2.1 i (Int.le_refl _) (by omega), fun hi => ?_⟩)).symm
    have h3 := h.2.2 hi (by omega)
    rw [hi]
    exact h3
   ·rw [w64 (by omega) (by omega)]
    refine Evn.of_eq ih ?_
    have hok : okc (bt s i) ∧ (i = 0 → 97 ≤ bt s i ∧ bt s i ≤ 122) := by
     by_cases h : okc (bt s i) ∧ (i = 0 → 97 ≤ bt s i ∧ bt s i ≤ 122)
     ·exact h
     ·exact absurd (hb.2 h) hbf
    rw [decide_eq_decide]
    constructor
    ·rintro ⟨h1, h2, _⟩
     refine ⟨h1, fun j h3 h4 => ?_, fun hi _ => ?_⟩
     ·rcases Int.lt_or_eq_of_le h3 with h5 | rfl
      ·exact h2 j (by omega) h4
      ·exact hok.1
     ·have := hok.2 hi
      rw [hi] at this
      exact this
    ·rintro ⟨h1, h2, _⟩
     exact ⟨h1, fun j h3 h4 => h2 j (by omega) h4, fun hi => by omega⟩
  refine Evn.step (fun k => by rw [plenumref10_Name.l0]) (Evn.pos (by omega) (Evn.pos (by omega) ?_))
  generalize bt s i = c at hj
  refine Evn.ite (fun h1 => Evn.ite (fun h2 => hj _ ?_) (fun h2 => Evn.ite (fun h3 => hj _ ?_) (fun h3 => Evn.ite (fun h4 => Evn.ite (fun h5 => hj _ ?_) (fun h5 => hj _ ?_)) (fun h4 => hj _ ?_)))) (fun h1 => Evn.ite (fun h3 => hj _ ?_) (fun h3 => Evn.ite (fun h4 => Evn.ite (fun h5 => hj _ ?_) (fun h5 => hj _ ?_)) (fun h4 => hj _ ?_)))
  all_goals (simp only [bne_iff_ne, ne_eq, Bool.false_eq_true, false_iff, true_iff, Decidable.not_not, okc]; omega)
open Classical in
theorem refname_val (s : ByteArray) (hs : s.size ≤ 1000) : Evn (fun k => plenumref10_Name.f k s) (decide (NameOk s)) := by
 unfold plenumref10_Name.f
 refine Evn.of_eq (ref_run s hs s.size 0 (by omega) (by omega)) ?_
 rw [decide_eq_decide]
 constructor
 ·rintro ⟨⟨h1, h2⟩, h3, h4⟩
  have := h4 rfl (by omega)
  exact ⟨h1, h2, this.1, this.2, h3⟩
 ·rintro ⟨h1, h2, h3, h4, h5⟩
  exact ⟨⟨h1, h2⟩, h5, fun _ _ => ⟨h3, h4⟩⟩
end Go.Proofs.Ytaoicdkjjjlmeaa.PD34
namespace Go.Proofs.Ytaoicdkjjjlmeaa.PD34
open Go.RowKit Go.Proofs.YtaoicdkjjjlmeaaW.PrintWords Go.Proofs.YtaoicdkjjjlmeaaW.PrintLast Go.Proofs.YtaoicdkjjjlmeaaW.PrintMore
open Go.Proofs.YtaoicdkjjjlmeaaX
def ld (L : List S26) (i : Nat) : S26 := rd_T26 L (i : Int)
theorem ld_def (L : List S26) (i : Nat) : rd_T26 L (i : Int) = ld L i := rfl
theorem ld_get (L : List S26) (i : Nat) (h : i < L.length) : ld L i = L[i] := by
 show L.getD (i : Int).toNat z26 = L[i]
 rw [Int.toNat_natCast, List.getD_eq_getElem?_getD, List.getElem?_eq_getElem h]
 rfl
theorem ld_take (L : List S26) (n i : Nat) (h : i < n) : ld (L.take n) i = ld L i := by
 show (L.take n).getD (i : Int).toNat z26 = L.getD (i : Int).toNat z26
 rw [Int.toNat_natCast, List.getD_eq_getElem?_getD, List.getD_eq_getElem?_getD, List.getElem?_take_of_lt h]
theorem dec_eq {p q : Prop} {i : Decidable p} {j : Decidable q} (h : p ↔ q) : @decide p i = @decide q j := by
 by_cases hp : p
 ·simp [hp, h.1 hp]
 ·have hq : ¬ q := fun hq => hp (h.2 hq)
  simp [hp, hq]
theorem dec_no {p : Prop} {i : Decidable p} (h : ¬ p) : false = @decide p i := (decide_eq_false h).symm
def Rg (x : S26) : Prop := 0 ≤ x.f1 ∧ x.f1 < x.f2 ∧ x.f2 ≤ 6311433600 ∧ 0 ≤ x.f4 ∧ x.f4 ≤ 1000000000
def Ty (x : S26) : Prop := 1 ≤ x.f3.f0 ∧ x.f3.f0 ≤ 3
def nlt (x y : S26) : Prop := x.f0.toList < y.f0.toList
def Dp (L : List S26) (j : Nat) : Prop := ∃ i, i < j ∧ ((ld L i).f4 = (ld L j).f4 ∨ ¬ nlt (ld L i) (ld L j))
def Dq (L : List S26) (j : Nat) : Prop := (0 < j ∧ ¬ nlt (ld L (j - 1)) (ld L j)) ∨ ∃ i, i < j ∧ (ld L i).f4 = (ld L j).f4
theorem dq_dp (L : List S26) (n : Nat) : (∃ j, j < n ∧ Dq L j) ↔ ∃ j, j < n ∧ Dp L j := by
 constructor
 ·rintro ⟨j, hj, ⟨h1, h2⟩ | ⟨i, h1, h2⟩⟩
  ·exact ⟨j, hj, j - 1, by omega, .inr h2⟩
  ·exact ⟨j, hj, i, h1, .inl h2⟩
 ·rintro ⟨j, hj, i, h1, h2⟩
  rcases h2 with h2 | h2
  ·exact ⟨j, hj, .inr ⟨i, h1, h2⟩⟩
  ·by_cases hall : ∃ m, m < n ∧ 0 < m ∧ ¬ nlt (ld L (m - 1)) (ld L m)
   ·obtain ⟨m, h3, h4⟩ := hall
    exact ⟨m, h3, .inl h4⟩
   ·exfalso
    have hup : ∀ d, i + d + 1 < n → nlt (ld L i) (ld L (i + d + 1)) := by
     intro d
     induction d with
     | zero =>
      intro h
      by_cases h5 : nlt (ld L i) (ld L (i + 0 + 1))
      ·exact h5
      ·exact absurd ⟨i + 0 + 1, h, by omega, h5⟩ hall
     | succ d ih =>
      intro h
      have h5 := ih (by omega)
      have h6 : nlt (ld L (i + d + 1)) (ld L (i + (d + 1) + 1)) := by
       by_cases h7 : nlt (ld L (i + d + 1)) (ld L (i + (d + 1) + 1))
       ·exact h7
       ·exact absurd ⟨i + (d + 1) + 1, h, by omega, h7⟩ hall
      exact List.lt_trans h5 h6
    refine h2 ?_
    have := hup (j - i - 1) (by omega)
    rw [show i + (j - i - 1) + 1 = j by omega] at this
    exact this
open Classical in
noncomputable def errOf (L : List S26) : Int :=
 if 64 < L.length then 7 else if ∃ j, j < L.length ∧ ¬ NameOk (ld L j).f0 then 4 else if ∃ j, j < L.length ∧ ¬ Rg (ld L j) then 6 else if ∃ j, j < L.length ∧ ¬ Ty (ld L j) then 11 else if ∃ j, j < L.length ∧ Dp L j then 5 else 0
def Small (L : List S26) : Prop := L.length ≤ 100000 ∧ ∀ i, (ld L i).f0.size ≤ 1000
section
open Classical
theorem ex0 {P : Nat → Prop} {n : Nat} : (∃ j, 0 ≤ j ∧ j < n ∧ P j) ↔ ∃ j, j < n ∧ P j := ⟨fun ⟨j, _, h⟩ => ⟨j, h⟩, fun ⟨j, h⟩ => ⟨j, Nat.zero_le _, h⟩⟩
theorem every_val {g : Nat → Option Int} {r : Int} {P : Nat → Prop} {n : Nat} (hr : Evn g r) (he : 0 ≤ r ↔ ∃ j, 0 ≤ j ∧ j < n ∧ P j) : Evn (fun k => ((g k).bind fun t => some (decide (t ≥ 0))).bind fun t => some (!t)) (decide (¬ ∃ j, j < n ∧ P j)) := by
 refine Evn.bind (Evn.bind hr (Evn.const _)) (Evn.of_eq (Evn.const _) ?_)
 rw [ex0] at he
 by_cases h : 0 ≤ r
 ·rw [decide_eq_true h]
  exact dec_no (fun hn => hn (he.1 h))
 ·rw [decide_eq_false h]
  exact (decide_eq_true (p := ¬ ∃ j, j < n ∧ P j) (fun hn => h (he.2 hn))).symm
theorem e1_val (L : List S26) (hL : Small L) : Evn (fun k => override_Check_1__c32.f k L) (decide (¬ ∃ j, j < L.length ∧ ¬ NameOk (ld L j).f0)) := by
 have hlen := hL.1
 obtain ⟨r, hr, he⟩ := find (fun i => ¬ NameOk (ld L i).f0) (fun k i => api_Hold__c31_.l0 k L (L.length : Int) i) L.length
  (Evn.step (fun k => by rw [api_Hold__c31_.l0]) (Evn.neg (by omega) (Evn.const _)))
  (fun i hi hb => by
   refine Evn.step (fun k => by rw [api_Hold__c31_.l0]) (Evn.pos (by omega) (Evn.pos (by omega) (Evn.pos (by omega) ?_)))
   rw [ld_def]
   refine Evn.bind (Evn.bind (Evn.bind (name_val _ (hL.2 i)) (Evn.const _)) (Evn.const _)) ?_
   rw [decide_eq_false hb]
   exact Evn.const _)
  (fun i hi hb u hu => by
   refine Evn.step (fun k => by rw [api_Hold__c31_.l0]) (Evn.pos (by omega) (Evn.pos (by omega) (Evn.pos (by omega) ?_)))
   rw [ld_def, w64 (by omega) (by omega)]
   refine Evn.bind (Evn.bind (Evn.bind (name_val _ (hL.2 i)) (Evn.const _)) (Evn.const _)) ?_
   rw [decide_eq_true (Classical.not_not.1 hb)]
   exact hu) L.length 0 (by omega)
 exact Evn.of_eq (every_val (g := fun k => api_Hold__c31_.l0 k L (L.length : Int) ((0 : Nat) : Int)) hr he) (dec_eq Iff.rfl)
theorem rg_val (x : S26) : override_Check_3.f x.f0 x.f1 x.f2 x.f3.f0 x.f3.f1 x.f4 = some (decide (Rg x)) := by
 unfold override_Check_3.f Rg
 split
 ·split
  ·split
   ·split
    ·congr 1
     exact dec_eq (by omega)
    ·congr 1
     exact dec_no (by omega)
   ·congr 1
    exact dec_no (by omega)
  ·congr 1
   exact dec_no (by omega)
 ·congr 1
  exact dec_no (by omega)
theorem ty_val (x : S26) : override_Check_4.f x.f0 x.f1 x.f2 x.f3.f0 x.f3.f1 x.f4 = some (decide (Ty x)) := by
 unfold override_Check_4.f Ty
 split
 ·congr 1
  exact dec_eq (by omega)
 ·congr 1
  exact dec_no (by omega)
theorem e2_val (L : List S26) (hL : Small L) : Evn (fun k => override_Check_1__c34.f k L) (decide (¬ ∃ j, j < L.length ∧ ¬ Rg (ld L j))) := by
 have hlen := hL.1
 obtain ⟨r, hr, he⟩ := find (fun i => ¬ Rg (ld L i)) (fun k i => api_Hold__c31___.l0 k L (L.length : Int) i) L.length
  (Evn.step (fun k => by rw [api_Hold__c31___.l0]) (Evn.neg (by omega) (Evn.const _)))
  (fun i hi hb => by
   refine Evn.step (fun k => by rw [api_Hold__c31___.l0]) (Evn.pos (by omega) (Evn.pos (by omega) (Evn.pos (by omega) ?_)))
   rw [ld_def]
   refine Evn.bind (Evn.bind (Evn.of (rg_val _)) (Evn.const _)) ?_
   rw [decide_eq_false hb]
   exact Evn.const _)
  (fun i hi hb u hu => by
   refine Evn.step (fun k => by rw [api_Hold__c31___.l0]) (Evn.pos (by omega) (Evn.pos (by omega) (Evn.pos (by omega) ?_)))
   rw [ld_def, w64 (by omega) (by omega)]
   refine Evn.bind (Evn.bind (Evn.of (rg_val _)) (Evn.const _)) ?_
   rw [decide_eq_true (Classical.not_not.1 hb)]
   exact hu) L.length 0 (by omega)
 exact Evn.of_eq (every_val (g := fun k => api_Hold__c31___.l0 k L (L.length : Int) ((0 : Nat) : Int)) hr he) (dec_eq Iff.rfl)
theorem e3_val (L : List S26) (hL : Small L) : Evn (fun k => override_Check_1__c35.f k L) (decide (¬ ∃ j, j < L.length ∧ ¬ Ty (ld L j))) := by
 have hlen := hL.1
 obtain ⟨r, hr, he⟩ := find (fun i => ¬ Ty (ld L i)) (fun k i => api_Hold__c31_____.l0 k L (L.length : Int) i) L.length
  (Evn.step (fun k => by rw [api_Hold__c31_____.l0]) (Evn.neg (by omega) (Evn.const _)))
  (fun i hi hb => by
   refine Evn.step (fun k => by rw [api_Hold__c31_____.l0]) (Evn.pos (by omega) (Evn.pos (by omega) (Evn.pos (by omega) ?_)))
   rw [ld_def]
   refine Evn.bind (Evn.bind (Evn.of (ty_val _)) (Evn.const _)) ?_
   rw [decide_eq_false hb]
   exact Evn.const _)
  (fun i hi hb u hu => by
   refine Evn.step (fun k => by rw [api_Hold__c31_____.l0]) (Evn.pos (by omega) (Evn.pos (by omega) (Evn.pos (by omega) ?_)))
   rw [ld_def, w64 (by omega) (by omega)]
   refine Evn.bind (Evn.bind (Evn.of (ty_val _)) (Evn.const _)) ?_
   rw [decide_eq_true (Classical.not_not.1 hb)]
   exact hu) L.length 0 (by omega)
 exact Evn.of_eq (every_val (g := fun k => api_Hold__c31_____.l0 k L (L.length : Int) ((0 : Nat) : Int)) hr he) (dec_eq Iff.rfl)
theorem c36_val (L : List S26) (hL : L.length ≤ 100000) (x : S26) : Evn (fun k => api_Hold__c36.f k L x.f0 x.f1 x.f2 x.f3.f0 x.f3.f1 x.f4) (decide (∃ j, j < L.length ∧ (ld L j).f4 = x.f4)) := by
 obtain ⟨r, hr, he⟩ := find (fun i => (ld L i).f4 = x.f4) (fun k i => api_Hold__c36_.l0 k L (L.length : Int) i x.f0 x.f1 x.f2 x.f3.f0 x.f3.f1 x.f4) L.length
  (Evn.step (fun k => by rw [api_Hold__c36_.l0]) (Evn.neg (by omega) (Evn.const _)))
  (fun i hi hb => by
   refine Evn.step (fun k => by rw [api_Hold__c36_.l0]) (Evn.pos (by omega) (Evn.pos (by omega) (Evn.pos (by omega) ?_)))
   rw [ld_def]
   refine Evn.bind (Evn.const ((ld L i).f4 == x.f4)) ?_
   rw [beq_iff_eq.2 hb]
   exact Evn.const _)
  (fun i hi hb u hu => by
   refine Evn.step (fun k => by rw [api_Hold__c36_.l0]) (Evn.pos (by omega) (Evn.pos (by omega) (Evn.pos (by omega) ?_)))
   rw [ld_def, w64 (by omega) (by omega)]
   refine Evn.bind (Evn.const ((ld L i).f4 == x.f4)) ?_
   rw [beq_eq_false_iff_ne.2 hb]
   exact hu) L.length 0 (by omega)
 refine Evn.bind (g := fun k => api_Hold__c36_.l0 k L (L.length : Int) ((0 : Nat) : Int) x.f0 x.f1 x.f2 x.f3.f0 x.f3.f1 x.f4) hr (Evn.of_eq (Evn.const _) ?_)
 rw [ex0] at he
 exact dec_eq he
theorem nlt_iff (x y : S26) : Op.bytesLess x.f0.toList y.f0.toList = true ↔ nlt x y := bless _ _
theorem dq_val (L : List S26) (hL : Small L) : Evn (fun k => override_Check.l0 k L (L.length : Int) 0 L) (if ∃ j, j < L.length ∧ Dq L j then 5 else 0) := by
 have hlen := hL.1
 have hj : ∀ (i : Nat) (b : Bool), i < L.length → ∀ u, (b = false → Evn (fun k => override_Check.l0 k L (L.length : Int) ((i : Int) + 1) L) u) → (b = true → u = 5) → Evn (fun k => override_Check.j1 k L (L.length : Int) (i : Int) b L) u := by
  intro i b hi u h1 h2
  refine Evn.step (fun k => by rw [override_Check.j1]) ?_
  cases b with
  | true =>
   rw [h2 rfl]
   exact Evn.pos rfl (Evn.const _)
  | false =>
   rw [w64 (by omega) (by omega)]
   exact Evn.neg (by decide) (h1 rfl)
 have hc : ∀ i : Nat, i < L.length → Evn (fun k => api_Hold__c36.f k (L.take i) (ld L i).f0 (ld L i).f1 (ld L i).f2 (ld L i).f3.f0 (ld L i).f3.f1 (ld L i).f4) (decide (∃ j, j < i ∧ (ld L j).f4 = (ld L i).f4)) := by
  intro i hi
  refine Evn.of_eq (c36_val (L.take i) (by rw [List.length_take]; omega) (ld L i)) ?_
  rw [decide_eq_decide, List.length_take, Nat.min_eq_left (by omega)]
  constructor
  ·rintro ⟨j, h1, h2⟩
   exact ⟨j, h1, by rw [← ld_take L i j h1]; exact h2⟩
  ·rintro ⟨j, h1, h2⟩
   exact ⟨j, h1, by rw [ld_take L i j h1]; exact h2⟩
 have hstep : ∀ i : Nat, i < L.length → ∀ u, (¬ Dq L i → Evn (fun k => override_Check.l0 k L (L.length : Int) ((i : Int) + 1) L) u) → (Dq L i → u = 5) → Evn (fun k => override_Check.l0 k L (L.length : Int) (i : Int) L) u := by
  intro i hi u h1 h2
  refine Evn.step (fun k => by rw [override_Check.l0]) (Evn.pos (by omega) (Evn.pos (by omega) (Evn.pos (by omega) ?_)))
  simp only [ld_def, Int.toNat_natCast]
  refine Evn.ite (fun h0 => ?_) (fun h0 => ?_)
  ·rw [w64 (by omega) (by omega)]
   have ei : ((i : Int) - 1) = ((i - 1 : Nat) : Int) := by omega
   rw [ei]
   simp only [ld_def]
   refine Evn.pos (by omega) (Evn.pos (by omega) (Evn.ite (fun hlt => ?_) (fun hlt => ?_)))
   ·refine Evn.pos (by omega) (Evn.bind (hc i hi) (hj i _ hi u (fun hb => h1 ?_) (fun hb => h2 ?_)))
    ·rw [decide_eq_false_iff_not] at hb
     rintro (⟨_, h⟩ | h)
     ·exact h ((nlt_iff _ _).1 hlt)
     ·exact hb h
    ·exact .inr (of_decide_eq_true hb)
   ·exact hj i _ hi u (fun hb => by cases hb) (fun _ => h2 (.inl ⟨by omega, fun h => hlt ((nlt_iff _ _).2 h)⟩))
  ·refine Evn.pos (by omega) (Evn.bind (hc i hi) (hj i _ hi u (fun hb => h1 ?_) (fun hb => h2 ?_)))
   ·rw [decide_eq_false_iff_not] at hb
    rintro (⟨h, _⟩ | h)
    ·omega
    ·exact hb h
   ·exact .inr (of_decide_eq_true hb)
 refine Evn.of_eq (search (Dq L) (fun k i => override_Check.l0 k L (L.length : Int) i L) L.length (e := 5) (v := 0)
  (Evn.step (fun k => by rw [override_Check.l0]) (Evn.neg (by omega) (Evn.const _)))
  (fun i hi hb => hstep i hi 5 (fun h => absurd hb h) (fun _ => rfl)) (fun i hi hb u hu => hstep i hi u (fun _ => hu) (fun h => absurd h hb)) L.length 0 (by omega)) ?_
 by_cases h : ∃ j, j < L.length ∧ Dq L j
 ·rw [if_pos h, if_pos (ex0.2 h)]
 ·rw [if_neg h, if_neg (fun h2 => h (ex0.1 h2))]
theorem check_val (L : List S26) (hL : Small L) : Evn (fun k => override_Check.f k L) (errOf L) := by
 unfold override_Check.f errOf
 refine Evn.ite (fun h => ?_) (fun h => ?_)
 ·rw [if_pos (by omega)]
  exact Evn.const _
 ·rw [if_neg (by omega)]
  refine Evn.bind (e1_val L hL) ?_
  by_cases h1 : ∃ j, j < L.length ∧ ¬ NameOk (ld L j).f0
  ·rw [if_pos h1, decide_eq_false (fun hn => hn h1)]
   exact Evn.neg (by decide) (Evn.const _)
  ·rw [if_neg h1, decide_eq_true h1]
   refine Evn.pos rfl (Evn.bind (e2_val L hL) ?_)
   by_cases h2 : ∃ j, j < L.length ∧ ¬ Rg (ld L j)
   ·rw [if_pos h2, decide_eq_false (fun hn => hn h2)]
    exact Evn.neg (by decide) (Evn.const _)
   ·rw [if_neg h2, decide_eq_true h2]
    refine Evn.pos rfl (Evn.bind (e3_val L hL) ?_)
    by_cases h3 : ∃ j, j < L.length ∧ ¬ Ty (ld L j)
    ·rw [if_pos h3, decide_eq_false (fun hn => hn h3)]
     exact Evn.neg (by decide) (Evn.const _)
    ·rw [if_neg h3, decide_eq_true h3]
     refine Evn.pos rfl (Evn.of_eq (dq_val L hL) ?_)
     by_cases h4 : ∃ j, j < L.length ∧ Dq L j
     ·rw [if_pos h4, if_pos ((dq_dp L _).1 h4)]
     ·rw [if_neg h4, if_neg (fun h5 => h4 ((dq_dp L _).2 h5))]
end
end Go.Proofs.Ytaoicdkjjjlmeaa.PD34
namespace Go.Proofs.Ytaoicdkjjjlmeaa.PD34
open Go.RowKit Go.Proofs.YtaoicdkjjjlmeaaW.PrintWords Go.Proofs.YtaoicdkjjjlmeaaW.PrintLast Go.Proofs.YtaoicdkjjjlmeaaW.PrintMore
open Go.Proofs.YtaoicdkjjjlmeaaX
section
open Classical
theorem in_val (a b c : Int) : plenumref34_in.f a b c = some (decide (b ≤ a ∧ a ≤ c)) := by
 unfold plenumref34_in.f
 split
 ·congr 1
  exact dec_eq (by omega)
 ·congr 1
  exact dec_no (by omega)
theorem r4_val (L : List S26) (hL : Small L) (i : Nat) (hi : i < L.length) (u : Int) (h1 : ¬ Dp L i → Evn (fun k => plenumref34_Check.l3 k L ((i : Int) + 1)) u) (h2 : Dp L i → u = 5) : Evn (fun k => plenumref34_Check.l4 k L (i : Int) 0) u := by
 have hlen := hL.1
 have hs := search (fun j => (ld L j).f4 = (ld L i).f4 ∨ ¬ nlt (ld L j) (ld L i)) (fun k j => plenumref34_Check.l4 k L (i : Int) j) i (e := 5) (v := u)
 by_cases hd : Dp L i
 ·obtain rfl := h2 hd
  refine search1 (fun j => (ld L j).f4 = (ld L i).f4 ∨ ¬ nlt (ld L j) (ld L i)) (fun k j => plenumref34_Check.l4 k L (i : Int) j) i (e := 5) ?_ ?_ i 0 (by omega) ?_
  ·intro j hj hb
   refine Evn.step (fun k => by rw [plenumref34_Check.l4]) (Evn.pos (by omega) (Evn.pos (by omega) (Evn.pos (by omega) (Evn.pos (by omega) (Evn.pos (by omega) ?_)))))
   simp only [ld_def]
   refine Evn.ite (fun _ => Evn.const _) (fun hq => Evn.neg (fun hlt => ?_) (Evn.const _))
   rcases hb with hb | hb
   ·exact hq hb
   ·exact hb ((nlt_iff _ _).1 hlt)
  ·intro j hj hb w hw
   refine Evn.step (fun k => by rw [plenumref34_Check.l4]) (Evn.pos (by omega) (Evn.pos (by omega) (Evn.pos (by omega) (Evn.pos (by omega) (Evn.pos (by omega) ?_)))))
   simp only [ld_def]
   rw [w64 (by omega) (by omega)]
   refine Evn.neg (fun he => hb (.inl he)) (Evn.pos ((nlt_iff _ _).2 ?_) hw)
   by_cases hn : nlt (ld L j) (ld L i)
   ·exact hn
   ·exact absurd (.inr hn) hb
  ·obtain ⟨j, hj, hb⟩ := hd
   exact ⟨j, Nat.zero_le _, hj, hb⟩
 ·have hu := h1 hd
  have := search (fun j => (ld L j).f4 = (ld L i).f4 ∨ ¬ nlt (ld L j) (ld L i)) (fun k j => plenumref34_Check.l4 k L (i : Int) j) i (e := u) (v := u)
   (Evn.step (fun k => by rw [plenumref34_Check.l4]) (Evn.neg (by omega) (by rw [w64 (by omega) (by omega)]; exact hu)))
   (fun j hj hb => absurd ⟨j, hj, hb⟩ hd)
   (fun j hj hb w hw => by
    refine Evn.step (fun k => by rw [plenumref34_Check.l4]) (Evn.pos (by omega) (Evn.pos (by omega) (Evn.pos (by omega) (Evn.pos (by omega) (Evn.pos (by omega) ?_)))))
    simp only [ld_def]
    rw [w64 (by omega) (by omega)]
    refine Evn.neg (fun he => hb (.inl he)) (Evn.pos ((nlt_iff _ _).2 ?_) hw)
    by_cases hn : nlt (ld L j) (ld L i)
    ·exact hn
    ·exact absurd (.inr hn) hb) i 0 (by omega)
  rw [ite_self] at this
  exact this
theorem r3_val (L : List S26) (hL : Small L) : Evn (fun k => plenumref34_Check.l3 k L 0) (if ∃ j, j < L.length ∧ Dp L j then 5 else 0) := by
 have hlen := hL.1
 refine Evn.of_eq (search (Dp L) (fun k i => plenumref34_Check.l3 k L i) L.length (e := 5) (v := 0)
  (Evn.step (fun k => by rw [plenumref34_Check.l3]) (Evn.neg (by omega) (Evn.const _)))
  (fun i hi hb => Evn.step (fun k => by rw [plenumref34_Check.l3]) (Evn.pos (by omega) (r4_val L hL i hi 5 (fun h => absurd hb h) (fun _ => rfl))))
  (fun i hi hb u hu => Evn.step (fun k => by rw [plenumref34_Check.l3]) (Evn.pos (by omega) (r4_val L hL i hi u (fun _ => hu) (fun h => absurd h hb)))) L.length 0 (by omega)) ?_
 by_cases h : ∃ j, j < L.length ∧ Dp L j
 ·rw [if_pos h, if_pos (ex0.2 h)]
 ·rw [if_neg h, if_neg (fun h2 => h (ex0.1 h2))]
theorem chain (P : Nat → Prop) (f : Nat → Int → Option Int) (n : Nat) (e v : Int) {inst : Decidable (∃ j, j < n ∧ P j)} (hend : Evn (fun k => f k (n : Int)) v) (hbad : ∀ i : Nat, i < n → P i → Evn (fun k => f k (i : Int)) e)
  (hnext : ∀ i : Nat, i < n → ¬ P i → ∀ u, Evn (fun k => f k ((i : Int) + 1)) u → Evn (fun k => f k (i : Int)) u) : Evn (fun k => f k 0) (@ite Int (∃ j, j < n ∧ P j) inst e v) := by
 refine Evn.of_eq (search P f n hend hbad hnext n 0 (by omega)) ?_
 by_cases h : ∃ j, j < n ∧ P j
 ·rw [if_pos h, if_pos (ex0.2 h)]
 ·rw [if_neg h, if_neg (fun h2 => h (ex0.1 h2))]
theorem refcheck_val (L : List S26) (hL : Small L) : Evn (fun k => plenumref34_Check.f k L) (errOf L) := by
 have hlen := hL.1
 unfold plenumref34_Check.f errOf
 refine Evn.ite (fun h => ?_) (fun h => ?_)
 ·rw [if_pos (by omega)]
  exact Evn.const _
 ·rw [if_neg (by omega)]
  have h2 : Evn (fun k => plenumref34_Check.l2 k L 0) (if ∃ j, j < L.length ∧ ¬ Ty (ld L j) then 11 else if ∃ j, j < L.length ∧ Dp L j then 5 else 0) := by
   refine chain (fun j => ¬ Ty (ld L j)) (fun k i => plenumref34_Check.l2 k L i) L.length _ _ (Evn.step (fun k => by rw [plenumref34_Check.l2]) (Evn.neg (by omega) (r3_val L hL))) ?_ ?_
   ·intro i hi hb
    refine Evn.step (fun k => by rw [plenumref34_Check.l2]) (Evn.pos (by omega) (Evn.pos (by omega) (Evn.bind (Evn.of (in_val _ _ _)) (Evn.neg ?_ (Evn.const _)))))
    intro hd; have hd := of_decide_eq_true hd; exact hb hd
   ·intro i hi hb u hu
    refine Evn.step (fun k => by rw [plenumref34_Check.l2]) (Evn.pos (by omega) (Evn.pos (by omega) (Evn.bind (Evn.of (in_val _ _ _)) (Evn.pos ?_ ?_))))
    ·exact decide_eq_true (Classical.not_not.1 hb)
    ·rw [w64 (by omega) (by omega)]
     exact hu
  have hj2 : ∀ (i : Nat) (b : Bool), i < L.length → ∀ u, (b = false → Evn (fun k => plenumref34_Check.l1 k L ((i : Int) + 1)) u) → (b = true → u = 6) → Evn (fun k => plenumref34_Check.j2 k L (i : Int) b) u := by
   intro i b hi u h1 h2
   refine Evn.step (fun k => by rw [plenumref34_Check.j2]) ?_
   cases b with
   | true =>
    rw [h2 rfl]
    exact Evn.pos rfl (Evn.const _)
   | false =>
    rw [w64 (by omega) (by omega)]
    exact Evn.neg (by decide) (h1 rfl)
  have hs1 : ∀ (i : Nat), i < L.length → ∀ u, (Rg (ld L i) → Evn (fun k => plenumref34_Check.l1 k L ((i : Int) + 1)) u) → (¬ Rg (ld L i) → u = 6) → Evn (fun k => plenumref34_Check.l1 k L (i : Int)) u := by
   intro i hi u h1 h2
   refine Evn.step (fun k => by rw [plenumref34_Check.l1]) (Evn.pos (by omega) (Evn.pos (by omega) (Evn.bind (Evn.of (in_val _ _ _)) ?_)))
   simp only [ld_def]
   refine Evn.ite (fun g1 => Evn.bind (Evn.of (in_val _ _ _)) (Evn.ite (fun g2 => Evn.ite (fun g3 => hj2 i _ hi u (fun h => by cases h) (fun _ => h2 ?_)) (fun g3 => Evn.bind (Evn.of (in_val _ _ _)) (hj2 i _ hi u (fun h => h1 ?_) (fun h => h2 ?_)))) (fun g2 => hj2 i _ hi u (fun h => by cases h) (fun _ => h2 ?_)))) (fun g1 => hj2 i _ hi u (fun h => by cases h) (fun _ => h2 ?_))
   ·have g1 := of_decide_eq_true g1
    have g2 := of_decide_eq_true g2
    unfold Rg
    omega
   ·have g1 := of_decide_eq_true g1
    have g2 := of_decide_eq_true g2
    rw [Bool.not_eq_false'] at h
    have h := of_decide_eq_true h
    unfold Rg
    omega
   ·have g1 := of_decide_eq_true g1
    have g2 := of_decide_eq_true g2
    rw [Bool.not_eq_true'] at h
    have h := of_decide_eq_false h
    unfold Rg
    omega
   ·have g1 := of_decide_eq_true g1
    have g2 : ¬ (0 ≤ (ld L i).f2 ∧ (ld L i).f2 ≤ 6311433600) := fun hp => g2 (decide_eq_true hp)
    unfold Rg
    omega
   ·have g1 : ¬ (0 ≤ (ld L i).f1 ∧ (ld L i).f1 ≤ 6311433600) := fun hp => g1 (decide_eq_true hp)
    unfold Rg
    omega
  have h1 : Evn (fun k => plenumref34_Check.l1 k L 0) (if ∃ j, j < L.length ∧ ¬ Rg (ld L j) then 6 else if ∃ j, j < L.length ∧ ¬ Ty (ld L j) then 11 else if ∃ j, j < L.length ∧ Dp L j then 5 else 0) := by
   refine chain (fun j => ¬ Rg (ld L j)) (fun k i => plenumref34_Check.l1 k L i) L.length _ _ (Evn.step (fun k => by rw [plenumref34_Check.l1]) (Evn.neg (by omega) h2)) ?_ ?_
   ·intro i hi hb
    exact hs1 i hi 6 (fun h => absurd h hb) (fun _ => rfl)
   ·intro i hi hb u hu
    exact hs1 i hi u (fun _ => hu) (fun h => absurd h hb)
  refine chain (fun j => ¬ NameOk (ld L j).f0) (fun k i => plenumref34_Check.l0 k L i) L.length _ _ (Evn.step (fun k => by rw [plenumref34_Check.l0]) (Evn.neg (by omega) h1)) ?_ ?_
  ·intro i hi hb
   refine Evn.step (fun k => by rw [plenumref34_Check.l0]) (Evn.pos (by omega) (Evn.pos (by omega) ?_))
   rw [ld_def]
   refine Evn.bind (refname_val _ (hL.2 i)) (Evn.neg ?_ (Evn.const _))
   intro hd; have hd := of_decide_eq_true hd; exact hb hd
  ·intro i hi hb u hu
   refine Evn.step (fun k => by rw [plenumref34_Check.l0]) (Evn.pos (by omega) (Evn.pos (by omega) ?_))
   rw [ld_def]
   refine Evn.bind (refname_val _ (hL.2 i)) (Evn.pos ?_ ?_)
   ·exact decide_eq_true (Classical.not_not.1 hb)
   ·rw [w64 (by omega) (by omega)]
    exact hu
def FewP (L : List S26) : Prop := L.length ≤ 70 ∧ ∀ j, j < L.length → ((ld L j).f0.size : Int) ≤ 100
theorem few_val (L : List S26) : Evn (fun k => plenumref34_Few.f k L) (decide (FewP L)) := by
 unfold plenumref34_Few.f
 refine Evn.ite (fun h => Evn.of_eq (Evn.const _) (dec_no (fun hf => by have := hf.1; omega))) (fun h => ?_)
 refine Evn.of_eq (search (fun i => 100 < ((ld L i).f0.size : Int)) (fun k i => plenumref34_Few.l0 k L i) L.length (e := false) (v := true)
  (Evn.step (fun k => by rw [plenumref34_Few.l0]) (Evn.neg (by omega) (Evn.const _)))
  (fun i hi hb => by
   refine Evn.step (fun k => by rw [plenumref34_Few.l0]) (Evn.pos (by omega) (Evn.pos (by omega) (Evn.pos ?_ (Evn.const _))))
   rw [ld_def]
   exact hb)
  (fun i hi hb u hu => by
   refine Evn.step (fun k => by rw [plenumref34_Few.l0]) (Evn.pos (by omega) (Evn.pos (by omega) (Evn.neg ?_ ?_)))
   ·rw [ld_def]
    exact hb
   ·rw [w64 (by omega) (by omega)]
    exact hu) L.length 0 (by omega)) ?_
 by_cases hb : ∃ j, j < L.length ∧ 100 < ((ld L j).f0.size : Int)
 ·rw [if_pos (ex0.2 hb)]
  obtain ⟨j, h1, h2⟩ := hb
  exact dec_no (fun hf => by have := hf.2 j h1; omega)
 ·rw [if_neg (fun h2 => hb (ex0.1 h2))]
  refine (decide_eq_true ?_).symm
  refine ⟨by omega, fun j hj => ?_⟩
  by_cases h3 : 100 < ((ld L j).f0.size : Int)
  ·exact absurd ⟨j, hj, h3⟩ hb
  ·omega
theorem small_of {L : List S26} (h : FewP L) : Small L := by
 refine ⟨by have := h.1; omega, fun i => ?_⟩
 rcases Nat.lt_or_ge i L.length with hi | hi
 ·have := h.2 i hi
  omega
 ·have e : ld L i = z26 := by
   show L.getD (i : Int).toNat z26 = z26
   rw [Int.toNat_natCast, List.getD_eq_getElem?_getD, List.getElem?_eq_none hi]
   rfl
  rw [e]
  exact (by decide : (0 : Nat) ≤ 1000)
end
end Go.Proofs.Ytaoicdkjjjlmeaa.PD34
namespace Go.Proofs.Ytaoicdkjjjlmeaa.PD34
open Go.RowKit Go.Proofs.YtaoicdkjjjlmeaaW.PrintWords Go.Proofs.YtaoicdkjjjlmeaaW.PrintLast Go.Proofs.YtaoicdkjjjlmeaaW.PrintMore
open Go.Proofs.YtaoicdkjjjlmeaaX
def two : List S26 := [(⟨(⟨#[97]⟩ : ByteArray), 100, 200, (⟨2, 1⟩ : S24), 1⟩ : S26), (⟨(⟨#[98]⟩ : ByteArray), 150, 160, (⟨2, 1⟩ : S24), 2⟩ : S26)]
theorem sorted4 : ([100, 200, 150, 160] : List Int).mergeSort (fun x y => decide (x ≤ y)) = [100, 150, 160, 200] := by
 simp [List.mergeSort, List.MergeSort.Internal.splitInTwo]
theorem sort4 : slices_Sort_int_int.f [100, 200, 150, 160] = some [100, 150, 160, 200] := by
 unfold slices_Sort_int_int.f
 rw [sorted4]
 rfl
theorem ends60 : override_ends.f 60 two = some [100, 150, 160, 200] := by
 have h : override_ends.f 60 two = (slices_Sort_int_int.f [100, 200, 150, 160]).bind fun t => some t := by kernel_rfl
 rw [h, sort4]
 rfl
theorem pieces60 : override_Pieces.f 60 two 140 210 = some ([⟨140, 150, 0⟩, ⟨150, 160, 1⟩, ⟨160, 200, 0⟩, ⟨200, 210, -1⟩], 0) := by
 unfold override_Pieces.f
 rw [ends60]
 kernel_rfl
theorem next60 : override_Next.f 60 two 140 = some (150, 0) := by
 unfold override_Next.f
 rw [ends60]
 kernel_rfl
theorem next60b : override_Next.f 60 two 200 = some (0, 9) := by
 unfold override_Next.f
 rw [ends60]
 kernel_rfl
theorem awake60 : plenumlaw34_awake.f 60 = some true := by
 unfold plenumlaw34_awake.f
 rw [Option.bind_some]
 show (override_Pieces.f 60 two 140 210).bind _ = _
 rw [pieces60, Option.bind_some]
 show (override_Next.f 60 two 140).bind _ = _
 rw [next60, Option.bind_some]
 show (override_Next.f 60 two 200).bind _ = _
 rw [next60b, Option.bind_some]
 kernel_rfl
theorem awake_val : Evn (fun k => plenumlaw34_awake.f k) true := by
 refine ⟨60, fun k hk => ?_⟩
 obtain ⟨d, rfl⟩ : ∃ d, k = 60 + d := ⟨k - 60, by omega⟩
 induction d with
 | zero => exact awake60
 | succ d ih => exact plenumlaw34_awake.mono (60 + d) true (ih (by omega))
theorem pieces_no {L : List S26} {a b e : Int} (h : Evn (fun k => override_Check.f k L) e) (he : e ≠ 0) : Evn (fun k => override_Pieces.f k L a b) ([], e) := by
 unfold override_Pieces.f
 exact Evn.bind h (Evn.neg he (Evn.const _))
theorem next_no {L : List S26} {a e : Int} (h : Evn (fun k => override_Check.f k L) e) (he : e ≠ 0) : Evn (fun k => override_Next.f k L a) (0, e) := by
 unfold override_Next.f
 exact Evn.bind h (Evn.neg he (Evn.const _))
theorem add_no {L : List S26} {x : S26} {e : Int} (h : Evn (fun k => override_Check.f k L) e) (he : e ≠ 0) : Evn (fun k => override_Add.f k L x.f0 x.f1 x.f2 x.f3.f0 x.f3.f1 x.f4) ([], e) := by
 unfold override_Add.f
 exact Evn.bind h (Evn.neg he (Evn.const _))
theorem remove_no {L : List S26} {s : ByteArray} {e : Int} (h : Evn (fun k => override_Check.f k L) e) (he : e ≠ 0) : Evn (fun k => override_Remove.f k L s) ([], e) := by
 unfold override_Remove.f
 exact Evn.bind h (Evn.neg he (Evn.const _))
theorem at_no {L : List S26} {a e : Int} (h : Evn (fun k => override_Check.f k L) e) (he : e ≠ 0) : Evn (fun k => override_At.f k L a) (-1) := by
 unfold override_At.f
 exact Evn.bind h (Evn.neg he (Evn.const _))
theorem value_no {L : List S26} {a b c e : Int} (h : Evn (fun k => override_Check.f k L) e) (he : e ≠ 0) : Evn (fun k => override_Value.f k L a b c) (b, c) := by
 unfold override_Value.f
 exact Evn.bind (at_no h he) (Evn.neg (by decide) (Evn.const _))
theorem expire_no {L : List S26} {a e : Int} (h : Evn (fun k => override_Check.f k L) e) (he : e ≠ 0) : Evn (fun k => override_Expire.f k L a) [] := by
 unfold override_Expire.f
 exact Evn.bind h (Evn.neg he (Evn.const _))
end Go.Proofs.Ytaoicdkjjjlmeaa.PD34
namespace Go.Proofs.Ytaoicdkjjjlmeaa.PD34
open Go.RowKit Go.Proofs.YtaoicdkjjjlmeaaW.PrintWords Go.Proofs.YtaoicdkjjjlmeaaW.PrintLast Go.Proofs.YtaoicdkjjjlmeaaW.PrintMore
open Go.Proofs.YtaoicdkjjjlmeaaX
open Classical in
theorem checks_val (L : List S26) (at_ : Int) : Evn (fun k => plenumlaw34_OverrideChecks.f k L at_) true := by
 unfold plenumlaw34_OverrideChecks.f
 refine Evn.bind awake_val (Evn.pos rfl (Evn.bind (few_val L) (Evn.ite (fun hf => ?_) (fun _ => Evn.const _))))
 have hS := small_of (of_decide_eq_true hf)
 have hc := check_val L hS
 refine Evn.bind (refcheck_val L hS) (Evn.bind hc (Evn.pos rfl (Evn.ite (fun _ => Evn.const _) (fun he => ?_))))
 refine Evn.bind (pieces_no hc he) (Evn.bind (next_no hc he) (Evn.bind (add_no (x := ⟨⟨#[]⟩, 0, 0, ⟨0, 0⟩, 0⟩) hc he) (Evn.bind (remove_no hc he) ?_)))
 refine Evn.pos rfl (Evn.pos rfl (Evn.pos rfl (Evn.pos rfl (Evn.pos rfl (Evn.pos rfl (Evn.pos rfl (Evn.pos rfl ?_)))))))
 refine Evn.bind (at_no hc he) (Evn.pos rfl (Evn.bind (value_no hc he) (Evn.pos rfl (Evn.bind (expire_no hc he) ?_))))
 exact Evn.of_eq (Evn.const _) rfl
def G24 (x : S24) : Prop := (Lit.int .i64 x.f0).wf = true ∧ (Lit.int .i64 x.f1).wf = true
def G26 (x : S26) : Prop := x.f0.size ≤ maxLen ∧ (Lit.int .i64 x.f1).wf = true ∧ (Lit.int .i64 x.f2).wf = true ∧ G24 x.f3 ∧ (Lit.int .i64 x.f4).wf = true
theorem pureChecks (L : List S26) (at_ : Int) (_ : L.length ≤ maxLen ∧ ∀ y, y ∈ L → G26 y) (_ : (Lit.int .i64 at_).wf = true) : ∃ k, plenumlaw34_OverrideChecks.f k L at_ = some true := Evn.ex (checks_val L at_)
end Go.Proofs.Ytaoicdkjjjlmeaa.PD34
namespace Go.Proofs.YtaoicdkjjjlmeaaX
open Go.RowKit Go.Deep Go.Proofs.YtaoicdkjjjlmeaaW.PrintWords Go.Proofs.YtaoicdkjjjlmeaaW.PrintLast Go.Proofs.YtaoicdkjjjlmeaaW.PrintMore
section
variable {H : Type} {enc : TypeId × Value → H} {W : World}
def Opens {α : Type} (enc : TypeId × Value → H) (W : World) (kd : Kd α) (t : TypeId) (G : α → Prop) : Prop :=
 ∀ (fuel : Nat) (cs : List Value) (x : DataW H × List MemPlace), DataW.trod enc Try.prog W 0 (fun _ => true) true fuel t cs = some x → ∃ a, kd.K W a cs ∧ G a
theorem opens_int {t : TypeId} {k : IntKind} (ht : Try.prog.underlying t = some (.int k)) : Opens enc W (Kd.int k) t (fun n => (Lit.int k n).wf = true) := by
 intro fuel cs x h
 obtain ⟨n, rfl, _, hw⟩ := DataW.trod_int ht h
 exact ⟨n, rfl, hw⟩
theorem opens_bool {t : TypeId} (ht : Try.prog.underlying t = some .bool) : Opens enc W Kd.bool t (fun _ => True) := by
 intro fuel cs x h
 obtain ⟨b, rfl, _⟩ := DataW.trod_bool ht h
 exact ⟨b, rfl, trivial⟩
theorem opens_string {t : TypeId} (ht : Try.prog.underlying t = some .string) : Opens enc W Kd.string t (fun s => s.size ≤ maxLen) := by
 intro fuel cs x h
 obtain ⟨s, rfl, _, hs⟩ := DataW.trod_string ht h
 exact ⟨s, rfl, hs⟩
theorem opens_slice {α : Type} {kd : Kd α} {t e : TypeId} {G : α → Prop} (ht : Try.prog.underlying t = some (.slice e)) (hc : Try.prog.cellsOf e = kd.sz) (hG : Opens enc W kd e G) :
  Opens enc W (Kd.slice e kd) t (fun l => l.length ≤ maxLen ∧ ∀ x, x ∈ l → G x) := by
 intro fuel cs x h
 rcases open_slice ht h with ⟨rfl, _⟩ | ⟨a, len, cap, m, n, D, Pl, rfl, _, hl, hm, hmm, _, hx⟩
 ·refine ⟨[], ⟨none, 0, rfl, Nat.le_refl _, rfl, by simp, fun hp => absurd hp (by simp)⟩, by simp, fun x hx => by simp at hx⟩
 ·have hlm : len ≤ m := by rw [hmm]; split <;> omega
  have hV0 : ∀ i, i < len → ∃ q : α × List Value, W.cells? 0 (a.add (i * Try.prog.cellsOf e)) (Try.prog.cellsOf e) = some q.2 ∧ kd.K W q.1 q.2 ∧ G q.1 := by
   intro i hi
   obtain ⟨cs', h1, h2⟩ := hx i (by omega)
   obtain ⟨y, hy, hg⟩ := hG n cs' _ h2
   exact ⟨(y, cs'), h1, hy, hg⟩
  obtain ⟨V, hV⟩ : ∃ V : ∀ i, i < len → α × List Value, ∀ i (hi : i < len), W.cells? 0 (a.add (i * Try.prog.cellsOf e)) (Try.prog.cellsOf e) = some (V i hi).2 ∧ kd.K W (V i hi).1 (V i hi).2 ∧ G (V i hi).1 :=
   ⟨fun i hi => Classical.choose (hV0 i hi), fun i hi => Classical.choose_spec (hV0 i hi)⟩
  refine ⟨(List.finRange len).map fun i => (V i.val i.isLt).1, ⟨some a, cap, by simp, by simpa using hl, by simp, by simp only [List.length_map, List.length_finRange]; unfold maxLen at hm; omega, fun _ => ⟨a, rfl, ?_⟩⟩, by simp only [List.length_map, List.length_finRange]; omega, ?_⟩
  ·intro j p hj
   have hj' : j < len := by have := (List.getElem?_eq_some_iff.1 hj).1; simpa using this
   have hp : p = (V j hj').1 := by
    rw [List.getElem?_map, List.getElem?_eq_getElem (by simpa using hj')] at hj
    simp at hj
    exact hj.symm
   obtain ⟨h1, h2, _⟩ := hV j hj'
   obtain ⟨_, hlen, hcell⟩ := World.cells?_some h1
   subst hp
   refine ⟨(V j hj').2, by rw [hlen, hc], h2, fun i u hu => ?_⟩
   have hi : i < Try.prog.cellsOf e := by have := (List.getElem?_eq_some_iff.1 hu).1; omega
   have := hcell i hi
   rw [hu, hc] at this
   rw [← Go.Deep.add_add]
   exact this
  ·intro y hy
   obtain ⟨i, _, rfl⟩ := List.mem_map.1 hy
   exact (hV i.val i.isLt).2.2
def OpensAt {α : Type} (enc : TypeId × Value → H) (W : World) (kd : Kd α) (fs : Array Field) (i off : Nat) (G : α → Prop) : Prop :=
 ∀ cs : List Value, (∀ (j : Nat) (f : Field), fs[j]? = some f → i ≤ j → ∃ fuel x, DataW.trod enc Try.prog W 0 (fun _ => true) true fuel f.type ((cs.drop f.offset).take (Try.prog.cellsOf f.type)) = some x) → cs.length = off + kd.sz → ∃ a, kd.K W a (cs.drop off) ∧ G a
theorem opens_last {α : Type} {kd : Kd α} {fs : Array Field} {i off : Nat} {G : α → Prop} {f : Field} (hf : fs[i]? = some f) (ho : f.offset = off) (hc : Try.prog.cellsOf f.type = kd.sz) (h : Opens enc W kd f.type G) : OpensAt enc W kd fs i off G := by
 intro cs hcs hl
 obtain ⟨fuel, x, hx⟩ := hcs i f hf (Nat.le_refl _)
 rw [ho, hc, List.take_of_length_le (by simp; omega)] at hx
 exact h fuel _ _ hx
theorem opens_pair {α β : Type} {kd : Kd α} {kd2 : Kd β} {fs : Array Field} {i off : Nat} {G : α → Prop} {G2 : β → Prop} {f : Field} (hf : fs[i]? = some f) (ho : f.offset = off) (hc : Try.prog.cellsOf f.type = kd.sz) (h : Opens enc W kd f.type G)
  (h2 : OpensAt enc W kd2 fs (i + 1) (off + kd.sz) G2) : OpensAt enc W (Kd.pair kd kd2) fs i off (fun p => G p.1 ∧ G2 p.2) := by
 intro cs hcs hl
 obtain ⟨fuel, x, hx⟩ := hcs i f hf (Nat.le_refl _)
 rw [ho, hc] at hx
 obtain ⟨a, ha, hg⟩ := h fuel _ _ hx
 have hl' : cs.length = off + kd.sz + kd2.sz := by
  have : (Kd.pair kd kd2).sz = kd.sz + kd2.sz := rfl
  omega
 obtain ⟨b, hb, hg2⟩ := h2 cs (fun j f hf hj => hcs j f hf (by omega)) hl'
 refine ⟨(a, b), ⟨_, _, ?_, ha, hb⟩, hg, hg2⟩
 rw [← List.drop_drop, List.take_append_drop]
theorem opens_struct {α : Type} {kd : Kd α} {t : TypeId} {fs : Array Field} {G : α → Prop} (ht : Try.prog.underlying t = some (.struct fs)) (hc : Try.prog.cellsOf t = kd.sz) (h : OpensAt enc W kd fs 0 0 G) : Opens enc W kd t G := by
 intro fuel cs x hx
 obtain ⟨xs, n, _, _, hlen, hxl, hf⟩ := DataW.trod_struct ht hx
 have := h cs (fun j f hj _ => by
  have hj' : j < xs.length := by have := (Array.getElem?_eq_some_iff.1 hj).1; omega
  exact ⟨n, xs[j], by rw [hf j f hj, List.getElem?_eq_getElem hj']⟩) (by omega)
 simpa using this
theorem opens_iso {α β : Type} {kd : Kd α} {t : TypeId} {G : α → Prop} (g : β → α) (f : α → β) (hgf : ∀ a, g (f a) = a) (h : Opens enc W kd t G) : Opens enc W (Kd.iso kd g) t (fun b => G (g b)) := by
 intro fuel cs x hx
 obtain ⟨a, ha, hg⟩ := h fuel cs x hx
 refine ⟨f a, ?_, ?_⟩
 ·show kd.K W (g (f a)) cs
  rw [hgf]
  exact ha
 ·show G (g (f a))
  rw [hgf]
  exact hg
theorem opens_arg {α : Type} {kd : Kd α} {t e : TypeId} {G : List α → Prop} {v : Value} {d : DataW H} {ps : List MemPlace} (h : Opens enc W (Kd.slice e kd) t G) (hv : ∃ A n c, v = .slice A n c) (hd : DataW.Trod enc Try.prog W 0 (fun _ => true) true t v d ps) :
  ∃ A l c, v = .slice A l.length c ∧ l.length ≤ c ∧ kd.C W A l.length l ∧ G l := by
 obtain ⟨A0, n, c0, rfl⟩ := hv
 obtain ⟨fuel, hx⟩ := hd
 obtain ⟨l, ⟨A, c, hcs, hl, hC⟩, hg⟩ := h fuel _ _ hx
 have : (Value.slice A0 n c0) = .slice A l.length c := by simpa [Value.cells] using hcs
 exact ⟨A, l, c, this, hl, hC, hg⟩
end
end Go.Proofs.YtaoicdkjjjlmeaaX
namespace Go.Proofs.Ytaoicdkjjjlmeaa.PD34
open Go.RowKit Go.Proofs.YtaoicdkjjjlmeaaX Go.Proofs.YtaoicdkjjjlmeaaW.PrintWords Go.Proofs.YtaoicdkjjjlmeaaW.PrintLast Go.Proofs.YtaoicdkjjjlmeaaW.PrintMore
theorem opens_k24 {H : Type} {enc : TypeId × Value → H} {W : World} : Opens enc W k24 24 G24 :=
 opens_iso (fun x : S24 => (x.f0, x.f1)) (fun p => ⟨p.1, p.2⟩) (fun _ => rfl) (opens_struct Try.underlying24 (by kernel_rfl) (opens_pair rfl rfl (by kernel_rfl) (opens_int Try.underlying3) (opens_last rfl rfl (by kernel_rfl) (opens_int Try.underlying2))))
theorem opens_k26 {H : Type} {enc : TypeId × Value → H} {W : World} : Opens enc W k26 26 G26 :=
 opens_iso (fun x : S26 => (x.f0, x.f1, x.f2, x.f3, x.f4)) (fun p => ⟨p.1, p.2.1, p.2.2.1, p.2.2.2.1, p.2.2.2.2⟩) (fun _ => rfl) (opens_struct Try.underlying26 (by kernel_rfl) (opens_pair rfl rfl (by kernel_rfl) (opens_string Try.underlying9) (opens_pair rfl rfl (by kernel_rfl) (opens_int Try.underlying3) (opens_pair rfl rfl (by kernel_rfl) (opens_int Try.underlying3) (opens_pair rfl rfl (by kernel_rfl) opens_k24 (opens_last rfl rfl (by kernel_rfl) (opens_int Try.underlying3)))))))
end Go.Proofs.Ytaoicdkjjjlmeaa.PD34
namespace Go.Proofs.Ytaoicdkjjjlmeaa.overrideChecks
open Go.ChangeShapes Go.WideShapes Go.ChangeAt Go.RowKit
open Go.ChangeMaps (open_string shut_string)
open Go.Proofs.YtaoicdkjjjlmeaaX Go.Proofs.Ytaoicdkjjjlmeaa.PD34 Go.Proofs.YtaoicdkjjjlmeaaW.PrintWords
theorem own : ownKnob Try.prog.godebug = none := by kernel_rfl
theorem laidOut : laidOutB Try.prog = true := by kernel_rfl
set_option maxRecDepth 100000 in
theorem lifted (os : Os) (started : os.Started) (H : Type) (enc : TypeId × Value → H) :
  ReturnsInHanded {} Try.checked os 5 .any (Rows.overrideChecksSpec.pre6 enc Try.prog Try.f5 Rows.overrideChecksRow.domain false) (Rows.overrideChecksSpec.post enc Try.prog Try.f5 false true false false) := by
 refine returnsInHanded_of_change_sized (C := Try.checked) own started (by kernel_rfl) Try.func5
  (ChangeSpec.witness6 (enc := enc) (C := Try.checked) false ⟨#[], #[.slice none 0 0, .int .i64 0], []⟩ 8 (by kernel_rfl) (by kernel_rfl) (by kernel_rfl) (by kernel_rfl)) ?_
 intro W base args ds gs before hval0 hW hcnd hsz0 _
 have hval : ∀ (j : Nat) t v, Try.f5.params[j]? = some t → args[j]? = some v → Value.okWide Try.prog W .any base t v := hval0
 have hW' := hW
 obtain ⟨p, q, hA0, hV, rfl, hfz, hnd⟩ := hW
 have hA : DataW.TrodAll enc Try.prog W 0 (fun _ => true) true Try.f5.params.toList args.toList ds p := hA0
 rw [Try.params5] at hA hval
 obtain ⟨v0, vs0, d0, ds0, p0, q0, hargs, rfl, rfl, h0, r0⟩ := trodAll_cons hA
 obtain ⟨v1, vs1, d1, ds1, p1, q1, rfl, rfl, rfl, h1, r1⟩ := trodAll_cons r0
 obtain ⟨rfl, rfl, rfl⟩ := trodAll_nil r1
 obtain rfl : args = #[v0, v1] := by cases args; simp_all
 obtain ⟨rfl, rfl⟩ := trodVars_none hV
 obtain ⟨a0, len0, cap0, rfl⟩ := okWide_slice Try.underlying22 (hval 0 22 v0 rfl rfl)
 have k0 := h0
 have lt0 : ∀ x ∈ p0, x.block < W.heap.size := by obtain ⟨m, hm⟩ := k0; exact DataW.trod_lt m _ _ _ hm
 obtain ⟨A0, l0, c0, e0, hc0, hC0, hG0⟩ := opens_arg (kd := k26) (G := fun l => l.length ≤ maxLen ∧ ∀ y, y ∈ l → G26 y) (opens_slice Try.underlying22 (by kernel_rfl) opens_k26) ⟨_, _, _, rfl⟩ h0
 cases e0
 obtain ⟨a1, rfl, rfl, rfl, w1⟩ := open_int Try.underlying3 (hval 1 3 v1 rfl rfl) h1
 obtain ⟨k, hk⟩ := pureChecks l0 a1 hG0 w1
 clear hA0 hval0 hsz0
 refine (PD34.plenumlaw34_OverrideChecks.calls k _ _ l0 a1 true W hC0 hc0 hk).mono fun e W' ⟨he, bel⟩ => ?_
 subst he
 exact ⟨_, rfl, _, _, _, [], _, [], hW', trodAll_mk1 (shut_bool Try.underlying4 _), (trodAll_cons_mk (Below.trod laidOut (by kernel_rfl) (of_decide_eq_true (by kernel_rfl)) k0 bel lt0) (trodAll_cons_mk (shut_int Try.underlying3 w1) trodAll_mk0)), rfl, bel.frame _, fun h => by cases h⟩
theorem over : Rows.overrideChecksRow.holds Try.pinned (OpenSpec.ofChange Rows.overrideChecksSpec) :=
 OpenClaim.holds_of_wide 5 Try.f5 rfl rfl rfl rfl rfl rfl rfl ⟨rfl, rfl, rfl, rfl, rfl⟩ rfl rfl rfl rfl rfl (by kernel_rfl) Try.func5 (by kernel_rfl)
  (of_decide_eq_true (by kernel_rfl)) (by unfold Func.isWrapper; first | (rw [if_pos (by decide +kernel)]; kernel_rfl) | (rw [if_neg (by decide +kernel)]; exact ⟨rfl, rfl⟩))
  (fun os started H enc _ => lifted os started H enc)
theorem proved : Rows.OverrideChecksSaid := over
end Go.Proofs.Ytaoicdkjjjlmeaa.overrideChecks
namespace Go.Proofs.Ytaoicdkjjjlmeaa
theorem overrideChecks_holds : Rows.OverrideChecksSaid := overrideChecks.proved
end Go.Proofs.Ytaoicdkjjjlmeaa
