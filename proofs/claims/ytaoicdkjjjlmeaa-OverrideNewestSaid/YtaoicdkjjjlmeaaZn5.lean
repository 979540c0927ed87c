/- THE LAW: see the last theorem; the walk through the program and the plain law, joined. Conditions: none. -/
import Derived.Test.YtaoicdkjjjlmeaaZn4
import Derived.ProofKit
import Derived.Deep.Slices
import Derived.ChangeSame
import Derived.Test.YtaoicdkjjjlmeaaRows
import Derived.OpenShut
import Derived.ShutString
import Derived.ChangeOld
set_option linter.unusedVariables false
set_option linter.unusedSimpArgs false
namespace Go.Proofs.Ytaoicdkjjjlmeaa.PD34
open Go.RowKit Go.Proofs.YtaoicdkjjjlmeaaW.PrintWords Go.Proofs.YtaoicdkjjjlmeaaW.PrintLast Go.Proofs.YtaoicdkjjjlmeaaW.PrintMore
attribute [local go_sem] max2_int min2_int max_two min_two max_three min_three max_four min_four
mutual
def plenumlaw34_OverrideEdits.j0 : Nat → List (S26) → ByteArray → Int → Bool → ByteArray → Int → Int → Int → Int → Int → Option (Bool)
 | 0,_,_,_,_,_,_,_,_,_,_ => none
 | k + 1,x0,x2,x3,x32,x383000,x383001,x383002,x383003,x383004,x383005 => if x32 = true then (some true) else ((override_Add.f k x0 x383000 x383001 x383002 x383003 x383004 x383005).bind fun bt389 => ((override_Remove.f k x0 x2).bind fun bt393 => ((plenumref34_Check.f k x0).bind fun t397 => (if t397 = 0 then ((plenumref34_Add.f k x0 x383000 x383001 x383002 x383003 x383004 x383005).bind fun t398 => ((plenumref34_Check.f k t398).bind fun t401 => (if t401 = 0 then (if bt389.2 = 0 then ((plenumref34_Same.f k bt389.1 t398).bind fun t402 => (if t402 = true then (plenumlaw34_OverrideEdits.j1 k x0 x2 x3 bt393.1 bt393.2) else (none))) else (none)) else (if bt389.2 = t401 then (if (bt389.1.length : Int) = 0 then (plenumlaw34_OverrideEdits.j1 k x0 x2 x3 bt393.1 bt393.2) else (none)) else (none))))) else (if bt389.2 = t397 then (some (bt393.2 == t397)) else (none))))))
def plenumlaw34_OverrideEdits.j1 : Nat → List (S26) → ByteArray → Int → List (S26) → Int → Option (Bool)
 | 0,_,_,_,_,_ => none
 | k + 1,x0,x2,x3,x11,x12 => (plenumref34_Remove.f k x0 x2).bind fun t403 => (if (t403.length : Int) = (x0.length : Int) then (if x12 = 9 then (if (x11.length : Int) = 0 then (plenumlaw34_OverrideEdits.j2 k x0 x3) else (none)) else (none)) else (if x12 = 0 then ((plenumref34_Same.f k x11 t403).bind fun t406 => (if t406 = true then (plenumlaw34_OverrideEdits.j2 k x0 x3) else (none))) else (none)))
def plenumlaw34_OverrideEdits.j2 : Nat → List (S26) → Int → Option (Bool)
 | 0,_,_ => none
 | k + 1,x0,x3 => (override_Expire.f k x0 x3).bind fun t407 => ((plenumref34_Expire.f k x0 x3).bind fun t410 => ((plenumref34_Same.f k t407 t410).bind fun t413 => (some t413)))
end
def plenumlaw34_OverrideEdits.f (k : Nat) (l0 : List (S26)) (a1_0 : ByteArray) (a1_1 : Int) (a1_2 : Int) (a1_3 : Int) (a1_4 : Int) (a1_5 : Int) (a2 : ByteArray) (a3 : Int) : Option (Bool) := (plenumlaw34_awake.f k).bind fun t383 => (if t383 = true then ((plenumref34_Few.f k l0).bind fun t384 => (if t384 = true then ((plenumref34_Few.f k (([(⟨a1_0,a1_1,a1_2,(⟨a1_3,a1_4⟩ : S24),a1_5⟩ : S26)] : List (S26)))).bind fun t388 => (if t388 = true then (plenumlaw34_OverrideEdits.j0 k l0 a2 a3 (decide ((a2.size : Int) > 100)) a1_0 a1_1 a1_2 a1_3 a1_4 a1_5) else (plenumlaw34_OverrideEdits.j0 k l0 a2 a3 true a1_0 a1_1 a1_2 a1_3 a1_4 a1_5))) else (plenumlaw34_OverrideEdits.j0 k l0 a2 a3 true a1_0 a1_1 a1_2 a1_3 a1_4 a1_5))) else (none))
theorem plenumlaw34_OverrideEdits.mono_l : ∀ k,(∀ y0 y1 y2 y3 y4 y5 y6 y7 y8 y9,LeO (plenumlaw34_OverrideEdits.j0 k y0 y1 y2 y3 y4 y5 y6 y7 y8 y9) (plenumlaw34_OverrideEdits.j0 (k + 1) y0 y1 y2 y3 y4 y5 y6 y7 y8 y9)) ∧ (∀ y0 y1 y2 y3 y4,LeO (plenumlaw34_OverrideEdits.j1 k y0 y1 y2 y3 y4) (plenumlaw34_OverrideEdits.j1 (k + 1) y0 y1 y2 y3 y4)) ∧ (∀ y0 y1,LeO (plenumlaw34_OverrideEdits.j2 k y0 y1) (plenumlaw34_OverrideEdits.j2 (k + 1) y0 y1))
 | 0 => ⟨fun _ _ _ _ _ _ _ _ _ _ r h => by simp [plenumlaw34_OverrideEdits.j0] at h,fun _ _ _ _ _ r h => by simp [plenumlaw34_OverrideEdits.j1] at h,fun _ _ r h => by simp [plenumlaw34_OverrideEdits.j2] at h⟩
 | k + 1 => by
  obtain ⟨ih0,ih1,ih2⟩ := plenumlaw34_OverrideEdits.mono_l k
  refine ⟨?_,?_,?_⟩
  ·intro y0 y1 y2 y3 y4 y5 y6 y7 y8 y9
   unfold plenumlaw34_OverrideEdits.j0
   repeat' first
   | (with_reducible exact ih0 _ _ _ _ _ _ _ _ _ _)
   | (with_reducible exact ih1 _ _ _ _ _)
   | (with_reducible exact ih2 _ _)
   | (with_reducible exact override_Add.mono _ _ _ _ _ _ _ _)
   | (with_reducible exact override_Expire.mono _ _ _)
   | (with_reducible exact override_Remove.mono _ _ _)
   | (with_reducible exact plenumlaw34_awake.mono _)
   | (with_reducible exact plenumref34_Add.mono _ _ _ _ _ _ _ _)
   | (with_reducible exact plenumref34_Check.mono _ _)
   | (with_reducible exact plenumref34_Expire.mono _ _ _)
   | (with_reducible exact plenumref34_Few.mono _ _)
   | (with_reducible exact plenumref34_Remove.mono _ _ _)
   | (with_reducible exact plenumref34_Same.mono _ _ _)
   | (with_reducible exact LeO.refl _)
   | (with_reducible exact LeO.none _)
   | (with_reducible refine LeO.ite ?_ ?_)
   | (with_reducible refine LeO.bind ?_ (fun _ => ?_))
   | exact ih0 _ _ _ _ _ _ _ _ _ _
   | exact ih1 _ _ _ _ _
   | exact ih2 _ _
   | exact override_Add.mono _ _ _ _ _ _ _ _
   | exact override_Expire.mono _ _ _
   | exact override_Remove.mono _ _ _
   | exact plenumlaw34_awake.mono _
   | exact plenumref34_Add.mono _ _ _ _ _ _ _ _
   | exact plenumref34_Check.mono _ _
   | exact plenumref34_Expire.mono _ _ _
   | exact plenumref34_Few.mono _ _
   | exact plenumref34_Remove.mono _ _ _
   | exact plenumref34_Same.mono _ _ _
   | exact LeO.none _
   | refine LeO.ite ?_ ?_
   | refine LeO.bind ?_ (fun _ => ?_)
  ·intro y0 y1 y2 y3 y4
   unfold plenumlaw34_OverrideEdits.j1
   repeat' first
   | (with_reducible exact ih0 _ _ _ _ _ _ _ _ _ _)
   | (with_reducible exact ih1 _ _ _ _ _)
   | (with_reducible exact ih2 _ _)
   | (with_reducible exact override_Add.mono _ _ _ _ _ _ _ _)
   | (with_reducible exact override_Expire.mono _ _ _)
   | (with_reducible exact override_Remove.mono _ _ _)
   | (with_reducible exact plenumlaw34_awake.mono _)
   | (with_reducible exact plenumref34_Add.mono _ _ _ _ _ _ _ _)
   | (with_reducible exact plenumref34_Check.mono _ _)
   | (with_reducible exact plenumref34_Expire.mono _ _ _)
   | (with_reducible exact plenumref34_Few.mono _ _)
   | (with_reducible exact plenumref34_Remove.mono _ _ _)
   | (with_reducible exact plenumref34_Same.mono _ _ _)
   | (with_reducible exact LeO.refl _)
   | (with_reducible exact LeO.none _)
   | (with_reducible refine LeO.ite ?_ ?_)
   | (with_reducible refine LeO.bind ?_ (fun _ => ?_))
   | exact ih0 _ _ _ _ _ _ _ _ _ _
   | exact ih1 _ _ _ _ _
   | exact ih2 _ _
   | exact override_Add.mono _ _ _ _ _ _ _ _
   | exact override_Expire.mono _ _ _
   | exact override_Remove.mono _ _ _
   | exact plenumlaw34_awake.mono _
   | exact plenumref34_Add.mono _ _ _ _ _ _ _ _
   | exact plenumref34_Check.mono _ _
   | exact plenumref34_Expire.mono _ _ _
   | exact plenumref34_Few.mono _ _
   | exact plenumref34_Remove.mono _ _ _
   | exact plenumref34_Same.mono _ _ _
   | exact LeO.none _
   | refine LeO.ite ?_ ?_
   | refine LeO.bind ?_ (fun _ => ?_)
  ·intro y0 y1
   unfold plenumlaw34_OverrideEdits.j2
   repeat' first
   | (with_reducible exact ih0 _ _ _ _ _ _ _ _ _ _)
   | (with_reducible exact ih1 _ _ _ _ _)
   | (with_reducible exact ih2 _ _)
   | (with_reducible exact override_Add.mono _ _ _ _ _ _ _ _)
   | (with_reducible exact override_Expire.mono _ _ _)
   | (with_reducible exact override_Remove.mono _ _ _)
   | (with_reducible exact plenumlaw34_awake.mono _)
   | (with_reducible exact plenumref34_Add.mono _ _ _ _ _ _ _ _)
   | (with_reducible exact plenumref34_Check.mono _ _)
   | (with_reducible exact plenumref34_Expire.mono _ _ _)
   | (with_reducible exact plenumref34_Few.mono _ _)
   | (with_reducible exact plenumref34_Remove.mono _ _ _)
   | (with_reducible exact plenumref34_Same.mono _ _ _)
   | (with_reducible exact LeO.refl _)
   | (with_reducible exact LeO.none _)
   | (with_reducible refine LeO.ite ?_ ?_)
   | (with_reducible refine LeO.bind ?_ (fun _ => ?_))
   | exact ih0 _ _ _ _ _ _ _ _ _ _
   | exact ih1 _ _ _ _ _
   | exact ih2 _ _
   | exact override_Add.mono _ _ _ _ _ _ _ _
   | exact override_Expire.mono _ _ _
   | exact override_Remove.mono _ _ _
   | exact plenumlaw34_awake.mono _
   | exact plenumref34_Add.mono _ _ _ _ _ _ _ _
   | exact plenumref34_Check.mono _ _
   | exact plenumref34_Expire.mono _ _ _
   | exact plenumref34_Few.mono _ _
   | exact plenumref34_Remove.mono _ _ _
   | exact plenumref34_Same.mono _ _ _
   | exact LeO.none _
   | refine LeO.ite ?_ ?_
   | refine LeO.bind ?_ (fun _ => ?_)
theorem plenumlaw34_OverrideEdits.mono : ∀ a0 a1 a2 a3 a4 a5 a6 a7 a8 k,LeO (plenumlaw34_OverrideEdits.f k a0 a1 a2 a3 a4 a5 a6 a7 a8) (plenumlaw34_OverrideEdits.f (k + 1) a0 a1 a2 a3 a4 a5 a6 a7 a8) := by
 intro a0 a1 a2 a3 a4 a5 a6 a7 a8 k
 obtain ⟨ih0,ih1,ih2⟩ := plenumlaw34_OverrideEdits.mono_l k
 unfold plenumlaw34_OverrideEdits.f
 repeat' first
   | (with_reducible exact ih0 _ _ _ _ _ _ _ _ _ _)
   | (with_reducible exact ih1 _ _ _ _ _)
   | (with_reducible exact ih2 _ _)
   | (with_reducible exact override_Add.mono _ _ _ _ _ _ _ _)
   | (with_reducible exact override_Expire.mono _ _ _)
   | (with_reducible exact override_Remove.mono _ _ _)
   | (with_reducible exact plenumlaw34_awake.mono _)
   | (with_reducible exact plenumref34_Add.mono _ _ _ _ _ _ _ _)
   | (with_reducible exact plenumref34_Check.mono _ _)
   | (with_reducible exact plenumref34_Expire.mono _ _ _)
   | (with_reducible exact plenumref34_Few.mono _ _)
   | (with_reducible exact plenumref34_Remove.mono _ _ _)
   | (with_reducible exact plenumref34_Same.mono _ _ _)
   | (with_reducible exact LeO.refl _)
   | (with_reducible exact LeO.none _)
   | (with_reducible refine LeO.ite ?_ ?_)
   | (with_reducible refine LeO.bind ?_ (fun _ => ?_))
   | exact ih0 _ _ _ _ _ _ _ _ _ _
   | exact ih1 _ _ _ _ _
   | exact ih2 _ _
   | exact override_Add.mono _ _ _ _ _ _ _ _
   | exact override_Expire.mono _ _ _
   | exact override_Remove.mono _ _ _
   | exact plenumlaw34_awake.mono _
   | exact plenumref34_Add.mono _ _ _ _ _ _ _ _
   | exact plenumref34_Check.mono _ _
   | exact plenumref34_Expire.mono _ _ _
   | exact plenumref34_Few.mono _ _
   | exact plenumref34_Remove.mono _ _ _
   | exact plenumref34_Same.mono _ _ _
   | exact LeO.none _
   | refine LeO.ite ?_ ?_
   | refine LeO.bind ?_ (fun _ => ?_)
set_option maxHeartbeats 100000000 in
set_option maxRecDepth 100000 in
theorem plenumlaw34_OverrideEdits.calls (k : Nat) (A0 : Option Addr) (c0 : Nat) (l0 : List (S26)) (a1_0 : ByteArray) (a1_1 : Int) (a1_2 : Int) (a1_3 : Int) (a1_4 : Int) (a1_5 : Int) (a2 : ByteArray) (a3 : Int) (r : Bool) (w : World) (hr0 : Kd.C k26 w A0 l0.length l0) (hc0 : l0.length ≤ c0) (h : plenumlaw34_OverrideEdits.f k l0 a1_0 a1_1 a1_2 a1_3 a1_4 a1_5 a2 a3 = some r) :
  Calls Try.prog 3 #[.slice A0 l0.length c0,.agg #[.string a1_0,.int .i64 a1_1,.int .i64 a1_2,.int .i64 a1_3,.int .i64 a1_4,.int .i64 a1_5],.string a2,.int .i64 a3] w fun e w' => e = .returned (.bool r) ∧ Below w.heap.size w w' := by
 have hu26 := Try.underlying26
 have HR0 := Yd hr0
 have HC0 := Yd hc0
 clear hr0 hc0
 have HB := Yd (Below.refl w.heap.size w)
 have H : ((plenumlaw34_awake.f k).bind fun t383 => (if t383 = true then ((plenumref34_Few.f k l0).bind fun t384 => (if t384 = true then ((plenumref34_Few.f k (([(⟨a1_0,a1_1,a1_2,(⟨a1_3,a1_4⟩ : S24),a1_5⟩ : S26)] : List (S26)))).bind fun t388 => (if t388 = true then (plenumlaw34_OverrideEdits.j0 k l0 a2 a3 (decide ((a2.size : Int) > 100)) a1_0 a1_1 a1_2 a1_3 a1_4 a1_5) else (plenumlaw34_OverrideEdits.j0 k l0 a2 a3 true a1_0 a1_1 a1_2 a1_3 a1_4 a1_5))) else (plenumlaw34_OverrideEdits.j0 k l0 a2 a3 true a1_0 a1_1 a1_2 a1_3 a1_4 a1_5))) else (none))) = some r := h
 clear h
 replace H := Option.bind_eq_some_iff.mp H
 obtain ⟨t383,A50,H⟩ := H
 replace H : (if t383 = true then ((plenumref34_Few.f k l0).bind fun t384 => (if t384 = true then ((plenumref34_Few.f k (([(⟨a1_0,a1_1,a1_2,(⟨a1_3,a1_4⟩ : S24),a1_5⟩ : S26)] : List (S26)))).bind fun t388 => (if t388 = true then (plenumlaw34_OverrideEdits.j0 k l0 a2 a3 (decide ((a2.size : Int) > 100)) a1_0 a1_1 a1_2 a1_3 a1_4 a1_5) else (plenumlaw34_OverrideEdits.j0 k l0 a2 a3 true a1_0 a1_1 a1_2 a1_3 a1_4 a1_5))) else (plenumlaw34_OverrideEdits.j0 k l0 a2 a3 true a1_0 a1_1 a1_2 a1_3 a1_4 a1_5))) else (none)) = some r := H
 have A5 := Yd A50
 clear A50
 by_cases c6 : t383 = true
 ·subst c6
  have H1 : ((plenumref34_Few.f k l0).bind fun t384 => (if t384 = true then ((plenumref34_Few.f k (([(⟨a1_0,a1_1,a1_2,(⟨a1_3,a1_4⟩ : S24),a1_5⟩ : S26)] : List (S26)))).bind fun t388 => (if t388 = true then (plenumlaw34_OverrideEdits.j0 k l0 a2 a3 (decide ((a2.size : Int) > 100)) a1_0 a1_1 a1_2 a1_3 a1_4 a1_5) else (plenumlaw34_OverrideEdits.j0 k l0 a2 a3 true a1_0 a1_1 a1_2 a1_3 a1_4 a1_5))) else (plenumlaw34_OverrideEdits.j0 k l0 a2 a3 true a1_0 a1_1 a1_2 a1_3 a1_4 a1_5))) = some r := by rw [if_pos rfl] at H;exact H
  clear H
  have H := H1
  clear H1
  have HC7 := Yd H
  clear H
  go_enter Try.func3,Try.ntmps3
  go_upto_region 3 with (first | ((with_reducible refine gate_dst (N := 5) rfl ?_);refine box_event ?hg (N := 5) ?hd (cs := #[.string a1_0,.int .i64 a1_1,.int .i64 a1_2,.int .i64 a1_3,.int .i64 a1_4,.int .i64 a1_5]) (t := 26) ?hr ?_;(case hd => rfl);(case hg => rfl);(case hr => first | (go_simp;done) | (go_simp;rfl));intro gb382 hg w8 hbox hb;have n0_ := Yd (below_step (Y3 HB.out) hb);have n1_ := Yd (hbox);have n2_ := Yd ((by rw [hg];exact (below_size (Y3 HB.out)) : w.heap.size ≤ gb382));have n3_ := Yd ((by rw [hg];exact (below_size (Y3 HB.out)) : w.heap.size ≤ gb382));clear HB;have HB := n0_;have BK382 := n1_;have GW382 := n2_;have GE382 := n3_;clear n0_ n1_ n2_ n3_;clear hb hbox hg) | ((with_reducible refine gate_callee (f := 6) rfl ?_);refine goesL_ (some 17) rfl rfl Try.func6 (by kernel_rfl) rfl #[] rfl Y8 ?_;(with_reducible refine (plenumlaw34_awake.calls k  true _ A5.out).mono ?_);rintro e w9 ⟨rfl,hb⟩;refine ⟨_,rfl,?_⟩;have n0_ := Yd (blk_below (g := gb382) (o := .cells #[.string a1_0,.int .i64 a1_1,.int .i64 a1_2,.int .i64 a1_3,.int .i64 a1_4,.int .i64 a1_5] 26 (0,0)) (Y6 BK382.out) hb);have n1_ := Yd (below_step (by first | exact Y4 HB.out GE382.out | exact Y3 HB.out) hb);clear BK382;clear HB;have BK382 := n0_;have HB := n1_;clear n0_ n1_;(try clear hb);(try clear hb2);(try clear hk);(try clear hi)))
  (try simp only [Act.put,List.setIfInBounds_toArray,List.set_cons_zero,List.set_cons_succ])
  go_cut [32] (fun v32 wc => ∃ (kq : Nat) (x32_6 : Bool),v32 = .bool x32_6 ∧ Aside0 (plenumlaw34_OverrideEdits.j0 kq l0 a2 a3 x32_6 a1_0 a1_1 a1_2 a1_3 a1_4 a1_5 = some r) ∧ Aside0 (kq ≤ k) ∧ Aside0 (wc.heap[gb382]? = some (.cells #[.string a1_0,.int .i64 a1_1,.int .i64 a1_2,.int .i64 a1_3,.int .i64 a1_4,.int .i64 a1_5] 26 (0,0))) ∧ Aside0 (Below w.heap.size w wc))
  case first =>
   have H := HC7.out
   clear HC7
   replace H := Option.bind_eq_some_iff.mp H
   obtain ⟨t384,A100,H⟩ := H
   replace H : (if t384 = true then ((plenumref34_Few.f k (([(⟨a1_0,a1_1,a1_2,(⟨a1_3,a1_4⟩ : S24),a1_5⟩ : S26)] : List (S26)))).bind fun t388 => (if t388 = true then (plenumlaw34_OverrideEdits.j0 k l0 a2 a3 (decide ((a2.size : Int) > 100)) a1_0 a1_1 a1_2 a1_3 a1_4 a1_5) else (plenumlaw34_OverrideEdits.j0 k l0 a2 a3 true a1_0 a1_1 a1_2 a1_3 a1_4 a1_5))) else (plenumlaw34_OverrideEdits.j0 k l0 a2 a3 true a1_0 a1_1 a1_2 a1_3 a1_4 a1_5)) = some r := H
   have A10 := Yd A100
   clear A100
   by_cases c11 : t384 = true
   ·subst c11
    have H1 : ((plenumref34_Few.f k (([(⟨a1_0,a1_1,a1_2,(⟨a1_3,a1_4⟩ : S24),a1_5⟩ : S26)] : List (S26)))).bind fun t388 => (if t388 = true then (plenumlaw34_OverrideEdits.j0 k l0 a2 a3 (decide ((a2.size : Int) > 100)) a1_0 a1_1 a1_2 a1_3 a1_4 a1_5) else (plenumlaw34_OverrideEdits.j0 k l0 a2 a3 true a1_0 a1_1 a1_2 a1_3 a1_4 a1_5))) = some r := by rw [if_pos rfl] at H;exact H
    clear H
    have H := H1
    clear H1
    obtain ⟨y385,hy385⟩ : ∃ y_ : List (S26),y_ = (([(⟨a1_0,a1_1,a1_2,(⟨a1_3,a1_4⟩ : S24),a1_5⟩ : S26)] : List (S26))) := ⟨_,rfl⟩
    replace H : ((plenumref34_Few.f k y385).bind fun t388 => (if t388 = true then (plenumlaw34_OverrideEdits.j0 k l0 a2 a3 (decide ((a2.size : Int) > 100)) a1_0 a1_1 a1_2 a1_3 a1_4 a1_5) else (plenumlaw34_OverrideEdits.j0 k l0 a2 a3 true a1_0 a1_1 a1_2 a1_3 a1_4 a1_5))) = some r := by first | (rw [hy385];with_reducible exact H) | (have H2_ := (Option.bind_some _ _).symm.trans H;rw [hy385];with_reducible exact H2_) | (have H2_ := (Option.bind_some _ _).symm.trans H;with_reducible exact H2_) | with_reducible exact H | (rw [hy385];exact H) | exact H
    have Ny385 := Yd hy385
    clear hy385
    replace H := Option.bind_eq_some_iff.mp H
    obtain ⟨t388,A120,H⟩ := H
    replace H : (if t388 = true then (plenumlaw34_OverrideEdits.j0 k l0 a2 a3 (decide ((a2.size : Int) > 100)) a1_0 a1_1 a1_2 a1_3 a1_4 a1_5) else (plenumlaw34_OverrideEdits.j0 k l0 a2 a3 true a1_0 a1_1 a1_2 a1_3 a1_4 a1_5)) = some r := H
    have A12 := Yd A120
    clear A120
    by_cases c13 : t388 = true
    ·subst c13
     have H1 : (plenumlaw34_OverrideEdits.j0 k l0 a2 a3 (decide ((a2.size : Int) > 100)) a1_0 a1_1 a1_2 a1_3 a1_4 a1_5) = some r := by rw [if_pos rfl] at H;exact H
     clear H
     have H := H1
     clear H1
     have H' := Yd H
     clear H
     go_wp2_with (first | ((with_reducible refine gate_callee (f := 7) rfl ?_);refine goesL_ (some 20) rfl rfl Try.func7 (by kernel_rfl) rfl #[.slice A0 l0.length c0] rfl Y8 ?_;(with_reducible refine (plenumref34_Few.calls k _ _ l0 true _ ?side1 ?side2 A10.out).mono ?_);(case side1 => exact Y11 (Kd.C_below HR0.out HB.out));(case side2 => exact HC0.out);rintro e w' ⟨rfl,⟨nd,rfl⟩⟩;refine ⟨_,rfl,?_⟩;have hcz14_0 : w9.cell? ⟨gb382,0,none⟩ = some (.string a1_0) := (blk_cell BK382.out 0).trans rfl;have hcz14_1 : w9.cell? ⟨gb382,1,none⟩ = some (.int .i64 a1_1) := (blk_cell BK382.out 1).trans rfl;have hcz14_2 : w9.cell? ⟨gb382,2,none⟩ = some (.int .i64 a1_2) := (blk_cell BK382.out 2).trans rfl;have hcz14_3 : w9.cell? ⟨gb382,3,none⟩ = some (.int .i64 a1_3) := (blk_cell BK382.out 3).trans rfl;have hcz14_4 : w9.cell? ⟨gb382,4,none⟩ = some (.int .i64 a1_4) := (blk_cell BK382.out 4).trans rfl;have hcz14_5 : w9.cell? ⟨gb382,5,none⟩ = some (.int .i64 a1_5) := (blk_cell BK382.out 5).trans rfl;have hfz14_0 := blk_frozen BK382.out 0;have hfz14_1 := blk_frozen BK382.out 1;have hfz14_2 := blk_frozen BK382.out 2;have hfz14_3 := blk_frozen BK382.out 3;have hfz14_4 := blk_frozen BK382.out 4;have hfz14_5 := blk_frozen BK382.out 5) | ((with_reducible refine gate_dst (N := 24) rfl ?_);(try (refine gate_guard (by rfl) ?_;dsimp only));refine Kd.R_lit k26 _ 26 ?hg (N := 24) ?hd (xs := ([(⟨a1_0,a1_1,a1_2,(⟨a1_3,a1_4⟩ : S24),a1_5⟩ : S26)] : List (S26))) (inner := [.string a1_0,.int .i64 a1_1,.int .i64 a1_2,.int .i64 a1_3,.int .i64 a1_4,.int .i64 a1_5]) (ok := fun _ => True) (okp := fun _ => True) ?hr ?hp (fun _ hk => hk) trivial (Below.refl _ _) (Nat.le_refl _) (by simp) ?_;(case hd => rfl);(case hg => rfl);(case hr => first | (go_simp;done) | (go_simp;rfl));(case hp => exact (Reps.c6 (show Kd.M k26 _ _ _ (⟨a1_0,a1_1,a1_2,(⟨a1_3,a1_4⟩ : S24),a1_5⟩ : S26) [.string a1_0,.int .i64 a1_1,.int .i64 a1_2,.int .i64 a1_3,.int .i64 a1_4,.int .i64 a1_5] from (k26_mkM _ _ _ (⟨a1_0,a1_1,a1_2,(⟨a1_3,a1_4⟩ : S24),a1_5⟩ : S26) )) (Reps.none _ _)));intro v386 w15 ho16 hb hg_ hnew_;clear hg_ hnew_;(first | rw [← Ny385.out] at ho16 | (simp only [Int.reduceToNat] at ho16;rw [← Ny385.out] at ho16));have n0_ := Yd (Kd.R_lower (Kd.R_newB ho16 (g := gb382) (o := .cells #[.string a1_0,.int .i64 a1_1,.int .i64 a1_2,.int .i64 a1_3,.int .i64 a1_4,.int .i64 a1_5] 26 (0,0)) (Y6 BK382.out)) (below_size (by first | exact Y4 HB.out GE382.out | exact Y3 HB.out)));have n1_ := Yd (blk_below (g := gb382) (o := .cells #[.string a1_0,.int .i64 a1_1,.int .i64 a1_2,.int .i64 a1_3,.int .i64 a1_4,.int .i64 a1_5] 26 (0,0)) (Y6 BK382.out) hb);have n2_ := Yd (below_step (by first | exact Y4 HB.out GE382.out | exact Y3 HB.out) hb);clear BK382;clear HB;have HO387 := n0_;have BK382 := n1_;have HB := n2_;clear n0_ n1_ n2_;clear hb ho16;obtain ⟨Ao17,co17,eo17⟩ := Kd.R_slice HO387.out;subst eo17) | (go_at_call 7;(with_reducible refine (plenumref34_Few.calls k _ _ y385 true _ ?side1 ?side2 A12.out).mono ?_);(case side1 => repeat (first | exact (Kd.R_reads' HO387.out).2.2 | (with_reducible refine Kd.C_alloc ?_ _) | (with_reducible refine Kd.C_drewN ?_ _) | (with_reducible refine Kd.C_drew ?_)));(case side2 => exact (Kd.R_reads' HO387.out).2.1);rintro e w' ⟨rfl,⟨nd,rfl⟩⟩))
     go_meet
     case rel => exact ⟨_,(decide ((a2.size : Int) > 100)),Y12,H',⟨by first | omega | exact Nat.le_refl _⟩,⟨Y6 BK382.out⟩,⟨by repeat (first | (with_reducible first | exact HB.out | apply below_alloc | apply Y15 | apply below_drew1 | refine below_set ?_ GE382.out) | exact HB.out)⟩⟩
    ·replace c13 := Bool.eq_false_iff.mpr c13
     subst c13
     have H1 : (plenumlaw34_OverrideEdits.j0 k l0 a2 a3 true a1_0 a1_1 a1_2 a1_3 a1_4 a1_5) = some r := by rw [if_neg (show ¬ (false = true) by decide)] at H;exact H
     clear H
     have H := H1
     clear H1
     have H' := Yd H
     clear H
     go_wp2_with (first | ((with_reducible refine gate_callee (f := 7) rfl ?_);refine goesL_ (some 20) rfl rfl Try.func7 (by kernel_rfl) rfl #[.slice A0 l0.length c0] rfl Y8 ?_;(with_reducible refine (plenumref34_Few.calls k _ _ l0 true _ ?side1 ?side2 A10.out).mono ?_);(case side1 => exact Y11 (Kd.C_below HR0.out HB.out));(case side2 => exact HC0.out);rintro e w' ⟨rfl,⟨nd,rfl⟩⟩;refine ⟨_,rfl,?_⟩;have hcz18_0 : w9.cell? ⟨gb382,0,none⟩ = some (.string a1_0) := (blk_cell BK382.out 0).trans rfl;have hcz18_1 : w9.cell? ⟨gb382,1,none⟩ = some (.int .i64 a1_1) := (blk_cell BK382.out 1).trans rfl;have hcz18_2 : w9.cell? ⟨gb382,2,none⟩ = some (.int .i64 a1_2) := (blk_cell BK382.out 2).trans rfl;have hcz18_3 : w9.cell? ⟨gb382,3,none⟩ = some (.int .i64 a1_3) := (blk_cell BK382.out 3).trans rfl;have hcz18_4 : w9.cell? ⟨gb382,4,none⟩ = some (.int .i64 a1_4) := (blk_cell BK382.out 4).trans rfl;have hcz18_5 : w9.cell? ⟨gb382,5,none⟩ = some (.int .i64 a1_5) := (blk_cell BK382.out 5).trans rfl;have hfz18_0 := blk_frozen BK382.out 0;have hfz18_1 := blk_frozen BK382.out 1;have hfz18_2 := blk_frozen BK382.out 2;have hfz18_3 := blk_frozen BK382.out 3;have hfz18_4 := blk_frozen BK382.out 4;have hfz18_5 := blk_frozen BK382.out 5) | ((with_reducible refine gate_dst (N := 24) rfl ?_);(try (refine gate_guard (by rfl) ?_;dsimp only));refine Kd.R_lit k26 _ 26 ?hg (N := 24) ?hd (xs := ([(⟨a1_0,a1_1,a1_2,(⟨a1_3,a1_4⟩ : S24),a1_5⟩ : S26)] : List (S26))) (inner := [.string a1_0,.int .i64 a1_1,.int .i64 a1_2,.int .i64 a1_3,.int .i64 a1_4,.int .i64 a1_5]) (ok := fun _ => True) (okp := fun _ => True) ?hr ?hp (fun _ hk => hk) trivial (Below.refl _ _) (Nat.le_refl _) (by simp) ?_;(case hd => rfl);(case hg => rfl);(case hr => first | (go_simp;done) | (go_simp;rfl));(case hp => exact (Reps.c6 (show Kd.M k26 _ _ _ (⟨a1_0,a1_1,a1_2,(⟨a1_3,a1_4⟩ : S24),a1_5⟩ : S26) [.string a1_0,.int .i64 a1_1,.int .i64 a1_2,.int .i64 a1_3,.int .i64 a1_4,.int .i64 a1_5] from (k26_mkM _ _ _ (⟨a1_0,a1_1,a1_2,(⟨a1_3,a1_4⟩ : S24),a1_5⟩ : S26) )) (Reps.none _ _)));intro v386 w19 ho20 hb hg_ hnew_;clear hg_ hnew_;(first | rw [← Ny385.out] at ho20 | (simp only [Int.reduceToNat] at ho20;rw [← Ny385.out] at ho20));have n0_ := Yd (Kd.R_lower (Kd.R_newB ho20 (g := gb382) (o := .cells #[.string a1_0,.int .i64 a1_1,.int .i64 a1_2,.int .i64 a1_3,.int .i64 a1_4,.int .i64 a1_5] 26 (0,0)) (Y6 BK382.out)) (below_size (by first | exact Y4 HB.out GE382.out | exact Y3 HB.out)));have n1_ := Yd (blk_below (g := gb382) (o := .cells #[.string a1_0,.int .i64 a1_1,.int .i64 a1_2,.int .i64 a1_3,.int .i64 a1_4,.int .i64 a1_5] 26 (0,0)) (Y6 BK382.out) hb);have n2_ := Yd (below_step (by first | exact Y4 HB.out GE382.out | exact Y3 HB.out) hb);clear BK382;clear HB;have HO387 := n0_;have BK382 := n1_;have HB := n2_;clear n0_ n1_ n2_;clear hb ho20;obtain ⟨Ao21,co21,eo21⟩ := Kd.R_slice HO387.out;subst eo21) | (go_at_call 7;(with_reducible refine (plenumref34_Few.calls k _ _ y385 false _ ?side1 ?side2 A12.out).mono ?_);(case side1 => repeat (first | exact (Kd.R_reads' HO387.out).2.2 | (with_reducible refine Kd.C_alloc ?_ _) | (with_reducible refine Kd.C_drewN ?_ _) | (with_reducible refine Kd.C_drew ?_)));(case side2 => exact (Kd.R_reads' HO387.out).2.1);rintro e w' ⟨rfl,⟨nd,rfl⟩⟩))
     go_meet
     case rel => exact ⟨_,(true),Y12,H',⟨by first | omega | exact Nat.le_refl _⟩,⟨Y6 BK382.out⟩,⟨by repeat (first | (with_reducible first | exact HB.out | apply below_alloc | apply Y15 | apply below_drew1 | refine below_set ?_ GE382.out) | exact HB.out)⟩⟩
   ·replace c11 := Bool.eq_false_iff.mpr c11
    subst c11
    have H1 : (plenumlaw34_OverrideEdits.j0 k l0 a2 a3 true a1_0 a1_1 a1_2 a1_3 a1_4 a1_5) = some r := by rw [if_neg (show ¬ (false = true) by decide)] at H;exact H
    clear H
    have H := H1
    clear H1
    have H' := Yd H
    clear H
    go_wp2_with (first | ((with_reducible refine gate_callee (f := 7) rfl ?_);refine goesL_ (some 20) rfl rfl Try.func7 (by kernel_rfl) rfl #[.slice A0 l0.length c0] rfl Y8 ?_;(with_reducible refine (plenumref34_Few.calls k _ _ l0 false _ ?side1 ?side2 A10.out).mono ?_);(case side1 => exact Y11 (Kd.C_below HR0.out HB.out));(case side2 => exact HC0.out);rintro e w' ⟨rfl,⟨nd,rfl⟩⟩;refine ⟨_,rfl,?_⟩))
    go_meet
    case rel => exact ⟨_,(true),Y12,H',⟨by first | omega | exact Nat.le_refl _⟩,⟨Y6 BK382.out⟩,⟨by repeat (first | (with_reducible first | exact HB.out | apply below_alloc | apply Y15 | apply below_drew1 | refine below_set ?_ GE382.out) | exact HB.out)⟩⟩
  case rest => as_aux_lemma =>
   clear HC7
   try clear c1
   try clear p2
   try clear c3
   try clear c6
   try clear c7
   try clear c11
   try clear c13
   try clear hcz14_0
   try clear hcz14_1
   try clear hcz14_2
   try clear hcz14_3
   try clear hcz14_4
   try clear hcz14_5
   try clear hcz18_0
   try clear hcz18_1
   try clear hcz18_2
   try clear hcz18_3
   try clear hcz18_4
   try clear hcz18_5
   try clear hfz14_0
   try clear hfz14_1
   try clear hfz14_2
   try clear hfz14_3
   try clear hfz14_4
   try clear hfz14_5
   try clear hfz18_0
   try clear hfz18_1
   try clear hfz18_2
   try clear hfz18_3
   try clear hfz18_4
   try clear hfz18_5
   obtain ⟨kq,x32_6,rfl,HA,HJ6,BK382,HB⟩ := hcut
   cases kq with
   | zero => exact absurd HA.out (by simp [plenumlaw34_OverrideEdits.j0])
   | succ kj6 =>
    have H := HA.out
    clear HA
    simp only [plenumlaw34_OverrideEdits.j0] at H
    by_cases c22 : x32_6 = true
    ·subst c22
     have H1 : (some true) = some r := by rw [if_pos rfl] at H;exact H
     clear H
     have H := H1
     clear H1
     obtain rfl := Option.some.inj H
     go_wp2
     go_ret
     exact ⟨by first | rfl | (simp [errW_none,errW_some] <;> rfl) | (simp [*,errW_none,errW_some] <;> rfl),by repeat (first | (with_reducible first | exact HB.out | apply below_alloc | apply Y15 | apply below_drew1 | refine below_set ?_ GE382.out) | exact HB.out)⟩
    ·replace c22 := Bool.eq_false_iff.mpr c22
     subst c22
     have H1 : ((override_Add.f kj6 l0 a1_0 a1_1 a1_2 a1_3 a1_4 a1_5).bind fun bt389 => ((override_Remove.f kj6 l0 a2).bind fun bt393 => ((plenumref34_Check.f kj6 l0).bind fun t397 => (if t397 = 0 then ((plenumref34_Add.f kj6 l0 a1_0 a1_1 a1_2 a1_3 a1_4 a1_5).bind fun t398 => ((plenumref34_Check.f kj6 t398).bind fun t401 => (if t401 = 0 then (if bt389.2 = 0 then ((plenumref34_Same.f kj6 bt389.1 t398).bind fun t402 => (if t402 = true then (plenumlaw34_OverrideEdits.j1 kj6 l0 a2 a3 bt393.1 bt393.2) else (none))) else (none)) else (if bt389.2 = t401 then (if (bt389.1.length : Int) = 0 then (plenumlaw34_OverrideEdits.j1 kj6 l0 a2 a3 bt393.1 bt393.2) else (none)) else (none))))) else (if bt389.2 = t397 then (some (bt393.2 == t397)) else (none)))))) = some r := by rw [if_neg (show ¬ (false = true) by decide)] at H;exact H
     clear H
     have H := H1
     clear H1
     replace H := Option.bind_eq_some_iff.mp H
     obtain ⟨⟨t389,t392⟩,A230,H⟩ := H
     replace H : ((override_Remove.f kj6 l0 a2).bind fun bt393 => ((plenumref34_Check.f kj6 l0).bind fun t397 => (if t397 = 0 then ((plenumref34_Add.f kj6 l0 a1_0 a1_1 a1_2 a1_3 a1_4 a1_5).bind fun t398 => ((plenumref34_Check.f kj6 t398).bind fun t401 => (if t401 = 0 then (if t392 = 0 then ((plenumref34_Same.f kj6 t389 t398).bind fun t402 => (if t402 = true then (plenumlaw34_OverrideEdits.j1 kj6 l0 a2 a3 bt393.1 bt393.2) else (none))) else (none)) else (if t392 = t401 then (if (t389.length : Int) = 0 then (plenumlaw34_OverrideEdits.j1 kj6 l0 a2 a3 bt393.1 bt393.2) else (none)) else (none))))) else (if t392 = t397 then (some (bt393.2 == t397)) else (none))))) = some r := H
     have A23 := Yd A230
     clear A230
     replace H := Option.bind_eq_some_iff.mp H
     obtain ⟨⟨t393,t394⟩,A240,H⟩ := H
     replace H : ((plenumref34_Check.f kj6 l0).bind fun t397 => (if t397 = 0 then ((plenumref34_Add.f kj6 l0 a1_0 a1_1 a1_2 a1_3 a1_4 a1_5).bind fun t398 => ((plenumref34_Check.f kj6 t398).bind fun t401 => (if t401 = 0 then (if t392 = 0 then ((plenumref34_Same.f kj6 t389 t398).bind fun t402 => (if t402 = true then (plenumlaw34_OverrideEdits.j1 kj6 l0 a2 a3 t393 t394) else (none))) else (none)) else (if t392 = t401 then (if (t389.length : Int) = 0 then (plenumlaw34_OverrideEdits.j1 kj6 l0 a2 a3 t393 t394) else (none)) else (none))))) else (if t392 = t397 then (some (t394 == t397)) else (none)))) = some r := H
     have A24 := Yd A240
     clear A240
     replace H := Option.bind_eq_some_iff.mp H
     obtain ⟨t397,A250,H⟩ := H
     replace H : (if t397 = 0 then ((plenumref34_Add.f kj6 l0 a1_0 a1_1 a1_2 a1_3 a1_4 a1_5).bind fun t398 => ((plenumref34_Check.f kj6 t398).bind fun t401 => (if t401 = 0 then (if t392 = 0 then ((plenumref34_Same.f kj6 t389 t398).bind fun t402 => (if t402 = true then (plenumlaw34_OverrideEdits.j1 kj6 l0 a2 a3 t393 t394) else (none))) else (none)) else (if t392 = t401 then (if (t389.length : Int) = 0 then (plenumlaw34_OverrideEdits.j1 kj6 l0 a2 a3 t393 t394) else (none)) else (none))))) else (if t392 = t397 then (some (t394 == t397)) else (none))) = some r := H
     have A25 := Yd A250
     clear A250
     by_cases c26 : t397 = 0
     ·rw [if_pos c26] at H
      have c26b0 : (t397 == 0) = true := beq_iff_eq.mpr c26
      have c26b1 : (t397 != 0) = false := bne_eq_false_iff_eq.mpr c26
      clear c26
      replace H := Option.bind_eq_some_iff.mp H
      obtain ⟨t398,A270,H⟩ := H
      replace H : ((plenumref34_Check.f kj6 t398).bind fun t401 => (if t401 = 0 then (if t392 = 0 then ((plenumref34_Same.f kj6 t389 t398).bind fun t402 => (if t402 = true then (plenumlaw34_OverrideEdits.j1 kj6 l0 a2 a3 t393 t394) else (none))) else (none)) else (if t392 = t401 then (if (t389.length : Int) = 0 then (plenumlaw34_OverrideEdits.j1 kj6 l0 a2 a3 t393 t394) else (none)) else (none)))) = some r := H
      have A27 := Yd A270
      clear A270
      replace H := Option.bind_eq_some_iff.mp H
      obtain ⟨t401,A280,H⟩ := H
      replace H : (if t401 = 0 then (if t392 = 0 then ((plenumref34_Same.f kj6 t389 t398).bind fun t402 => (if t402 = true then (plenumlaw34_OverrideEdits.j1 kj6 l0 a2 a3 t393 t394) else (none))) else (none)) else (if t392 = t401 then (if (t389.length : Int) = 0 then (plenumlaw34_OverrideEdits.j1 kj6 l0 a2 a3 t393 t394) else (none)) else (none))) = some r := H
      have A28 := Yd A280
      clear A280
      have HC29 := Yd H
      clear H
      have hcz30_0 : wc.cell? ⟨gb382,0,none⟩ = some (.string a1_0) := (blk_cell BK382.out 0).trans rfl
      have hcz30_1 : wc.cell? ⟨gb382,1,none⟩ = some (.int .i64 a1_1) := (blk_cell BK382.out 1).trans rfl
      have hcz30_2 : wc.cell? ⟨gb382,2,none⟩ = some (.int .i64 a1_2) := (blk_cell BK382.out 2).trans rfl
      have hcz30_3 : wc.cell? ⟨gb382,3,none⟩ = some (.int .i64 a1_3) := (blk_cell BK382.out 3).trans rfl
      have hcz30_4 : wc.cell? ⟨gb382,4,none⟩ = some (.int .i64 a1_4) := (blk_cell BK382.out 4).trans rfl
      have hcz30_5 : wc.cell? ⟨gb382,5,none⟩ = some (.int .i64 a1_5) := (blk_cell BK382.out 5).trans rfl
      have hfz30_0 := blk_frozen BK382.out 0
      have hfz30_1 := blk_frozen BK382.out 1
      have hfz30_2 := blk_frozen BK382.out 2
      have hfz30_3 := blk_frozen BK382.out 3
      have hfz30_4 := blk_frozen BK382.out 4
      have hfz30_5 := blk_frozen BK382.out 5
      go_upto_if 63 with (first | ((with_reducible refine gate_callee (f := 8) rfl ?_);refine goesL_ (some 36) rfl rfl Try.func8 (by kernel_rfl) rfl #[.slice A0 l0.length c0,.agg #[.string a1_0,.int .i64 a1_1,.int .i64 a1_2,.int .i64 a1_3,.int .i64 a1_4,.int .i64 a1_5]] rfl Y8 ?_;(with_reducible refine (override_Add.calls kj6 _ _ l0 a1_0 a1_1 a1_2 a1_3 a1_4 a1_5 t389 t392 _ ?side1 ?side2 A23.out).mono ?_);(case side1 => exact Y11 (Kd.C_below HR0.out HB.out));(case side2 => exact HC0.out);rintro e w31 ⟨v390,rfl,ho0,hb⟩;refine ⟨_,rfl,?_⟩;have n0_ := Yd (Kd.R_lower (Kd.R_newB ho0 (g := gb382) (o := .cells #[.string a1_0,.int .i64 a1_1,.int .i64 a1_2,.int .i64 a1_3,.int .i64 a1_4,.int .i64 a1_5] 26 (0,0)) (Y6 BK382.out)) (below_size (by first | exact Y4 HB.out GE382.out | exact Y3 HB.out)));have n1_ := Yd (blk_below (g := gb382) (o := .cells #[.string a1_0,.int .i64 a1_1,.int .i64 a1_2,.int .i64 a1_3,.int .i64 a1_4,.int .i64 a1_5] 26 (0,0)) (Y6 BK382.out) hb);have n2_ := Yd (below_step (by first | exact Y4 HB.out GE382.out | exact Y3 HB.out) hb);clear BK382;clear HB;have HO391 := n0_;have BK382 := n1_;have HB := n2_;clear n0_ n1_ n2_;(try clear hb);(try clear hb2);(try clear hk);(try clear hi);(try clear ho0)) | ((with_reducible refine gate_callee (f := 9) rfl ?_);refine goesL_ (some 42) rfl rfl Try.func9 (by kernel_rfl) rfl #[.slice A0 l0.length c0,.string a2] rfl Y8 ?_;(with_reducible refine (override_Remove.calls kj6 _ _ l0 a2 t393 t394 _ ?side1 ?side2 A24.out).mono ?_);(case side1 => exact Y11 (Kd.C_below HR0.out HB.out));(case side2 => exact HC0.out);rintro e w32 ⟨v395,rfl,ho0,hb⟩;refine ⟨_,rfl,?_⟩;have n0_ := Yd (Kd.R_elder' (Y5 HO391.out) (Kd.R_base ho0) hb);have n1_ := Yd (Kd.R_lower (Kd.R_newB (Kd.R_new' ho0 (Kd.R_lt (Y5 HO391.out))) (g := gb382) (o := .cells #[.string a1_0,.int .i64 a1_1,.int .i64 a1_2,.int .i64 a1_3,.int .i64 a1_4,.int .i64 a1_5] 26 (0,0)) (Y6 BK382.out)) (below_size (by first | exact Y4 HB.out GE382.out | exact Y3 HB.out)));have n2_ := Yd (blk_below (g := gb382) (o := .cells #[.string a1_0,.int .i64 a1_1,.int .i64 a1_2,.int .i64 a1_3,.int .i64 a1_4,.int .i64 a1_5] 26 (0,0)) (Y6 BK382.out) hb);have n3_ := Yd (below_step (by first | exact Y4 HB.out GE382.out | exact Y3 HB.out) hb);clear HO391;clear BK382;clear HB;have HO391 := n0_;have HO396 := n1_;have BK382 := n2_;have HB := n3_;clear n0_ n1_ n2_ n3_;(try clear hb);(try clear hb2);(try clear hk);(try clear hi);(try clear ho0)) | ((with_reducible refine gate_callee (f := 10) rfl ?_);refine goesL_ (some 46) rfl rfl Try.func10 (by kernel_rfl) rfl #[.slice A0 l0.length c0] rfl Y8 ?_;(with_reducible refine (plenumref34_Check.calls kj6 _ _ l0 t397 _ ?side1 ?side2 A25.out).mono ?_);(case side1 => exact Y11 (Kd.C_below HR0.out HB.out));(case side2 => exact HC0.out);rintro e w33 ⟨rfl,hb⟩;refine ⟨_,rfl,?_⟩;have n0_ := Yd (Kd.R_below (Y5 HO391.out) hb);have n1_ := Yd (Kd.R_below (Y5 HO396.out) hb);have n2_ := Yd (blk_below (g := gb382) (o := .cells #[.string a1_0,.int .i64 a1_1,.int .i64 a1_2,.int .i64 a1_3,.int .i64 a1_4,.int .i64 a1_5] 26 (0,0)) (Y6 BK382.out) hb);have n3_ := Yd (below_step (by first | exact Y4 HB.out GE382.out | exact Y3 HB.out) hb);clear HO391;clear HO396;clear BK382;clear HB;have HO391 := n0_;have HO396 := n1_;have BK382 := n2_;have HB := n3_;clear n0_ n1_ n2_ n3_;(try clear hb);(try clear hb2);(try clear hk);(try clear hi);have hcz34_0 : w33.cell? ⟨gb382,0,none⟩ = some (.string a1_0) := (blk_cell BK382.out 0).trans rfl;have hcz34_1 : w33.cell? ⟨gb382,1,none⟩ = some (.int .i64 a1_1) := (blk_cell BK382.out 1).trans rfl;have hcz34_2 : w33.cell? ⟨gb382,2,none⟩ = some (.int .i64 a1_2) := (blk_cell BK382.out 2).trans rfl;have hcz34_3 : w33.cell? ⟨gb382,3,none⟩ = some (.int .i64 a1_3) := (blk_cell BK382.out 3).trans rfl;have hcz34_4 : w33.cell? ⟨gb382,4,none⟩ = some (.int .i64 a1_4) := (blk_cell BK382.out 4).trans rfl;have hcz34_5 : w33.cell? ⟨gb382,5,none⟩ = some (.int .i64 a1_5) := (blk_cell BK382.out 5).trans rfl;have hfz34_0 := blk_frozen BK382.out 0;have hfz34_1 := blk_frozen BK382.out 1;have hfz34_2 := blk_frozen BK382.out 2;have hfz34_3 := blk_frozen BK382.out 3;have hfz34_4 := blk_frozen BK382.out 4;have hfz34_5 := blk_frozen BK382.out 5) | ((with_reducible refine gate_callee (f := 11) rfl ?_);refine goesL_ (some 59) rfl rfl Try.func11 (by kernel_rfl) rfl #[.slice A0 l0.length c0,.agg #[.string a1_0,.int .i64 a1_1,.int .i64 a1_2,.int .i64 a1_3,.int .i64 a1_4,.int .i64 a1_5]] rfl Y8 ?_;(with_reducible refine (plenumref34_Add.calls kj6 _ _ l0 a1_0 a1_1 a1_2 a1_3 a1_4 a1_5 t398 _ ?side1 ?side2 A27.out).mono ?_);(case side1 => exact Y11 (Kd.C_below HR0.out HB.out));(case side2 => exact HC0.out);rintro e w35 ⟨v399,rfl,ho0,hb⟩;refine ⟨_,rfl,?_⟩;have n0_ := Yd (Kd.R_elder' (Y5 HO391.out) (Kd.R_base ho0) hb);have n1_ := Yd (Kd.R_elder' (Y5 HO396.out) (Kd.R_base ho0) hb);have n2_ := Yd (Kd.R_lower (Kd.R_newB (Kd.R_new' (Kd.R_new' ho0 (Kd.R_lt (Y5 HO391.out))) (Kd.R_lt (Y5 HO396.out))) (g := gb382) (o := .cells #[.string a1_0,.int .i64 a1_1,.int .i64 a1_2,.int .i64 a1_3,.int .i64 a1_4,.int .i64 a1_5] 26 (0,0)) (Y6 BK382.out)) (below_size (by first | exact Y4 HB.out GE382.out | exact Y3 HB.out)));have n3_ := Yd (blk_below (g := gb382) (o := .cells #[.string a1_0,.int .i64 a1_1,.int .i64 a1_2,.int .i64 a1_3,.int .i64 a1_4,.int .i64 a1_5] 26 (0,0)) (Y6 BK382.out) hb);have n4_ := Yd (below_step (by first | exact Y4 HB.out GE382.out | exact Y3 HB.out) hb);clear HO391;clear HO396;clear BK382;clear HB;have HO391 := n0_;have HO396 := n1_;have HO400 := n2_;have BK382 := n3_;have HB := n4_;clear n0_ n1_ n2_ n3_ n4_;(try clear hb);(try clear hb2);(try clear hk);(try clear hi);(try clear ho0);obtain ⟨Ao36,co36,eo36⟩ := Kd.R_slice HO400.out;subst eo36) | ((with_reducible refine gate_callee (f := 10) rfl ?_);refine goesL_ (some 61) rfl rfl Try.func10 (by kernel_rfl) rfl #[.slice Ao36 t398.length co36] rfl Y8 ?_;(with_reducible refine (plenumref34_Check.calls kj6 _ _ t398 t401 _ ?side1 ?side2 A28.out).mono ?_);(case side1 => repeat (first | exact (Kd.R_reads' HO400.out).2.2 | (with_reducible refine Kd.C_alloc ?_ _) | (with_reducible refine Kd.C_drewN ?_ _) | (with_reducible refine Kd.C_drew ?_)));(case side2 => exact (Kd.R_reads' HO400.out).2.1);rintro e w37 ⟨rfl,hb⟩;refine ⟨_,rfl,?_⟩;have n0_ := Yd (Kd.R_below (Y5 HO391.out) hb);have n1_ := Yd (Kd.R_below (Y5 HO396.out) hb);have n2_ := Yd (Kd.R_below (Y5 HO400.out) hb);have n3_ := Yd (blk_below (g := gb382) (o := .cells #[.string a1_0,.int .i64 a1_1,.int .i64 a1_2,.int .i64 a1_3,.int .i64 a1_4,.int .i64 a1_5] 26 (0,0)) (Y6 BK382.out) hb);have n4_ := Yd (below_step (by first | exact Y4 HB.out GE382.out | exact Y3 HB.out) hb);clear HO391;clear HO396;clear HO400;clear BK382;clear HB;have HO391 := n0_;have HO396 := n1_;have HO400 := n2_;have BK382 := n3_;have HB := n4_;clear n0_ n1_ n2_ n3_ n4_;(try clear hb);(try clear hb2);(try clear hk);(try clear hi)))
      (try simp only [Act.put,List.setIfInBounds_toArray,List.set_cons_zero,List.set_cons_succ])
      go_cut [] (fun wc => ∃ (kq : Nat),Aside0 (plenumlaw34_OverrideEdits.j1 kq l0 a2 a3 t393 t394 = some r) ∧ Aside0 (kq ≤ kj6) ∧ Aside0 (Kd.R k26 26 wc w.heap.size (fun k_ => k_ ≠ gb382) v395 t393) ∧ Aside0 (wc.heap[gb382]? = some (.cells #[.string a1_0,.int .i64 a1_1,.int .i64 a1_2,.int .i64 a1_3,.int .i64 a1_4,.int .i64 a1_5] 26 (0,0))) ∧ Aside0 (Below w.heap.size w wc))
      case first =>
       have H := HC29.out
       clear HC29
       by_cases c38 : t401 = 0
       ·rw [if_pos c38] at H
        have c38b0 : (t401 == 0) = true := beq_iff_eq.mpr c38
        have c38b1 : (t401 != 0) = false := bne_eq_false_iff_eq.mpr c38
        clear c38
        (first | rw [c38b0] | (simp only [i64_w,i32_w];rw [c38b0]) | skip)
        by_cases c39 : t392 = 0
        case neg => rw [if_neg c39] at H;exact absurd H (by simp)
        rw [if_pos c39] at H
        have c39b0 : (t392 == 0) = true := beq_iff_eq.mpr c39
        have c39b1 : (t392 != 0) = false := bne_eq_false_iff_eq.mpr c39
        clear c39
        replace H := Option.bind_eq_some_iff.mp H
        obtain ⟨t402,A400,H⟩ := H
        replace H : (if t402 = true then (plenumlaw34_OverrideEdits.j1 kj6 l0 a2 a3 t393 t394) else (none)) = some r := H
        have A40 := Yd A400
        clear A400
        by_cases c41 : t402 = true
        ·subst c41
         have H1 : (plenumlaw34_OverrideEdits.j1 kj6 l0 a2 a3 t393 t394) = some r := by rw [if_pos rfl] at H;exact H
         clear H
         have H := H1
         clear H1
         have H' := Yd H
         clear H
         obtain ⟨Ao42,co42,eo42⟩ := Kd.R_slice HO391.out
         subst eo42
         go_wp2_with (first | (go_at_call 12;(with_reducible refine (plenumref34_Same.calls kj6 _ _ t389 _ _ t398 true _ ?side1 ?side2 ?side3 ?side4 A40.out).mono ?_);(case side1 => repeat (first | exact (Kd.R_reads' HO391.out).2.2 | (with_reducible refine Kd.C_alloc ?_ _) | (with_reducible refine Kd.C_drewN ?_ _) | (with_reducible refine Kd.C_drew ?_)));(case side2 => exact (Kd.R_reads' HO391.out).2.1);(case side3 => repeat (first | exact (Kd.R_reads' HO400.out).2.2 | (with_reducible refine Kd.C_alloc ?_ _) | (with_reducible refine Kd.C_drewN ?_ _) | (with_reducible refine Kd.C_drew ?_)));(case side4 => exact (Kd.R_reads' HO400.out).2.1);rintro e w' ⟨rfl,⟨nd,rfl⟩⟩))
         go_meet
         case rel => exact ⟨_,H',⟨by have := HJ6.out;first | omega | exact Nat.le_refl _⟩,⟨by (with_reducible repeat (first | apply Kd.R_alloc | apply Kd.R_drewN | apply Kd.R_drew));exact Kd.R_mono HO396.out (fun _ hk => hk.1.2)⟩,⟨Y6 BK382.out⟩,⟨by repeat (first | (with_reducible first | exact HB.out | apply below_alloc | apply Y15 | apply below_drew1 | refine below_set ?_ GE382.out) | exact HB.out)⟩⟩
        ·replace c41 := Bool.eq_false_iff.mpr c41
         subst c41
         have H1 : (none) = some r := by rw [if_neg (show ¬ (false = true) by decide)] at H;exact H
         clear H
         have H := H1
         clear H1
         exact absurd H (by simp)
       ·rw [if_neg c38] at H
        have c38b0 : (t401 == 0) = false := beq_eq_false_iff_ne.mpr c38
        have c38b1 : (t401 != 0) = true := bne_iff_ne.mpr c38
        (first | rw [c38b0] | (simp only [i64_w,i32_w];rw [c38b0]) | skip)
        by_cases c43 : t392 = t401
        case neg => rw [if_neg c43] at H;exact absurd H (by simp)
        rw [if_pos c43] at H
        have c43b0 : (t392 == t401) = true := beq_iff_eq.mpr c43
        have c43b1 : (t392 != t401) = false := bne_eq_false_iff_eq.mpr c43
        clear c43
        by_cases c44 : (t389.length : Int) = 0
        case neg => rw [if_neg c44] at H;exact absurd H (by simp)
        rw [if_pos c44] at H
        have c44b0 : ((t389.length : Int) == 0) = true := beq_iff_eq.mpr c44
        have c44b1 : ((t389.length : Int) != 0) = false := bne_eq_false_iff_eq.mpr c44
        clear c44
        have H' := Yd H
        clear H
        obtain ⟨Ao45,co45,eo45⟩ := Kd.R_slice HO391.out
        subst eo45
        go_wp2
        go_meet
        case rel => exact ⟨_,H',⟨by have := HJ6.out;first | omega | exact Nat.le_refl _⟩,⟨by (with_reducible repeat (first | apply Kd.R_alloc | apply Kd.R_drewN | apply Kd.R_drew));exact Kd.R_mono HO396.out (fun _ hk => hk.1.2)⟩,⟨Y6 BK382.out⟩,⟨by repeat (first | (with_reducible first | exact HB.out | apply below_alloc | apply Y15 | apply below_drew1 | refine below_set ?_ GE382.out) | exact HB.out)⟩⟩
      case rest => as_aux_lemma =>
       clear HC29
       try clear c1
       try clear c2
       try clear p2
       try clear c3
       try clear c4
       try clear c6
       try clear c7
       try clear c8
       try clear c9
       try clear c10
       try clear c11
       try clear c13
       try clear c22
       try clear c26
       try clear c26b0
       try clear c26b1
       try clear c38
       try clear c38b0
       try clear c38b1
       try clear c39
       try clear c39b0
       try clear c39b1
       try clear c41
       try clear c43
       try clear c43b0
       try clear c43b1
       try clear c44
       try clear c44b0
       try clear c44b1
       try clear hcz14_0
       try clear hcz14_1
       try clear hcz14_2
       try clear hcz14_3
       try clear hcz14_4
       try clear hcz14_5
       try clear hcz18_0
       try clear hcz18_1
       try clear hcz18_2
       try clear hcz18_3
       try clear hcz18_4
       try clear hcz18_5
       try clear hcz30_0
       try clear hcz30_1
       try clear hcz30_2
       try clear hcz30_3
       try clear hcz30_4
       try clear hcz30_5
       try clear hcz34_0
       try clear hcz34_1
       try clear hcz34_2
       try clear hcz34_3
       try clear hcz34_4
       try clear hcz34_5
       try clear hfz14_0
       try clear hfz14_1
       try clear hfz14_2
       try clear hfz14_3
       try clear hfz14_4
       try clear hfz14_5
       try clear hfz18_0
       try clear hfz18_1
       try clear hfz18_2
       try clear hfz18_3
       try clear hfz18_4
       try clear hfz18_5
       try clear hfz30_0
       try clear hfz30_1
       try clear hfz30_2
       try clear hfz30_3
       try clear hfz30_4
       try clear hfz30_5
       try clear hfz34_0
       try clear hfz34_1
       try clear hfz34_2
       try clear hfz34_3
       try clear hfz34_4
       try clear hfz34_5
       try clear p2
       obtain ⟨kq,HA,HJ28,HO_11,BK382,HB⟩ := hcut
       cases kq with
       | zero => exact absurd HA.out (by simp [plenumlaw34_OverrideEdits.j1])
       | succ kj28 =>
        have H := HA.out
        clear HA
        simp only [plenumlaw34_OverrideEdits.j1] at H
        replace H := Option.bind_eq_some_iff.mp H
        obtain ⟨t403,A460,H⟩ := H
        replace H : (if (t403.length : Int) = (l0.length : Int) then (if t394 = 9 then (if (t393.length : Int) = 0 then (plenumlaw34_OverrideEdits.j2 kj28 l0 a3) else (none)) else (none)) else (if t394 = 0 then ((plenumref34_Same.f kj28 t393 t403).bind fun t406 => (if t406 = true then (plenumlaw34_OverrideEdits.j2 kj28 l0 a3) else (none))) else (none))) = some r := H
        have A46 := Yd A460
        clear A460
        have HC47 := Yd H
        clear H
        go_upto_if 87 with (first | ((with_reducible refine gate_callee (f := 13) rfl ?_);refine goesL_ (some 82) rfl rfl Try.func13 (by kernel_rfl) rfl #[.slice A0 l0.length c0,.string a2] rfl Y8 ?_;(with_reducible refine (plenumref34_Remove.calls kj28 _ _ l0 a2 t403 _ ?side1 ?side2 A46.out).mono ?_);(case side1 => exact Y11 (Kd.C_below HR0.out HB.out));(case side2 => exact HC0.out);rintro e w48 ⟨v404,rfl,ho0,hb⟩;refine ⟨_,rfl,?_⟩;have n0_ := Yd (Kd.R_elder' (Y5 HO_11.out) (Kd.R_base ho0) hb);have n1_ := Yd (Kd.R_lower (Kd.R_newB (Kd.R_new' ho0 (Kd.R_lt (Y5 HO_11.out))) (g := gb382) (o := .cells #[.string a1_0,.int .i64 a1_1,.int .i64 a1_2,.int .i64 a1_3,.int .i64 a1_4,.int .i64 a1_5] 26 (0,0)) (Y6 BK382.out)) (below_size (by first | exact Y4 HB.out GE382.out | exact Y3 HB.out)));have n2_ := Yd (blk_below (g := gb382) (o := .cells #[.string a1_0,.int .i64 a1_1,.int .i64 a1_2,.int .i64 a1_3,.int .i64 a1_4,.int .i64 a1_5] 26 (0,0)) (Y6 BK382.out) hb);have n3_ := Yd (below_step (by first | exact Y4 HB.out GE382.out | exact Y3 HB.out) hb);clear HO_11;clear BK382;clear HB;have HO_11 := n0_;have HO405 := n1_;have BK382 := n2_;have HB := n3_;clear n0_ n1_ n2_ n3_;(try clear hb);(try clear hb2);(try clear hk);(try clear hi);(try clear ho0);obtain ⟨Ao49,co49,eo49⟩ := Kd.R_slice HO405.out;subst eo49))
        (try simp only [Act.put,List.setIfInBounds_toArray,List.set_cons_zero,List.set_cons_succ])
        go_cut [] (fun wc => ∃ (kq : Nat),Aside0 (plenumlaw34_OverrideEdits.j2 kq l0 a3 = some r) ∧ Aside0 (kq ≤ kj28) ∧ Aside0 (wc.heap[gb382]? = some (.cells #[.string a1_0,.int .i64 a1_1,.int .i64 a1_2,.int .i64 a1_3,.int .i64 a1_4,.int .i64 a1_5] 26 (0,0))) ∧ Aside0 (Below w.heap.size w wc))
        case first =>
         have H := HC47.out
         clear HC47
         by_cases c50 : (t403.length : Int) = (l0.length : Int)
         ·rw [if_pos c50] at H
          have c50b0 : ((t403.length : Int) == (l0.length : Int)) = true := beq_iff_eq.mpr c50
          have c50b1 : ((t403.length : Int) != (l0.length : Int)) = false := bne_eq_false_iff_eq.mpr c50
          have c50b2 : (t403.length == l0.length) = true := by first | simpa using c50 | (simp at c50 ⊢;omega)
          clear c50
          (first | rw [c50b0] | (simp only [i64_w,i32_w];rw [c50b0]) | skip)
          by_cases c51 : t394 = 9
          case neg => rw [if_neg c51] at H;exact absurd H (by simp)
          rw [if_pos c51] at H
          have c51b0 : (t394 == 9) = true := beq_iff_eq.mpr c51
          have c51b1 : (t394 != 9) = false := bne_eq_false_iff_eq.mpr c51
          clear c51
          by_cases c52 : (t393.length : Int) = 0
          case neg => rw [if_neg c52] at H;exact absurd H (by simp)
          rw [if_pos c52] at H
          have c52b0 : ((t393.length : Int) == 0) = true := beq_iff_eq.mpr c52
          have c52b1 : ((t393.length : Int) != 0) = false := bne_eq_false_iff_eq.mpr c52
          clear c52
          have H' := Yd H
          clear H
          obtain ⟨Ao53,co53,eo53⟩ := Kd.R_slice HO_11.out
          subst eo53
          go_wp2
          go_meet
          case rel => exact ⟨_,H',⟨by have := HJ6.out;have := HJ28.out;first | omega | exact Nat.le_refl _⟩,⟨Y6 BK382.out⟩,⟨by repeat (first | (with_reducible first | exact HB.out | apply below_alloc | apply Y15 | apply below_drew1 | refine below_set ?_ GE382.out) | exact HB.out)⟩⟩
         ·rw [if_neg c50] at H
          have c50b0 : ((t403.length : Int) == (l0.length : Int)) = false := beq_eq_false_iff_ne.mpr c50
          have c50b1 : ((t403.length : Int) != (l0.length : Int)) = true := bne_iff_ne.mpr c50
          have c50b2 : (t403.length == l0.length) = false := by first | simpa using c50 | (simp at c50 ⊢;omega)
          (first | rw [c50b0] | (simp only [i64_w,i32_w];rw [c50b0]) | skip)
          by_cases c54 : t394 = 0
          case neg => rw [if_neg c54] at H;exact absurd H (by simp)
          rw [if_pos c54] at H
          have c54b0 : (t394 == 0) = true := beq_iff_eq.mpr c54
          have c54b1 : (t394 != 0) = false := bne_eq_false_iff_eq.mpr c54
          clear c54
          replace H := Option.bind_eq_some_iff.mp H
          obtain ⟨t406,A550,H⟩ := H
          replace H : (if t406 = true then (plenumlaw34_OverrideEdits.j2 kj28 l0 a3) else (none)) = some r := H
          have A55 := Yd A550
          clear A550
          by_cases c56 : t406 = true
          ·subst c56
           have H1 : (plenumlaw34_OverrideEdits.j2 kj28 l0 a3) = some r := by rw [if_pos rfl] at H;exact H
           clear H
           have H := H1
           clear H1
           have H' := Yd H
           clear H
           obtain ⟨Ao57,co57,eo57⟩ := Kd.R_slice HO_11.out
           subst eo57
           go_wp2_with (first | (go_at_call 12;(with_reducible refine (plenumref34_Same.calls kj28 _ _ t393 _ _ t403 true _ ?side1 ?side2 ?side3 ?side4 A55.out).mono ?_);(case side1 => repeat (first | exact (Kd.R_reads' HO_11.out).2.2 | (with_reducible refine Kd.C_alloc ?_ _) | (with_reducible refine Kd.C_drewN ?_ _) | (with_reducible refine Kd.C_drew ?_)));(case side2 => exact (Kd.R_reads' HO_11.out).2.1);(case side3 => repeat (first | exact (Kd.R_reads' HO405.out).2.2 | (with_reducible refine Kd.C_alloc ?_ _) | (with_reducible refine Kd.C_drewN ?_ _) | (with_reducible refine Kd.C_drew ?_)));(case side4 => exact (Kd.R_reads' HO405.out).2.1);rintro e w' ⟨rfl,⟨nd,rfl⟩⟩))
           go_meet
           case rel => exact ⟨_,H',⟨by have := HJ6.out;have := HJ28.out;first | omega | exact Nat.le_refl _⟩,⟨Y6 BK382.out⟩,⟨by repeat (first | (with_reducible first | exact HB.out | apply below_alloc | apply Y15 | apply below_drew1 | refine below_set ?_ GE382.out) | exact HB.out)⟩⟩
          ·replace c56 := Bool.eq_false_iff.mpr c56
           subst c56
           have H1 : (none) = some r := by rw [if_neg (show ¬ (false = true) by decide)] at H;exact H
           clear H
           have H := H1
           clear H1
           exact absurd H (by simp)
        case rest => as_aux_lemma =>
         clear HC47
         try clear c1
         try clear c2
         try clear p2
         try clear c3
         try clear c4
         try clear c5
         try clear c6
         try clear c7
         try clear c8
         try clear c9
         try clear c10
         try clear c11
         try clear c13
         try clear c22
         try clear c26
         try clear c26b0
         try clear c26b1
         try clear c38
         try clear c38b0
         try clear c38b1
         try clear c39
         try clear c39b0
         try clear c39b1
         try clear c41
         try clear c43
         try clear c43b0
         try clear c43b1
         try clear c44
         try clear c44b0
         try clear c44b1
         try clear c50
         try clear c50b0
         try clear c50b1
         try clear c50b2
         try clear c51
         try clear c51b0
         try clear c51b1
         try clear c52
         try clear c52b0
         try clear c52b1
         try clear c54
         try clear c54b0
         try clear c54b1
         try clear c56
         try clear hcz14_0
         try clear hcz14_1
         try clear hcz14_2
         try clear hcz14_3
         try clear hcz14_4
         try clear hcz14_5
         try clear hcz18_0
         try clear hcz18_1
         try clear hcz18_2
         try clear hcz18_3
         try clear hcz18_4
         try clear hcz18_5
         try clear hcz30_0
         try clear hcz30_1
         try clear hcz30_2
         try clear hcz30_3
         try clear hcz30_4
         try clear hcz30_5
         try clear hcz34_0
         try clear hcz34_1
         try clear hcz34_2
         try clear hcz34_3
         try clear hcz34_4
         try clear hcz34_5
         try clear hfz14_0
         try clear hfz14_1
         try clear hfz14_2
         try clear hfz14_3
         try clear hfz14_4
         try clear hfz14_5
         try clear hfz18_0
         try clear hfz18_1
         try clear hfz18_2
         try clear hfz18_3
         try clear hfz18_4
         try clear hfz18_5
         try clear hfz30_0
         try clear hfz30_1
         try clear hfz30_2
         try clear hfz30_3
         try clear hfz30_4
         try clear hfz30_5
         try clear hfz34_0
         try clear hfz34_1
         try clear hfz34_2
         try clear hfz34_3
         try clear hfz34_4
         try clear hfz34_5
         try clear p2
         obtain ⟨kq,HA,HJ46,BK382,HB⟩ := hcut
         cases kq with
         | zero => exact absurd HA.out (by simp [plenumlaw34_OverrideEdits.j2])
         | succ kj46 =>
          have H := HA.out
          clear HA
          simp only [plenumlaw34_OverrideEdits.j2] at H
          replace H := Option.bind_eq_some_iff.mp H
          obtain ⟨t407,A580,H⟩ := H
          replace H : ((plenumref34_Expire.f kj46 l0 a3).bind fun t410 => ((plenumref34_Same.f kj46 t407 t410).bind fun t413 => (some t413))) = some r := H
          have A58 := Yd A580
          clear A580
          replace H := Option.bind_eq_some_iff.mp H
          obtain ⟨t410,A590,H⟩ := H
          replace H : ((plenumref34_Same.f kj46 t407 t410).bind fun t413 => (some t413)) = some r := H
          have A59 := Yd A590
          clear A590
          replace H := Option.bind_eq_some_iff.mp H
          obtain ⟨t413,A600,H⟩ := H
          replace H : (some t413) = some r := H
          have A60 := Yd A600
          clear A600
          obtain rfl := Option.some.inj H
          go_wp2_with (first | ((with_reducible refine gate_callee (f := 14) rfl ?_);refine goesL_ (some 105) rfl rfl Try.func14 (by kernel_rfl) rfl #[.slice A0 l0.length c0,.int .i64 a3] rfl Y8 ?_;(with_reducible refine (override_Expire.calls kj46 _ _ l0 a3 t407 _ ?side1 ?side2 A58.out).mono ?_);(case side1 => exact Y11 (Kd.C_below HR0.out HB.out));(case side2 => exact HC0.out);rintro e w61 ⟨v408,rfl,ho0,hb⟩;refine ⟨_,rfl,?_⟩;have n0_ := Yd (Kd.R_lower (Kd.R_newB ho0 (g := gb382) (o := .cells #[.string a1_0,.int .i64 a1_1,.int .i64 a1_2,.int .i64 a1_3,.int .i64 a1_4,.int .i64 a1_5] 26 (0,0)) (Y6 BK382.out)) (below_size (by first | exact Y4 HB.out GE382.out | exact Y3 HB.out)));have n1_ := Yd (blk_below (g := gb382) (o := .cells #[.string a1_0,.int .i64 a1_1,.int .i64 a1_2,.int .i64 a1_3,.int .i64 a1_4,.int .i64 a1_5] 26 (0,0)) (Y6 BK382.out) hb);have n2_ := Yd (below_step (by first | exact Y4 HB.out GE382.out | exact Y3 HB.out) hb);clear BK382;clear HB;have HO409 := n0_;have BK382 := n1_;have HB := n2_;clear n0_ n1_ n2_;(try clear hb);(try clear hb2);(try clear hk);(try clear hi);(try clear ho0)) | ((with_reducible refine gate_callee (f := 15) rfl ?_);refine goesL_ (some 108) rfl rfl Try.func15 (by kernel_rfl) rfl #[.slice A0 l0.length c0,.int .i64 a3] rfl Y8 ?_;(with_reducible refine (plenumref34_Expire.calls kj46 _ _ l0 a3 t410 _ ?side1 ?side2 A59.out).mono ?_);(case side1 => exact Y11 (Kd.C_below HR0.out HB.out));(case side2 => exact HC0.out);rintro e w62 ⟨v411,rfl,ho0,hb⟩;refine ⟨_,rfl,?_⟩;have n0_ := Yd (Kd.R_elder' (Y5 HO409.out) (Kd.R_base ho0) hb);have n1_ := Yd (Kd.R_lower (Kd.R_newB (Kd.R_new' ho0 (Kd.R_lt (Y5 HO409.out))) (g := gb382) (o := .cells #[.string a1_0,.int .i64 a1_1,.int .i64 a1_2,.int .i64 a1_3,.int .i64 a1_4,.int .i64 a1_5] 26 (0,0)) (Y6 BK382.out)) (below_size (by first | exact Y4 HB.out GE382.out | exact Y3 HB.out)));have n2_ := Yd (blk_below (g := gb382) (o := .cells #[.string a1_0,.int .i64 a1_1,.int .i64 a1_2,.int .i64 a1_3,.int .i64 a1_4,.int .i64 a1_5] 26 (0,0)) (Y6 BK382.out) hb);have n3_ := Yd (below_step (by first | exact Y4 HB.out GE382.out | exact Y3 HB.out) hb);clear HO409;clear BK382;clear HB;have HO409 := n0_;have HO412 := n1_;have BK382 := n2_;have HB := n3_;clear n0_ n1_ n2_ n3_;(try clear hb);(try clear hb2);(try clear hk);(try clear hi);(try clear ho0);obtain ⟨Ao63,co63,eo63⟩ := Kd.R_slice HO409.out;subst eo63;obtain ⟨Ao64,co64,eo64⟩ := Kd.R_slice HO412.out;subst eo64) | ((with_reducible refine gate_callee (f := 12) rfl ?_);refine goesL_ (some 109) rfl rfl Try.func12 (by kernel_rfl) rfl #[.slice Ao63 t407.length co63,.slice Ao64 t410.length co64] rfl Y8 ?_;(with_reducible refine (plenumref34_Same.calls kj46 _ _ t407 _ _ t410 t413 _ ?side1 ?side2 ?side3 ?side4 A60.out).mono ?_);(case side1 => repeat (first | exact (Kd.R_reads' HO409.out).2.2 | (with_reducible refine Kd.C_alloc ?_ _) | (with_reducible refine Kd.C_drewN ?_ _) | (with_reducible refine Kd.C_drew ?_)));(case side2 => exact (Kd.R_reads' HO409.out).2.1);(case side3 => repeat (first | exact (Kd.R_reads' HO412.out).2.2 | (with_reducible refine Kd.C_alloc ?_ _) | (with_reducible refine Kd.C_drewN ?_ _) | (with_reducible refine Kd.C_drew ?_)));(case side4 => exact (Kd.R_reads' HO412.out).2.1);rintro e w' ⟨rfl,⟨nd,rfl⟩⟩;refine ⟨_,rfl,?_⟩))
          go_ret
          exact ⟨by first | rfl | (simp [errW_none,errW_some] <;> rfl) | (simp [*,errW_none,errW_some] <;> rfl),by repeat (first | (with_reducible first | exact HB.out | apply below_alloc | apply Y15 | apply below_drew1 | refine below_set ?_ GE382.out) | exact HB.out)⟩
     ·rw [if_neg c26] at H
      have c26b0 : (t397 == 0) = false := beq_eq_false_iff_ne.mpr c26
      have c26b1 : (t397 != 0) = true := bne_iff_ne.mpr c26
      by_cases c65 : t392 = t397
      case neg => rw [if_neg c65] at H;exact absurd H (by simp)
      rw [if_pos c65] at H
      have c65b0 : (t392 == t397) = true := beq_iff_eq.mpr c65
      have c65b1 : (t392 != t397) = false := bne_eq_false_iff_eq.mpr c65
      clear c65
      obtain rfl := Option.some.inj H
      have hcz66_0 : wc.cell? ⟨gb382,0,none⟩ = some (.string a1_0) := (blk_cell BK382.out 0).trans rfl
      have hcz66_1 : wc.cell? ⟨gb382,1,none⟩ = some (.int .i64 a1_1) := (blk_cell BK382.out 1).trans rfl
      have hcz66_2 : wc.cell? ⟨gb382,2,none⟩ = some (.int .i64 a1_2) := (blk_cell BK382.out 2).trans rfl
      have hcz66_3 : wc.cell? ⟨gb382,3,none⟩ = some (.int .i64 a1_3) := (blk_cell BK382.out 3).trans rfl
      have hcz66_4 : wc.cell? ⟨gb382,4,none⟩ = some (.int .i64 a1_4) := (blk_cell BK382.out 4).trans rfl
      have hcz66_5 : wc.cell? ⟨gb382,5,none⟩ = some (.int .i64 a1_5) := (blk_cell BK382.out 5).trans rfl
      have hfz66_0 := blk_frozen BK382.out 0
      have hfz66_1 := blk_frozen BK382.out 1
      have hfz66_2 := blk_frozen BK382.out 2
      have hfz66_3 := blk_frozen BK382.out 3
      have hfz66_4 := blk_frozen BK382.out 4
      have hfz66_5 := blk_frozen BK382.out 5
      go_wp2_with (first | ((with_reducible refine gate_callee (f := 8) rfl ?_);refine goesL_ (some 36) rfl rfl Try.func8 (by kernel_rfl) rfl #[.slice A0 l0.length c0,.agg #[.string a1_0,.int .i64 a1_1,.int .i64 a1_2,.int .i64 a1_3,.int .i64 a1_4,.int .i64 a1_5]] rfl Y8 ?_;(with_reducible refine (override_Add.calls kj6 _ _ l0 a1_0 a1_1 a1_2 a1_3 a1_4 a1_5 t389 t392 _ ?side1 ?side2 A23.out).mono ?_);(case side1 => exact Y11 (Kd.C_below HR0.out HB.out));(case side2 => exact HC0.out);rintro e w67 ⟨v390,rfl,ho0,hb⟩;refine ⟨_,rfl,?_⟩;have n0_ := Yd (Kd.R_lower (Kd.R_newB ho0 (g := gb382) (o := .cells #[.string a1_0,.int .i64 a1_1,.int .i64 a1_2,.int .i64 a1_3,.int .i64 a1_4,.int .i64 a1_5] 26 (0,0)) (Y6 BK382.out)) (below_size (by first | exact Y4 HB.out GE382.out | exact Y3 HB.out)));have n1_ := Yd (blk_below (g := gb382) (o := .cells #[.string a1_0,.int .i64 a1_1,.int .i64 a1_2,.int .i64 a1_3,.int .i64 a1_4,.int .i64 a1_5] 26 (0,0)) (Y6 BK382.out) hb);have n2_ := Yd (below_step (by first | exact Y4 HB.out GE382.out | exact Y3 HB.out) hb);clear BK382;clear HB;have HO391 := n0_;have BK382 := n1_;have HB := n2_;clear n0_ n1_ n2_;(try clear hb);(try clear hb2);(try clear hk);(try clear hi);(try clear ho0)) | ((with_reducible refine gate_callee (f := 9) rfl ?_);refine goesL_ (some 42) rfl rfl Try.func9 (by kernel_rfl) rfl #[.slice A0 l0.length c0,.string a2] rfl Y8 ?_;(with_reducible refine (override_Remove.calls kj6 _ _ l0 a2 t393 t394 _ ?side1 ?side2 A24.out).mono ?_);(case side1 => exact Y11 (Kd.C_below HR0.out HB.out));(case side2 => exact HC0.out);rintro e w68 ⟨v395,rfl,ho0,hb⟩;refine ⟨_,rfl,?_⟩;have n0_ := Yd (Kd.R_elder' (Y5 HO391.out) (Kd.R_base ho0) hb);have n1_ := Yd (Kd.R_lower (Kd.R_newB (Kd.R_new' ho0 (Kd.R_lt (Y5 HO391.out))) (g := gb382) (o := .cells #[.string a1_0,.int .i64 a1_1,.int .i64 a1_2,.int .i64 a1_3,.int .i64 a1_4,.int .i64 a1_5] 26 (0,0)) (Y6 BK382.out)) (below_size (by first | exact Y4 HB.out GE382.out | exact Y3 HB.out)));have n2_ := Yd (blk_below (g := gb382) (o := .cells #[.string a1_0,.int .i64 a1_1,.int .i64 a1_2,.int .i64 a1_3,.int .i64 a1_4,.int .i64 a1_5] 26 (0,0)) (Y6 BK382.out) hb);have n3_ := Yd (below_step (by first | exact Y4 HB.out GE382.out | exact Y3 HB.out) hb);clear HO391;clear BK382;clear HB;have HO391 := n0_;have HO396 := n1_;have BK382 := n2_;have HB := n3_;clear n0_ n1_ n2_ n3_;(try clear hb);(try clear hb2);(try clear hk);(try clear hi);(try clear ho0)) | ((with_reducible refine gate_callee (f := 10) rfl ?_);refine goesL_ (some 46) rfl rfl Try.func10 (by kernel_rfl) rfl #[.slice A0 l0.length c0] rfl Y8 ?_;(with_reducible refine (plenumref34_Check.calls kj6 _ _ l0 t397 _ ?side1 ?side2 A25.out).mono ?_);(case side1 => exact Y11 (Kd.C_below HR0.out HB.out));(case side2 => exact HC0.out);rintro e w69 ⟨rfl,hb⟩;refine ⟨_,rfl,?_⟩;have n0_ := Yd (Kd.R_below (Y5 HO391.out) hb);have n1_ := Yd (Kd.R_below (Y5 HO396.out) hb);have n2_ := Yd (blk_below (g := gb382) (o := .cells #[.string a1_0,.int .i64 a1_1,.int .i64 a1_2,.int .i64 a1_3,.int .i64 a1_4,.int .i64 a1_5] 26 (0,0)) (Y6 BK382.out) hb);have n3_ := Yd (below_step (by first | exact Y4 HB.out GE382.out | exact Y3 HB.out) hb);clear HO391;clear HO396;clear BK382;clear HB;have HO391 := n0_;have HO396 := n1_;have BK382 := n2_;have HB := n3_;clear n0_ n1_ n2_ n3_;(try clear hb);(try clear hb2);(try clear hk);(try clear hi)))
      go_ret
      exact ⟨by first | rfl | (simp [errW_none,errW_some] <;> rfl) | (simp [*,errW_none,errW_some] <;> rfl),by repeat (first | (with_reducible first | exact HB.out | apply below_alloc | apply Y15 | apply below_drew1 | refine below_set ?_ GE382.out) | exact HB.out)⟩
 ·replace c6 := Bool.eq_false_iff.mpr c6
  subst c6
  have H1 : (none) = some r := by rw [if_neg (show ¬ (false = true) by decide)] at H;exact H
  clear H
  have H := H1
  clear H1
  exact absurd H (by simp)
end Go.Proofs.Ytaoicdkjjjlmeaa.PD34
namespace Go.Proofs.YtaoicdkjjjlmeaaX
open Go.RowKit
def Evn {α : Type} (g : Nat → Option α) (v : α) : Prop := ∃ n, ∀ k, n ≤ k → g k = some v
theorem Evn.const {α : Type} (v : α) : Evn (fun _ => some v) v := ⟨0, fun _ _ => rfl⟩
theorem Evn.of {α : Type} {g : Option α} {v : α} (h : g = some v) : Evn (fun _ => g) v := ⟨0, fun _ _ => h⟩
theorem Evn.of_eq {α : Type} {g : Nat → Option α} {v u : α} (h : Evn g v) (e : v = u) : Evn g u := e ▸ h
theorem Evn.ex {α : Type} {g : Nat → Option α} {v : α} (h : Evn g v) : ∃ k, g k = some v := by
 obtain ⟨n, hn⟩ := h
 exact ⟨n, hn n (Nat.le_refl _)⟩
theorem Evn.step {α : Type} {f g : Nat → Option α} {v : α} (h : ∀ k, f (k + 1) = g k) (hg : Evn g v) : Evn f v := by
 obtain ⟨n, hn⟩ := hg
 refine ⟨n + 1, fun k hk => ?_⟩
 obtain ⟨j, rfl⟩ : ∃ j, k = j + 1 := ⟨k - 1, by omega⟩
 rw [h]
 exact hn j (by omega)
theorem Evn.congr {α : Type} {f g : Nat → Option α} {v : α} (h : ∀ k, f k = g k) (hg : Evn g v) : Evn f v := by
 obtain ⟨n, hn⟩ := hg
 exact ⟨n, fun k hk => (h k).trans (hn k hk)⟩
theorem Evn.bind {α β : Type} {g : Nat → Option α} {h : Nat → α → Option β} {v : α} {u : β} (hg : Evn g v) (hh : Evn (fun k => h k v) u) : Evn (fun k => (g k).bind (h k)) u := by
 obtain ⟨n, hn⟩ := hg
 obtain ⟨m, hm⟩ := hh
 refine ⟨max n m, fun k hk => ?_⟩
 show (g k).bind (h k) = some u
 rw [hn k (by omega)]
 exact hm k (by omega)
theorem Evn.ite {α : Type} {c : Prop} [Decidable c] {f g : Nat → Option α} {v : α} (h1 : c → Evn f v) (h2 : ¬ c → Evn g v) : Evn (fun k => if c then f k else g k) v := by
 by_cases h : c
 ·simp only [if_pos h]; exact h1 h
 ·simp only [if_neg h]; exact h2 h
theorem Evn.pos {α : Type} {c : Prop} [Decidable c] {f g : Nat → Option α} {v : α} (hc : c) (h : Evn f v) : Evn (fun k => if c then f k else g k) v := by
 simp only [if_pos hc]; exact h
theorem Evn.neg {α : Type} {c : Prop} [Decidable c] {f g : Nat → Option α} {v : α} (hc : ¬ c) (h : Evn g v) : Evn (fun k => if c then f k else g k) v := by
 simp only [if_neg hc]; exact h
theorem Evn.uniq {α : Type} {g : Nat → Option α} {v u : α} (h : Evn g v) (h2 : Evn g u) : v = u := by
 obtain ⟨n, hn⟩ := h
 obtain ⟨m, hm⟩ := h2
 have e1 := hn (max n m) (by omega)
 have e2 := hm (max n m) (by omega)
 rw [e1] at e2
 exact Option.some.inj e2
theorem w64 {n : Int} (h1 : -9223372036854775808 ≤ n) (h2 : n ≤ 9223372036854775807) : wrap64 n = n := by unfold wrap64; omega
theorem search1 {α : Type} (bad : Nat → Prop) (f : Nat → Int → Option α) (n : Nat) {e : α} (hbad : ∀ i : Nat, i < n → bad i → Evn (fun k => f k (i : Int)) e)
  (hnext : ∀ i : Nat, i < n → ¬ bad i → ∀ u, Evn (fun k => f k ((i : Int) + 1)) u → Evn (fun k => f k (i : Int)) u) : ∀ (m i : Nat), i + m = n → (∃ j, i ≤ j ∧ j < n ∧ bad j) → Evn (fun k => f k (i : Int)) e
 | 0, i, hm, h => by
  obtain ⟨j, h1, h2, _⟩ := h
  omega
 | m + 1, i, hm, h => by
  by_cases hb : bad i
  ·exact hbad i (by omega) hb
  ·refine hnext i (by omega) hb _ (search1 bad f n hbad hnext m (i + 1) (by omega) ?_)
   obtain ⟨j, h1, h2, h3⟩ := h
   refine ⟨j, ?_, h2, h3⟩
   rcases Nat.lt_or_eq_of_le h1 with h4 | rfl
   ·omega
   ·exact absurd h3 hb
open Classical in
theorem search {α : Type} (bad : Nat → Prop) (f : Nat → Int → Option α) (n : Nat) {e v : α} (hend : Evn (fun k => f k (n : Int)) v) (hbad : ∀ i : Nat, i < n → bad i → Evn (fun k => f k (i : Int)) e)
  (hnext : ∀ i : Nat, i < n → ¬ bad i → ∀ u, Evn (fun k => f k ((i : Int) + 1)) u → Evn (fun k => f k (i : Int)) u) : ∀ (m i : Nat), i + m = n → Evn (fun k => f k (i : Int)) (if ∃ j, i ≤ j ∧ j < n ∧ bad j then e else v)
 | 0, i, hm => by
  rw [if_neg (by rintro ⟨j, h1, h2, _⟩; omega)]
  obtain rfl : i = n := by omega
  exact hend
 | m + 1, i, hm => by
  by_cases hb : bad i
  ·rw [if_pos ⟨i, Nat.le_refl _, by omega, hb⟩]
   exact hbad i (by omega) hb
  ·have ih := search bad f n hend hbad hnext m (i + 1) (by omega)
   refine hnext i (by omega) hb _ ?_
   refine Evn.of_eq ih ?_
   by_cases h : ∃ j, i ≤ j ∧ j < n ∧ bad j
   ·rw [if_pos h, if_pos]
    obtain ⟨j, h1, h2, h3⟩ := h
    refine ⟨j, ?_, h2, h3⟩
    rcases Nat.lt_or_eq_of_le h1 with h4 | rfl
    ·omega
    ·exact absurd h3 hb
   ·rw [if_neg h, if_neg]
    rintro ⟨j, h1, h2, h3⟩
    exact h ⟨j, by omega, h2, h3⟩
theorem find (bad : Nat → Prop) (f : Nat → Int → Option Int) (n : Nat) (hend : Evn (fun k => f k (n : Int)) (-1)) (hbad : ∀ i : Nat, i < n → bad i → Evn (fun k => f k (i : Int)) (i : Int))
  (hnext : ∀ i : Nat, i < n → ¬ bad i → ∀ u, Evn (fun k => f k ((i : Int) + 1)) u → Evn (fun k => f k (i : Int)) u) : ∀ (m i : Nat), i + m = n → ∃ r : Int, Evn (fun k => f k (i : Int)) r ∧ (0 ≤ r ↔ ∃ j, i ≤ j ∧ j < n ∧ bad j)
 | 0, i, hm => by
  obtain rfl : i = n := by omega
  refine ⟨-1, hend, ⟨fun h => by omega, ?_⟩⟩
  rintro ⟨j, h1, h2, _⟩
  omega
 | m + 1, i, hm => by
  by_cases hb : bad i
  ·exact ⟨i, hbad i (by omega) hb, ⟨fun _ => ⟨i, Nat.le_refl _, by omega, hb⟩, fun _ => by omega⟩⟩
  ·obtain ⟨r, hr, he⟩ := find bad f n hend hbad hnext m (i + 1) (by omega)
   refine ⟨r, hnext i (by omega) hb r hr, he.trans ⟨?_, ?_⟩⟩
   ·rintro ⟨j, h1, h2, h3⟩
    exact ⟨j, by omega, h2, h3⟩
   ·rintro ⟨j, h1, h2, h3⟩
    refine ⟨j, ?_, h2, h3⟩
    rcases Nat.lt_or_eq_of_le h1 with h4 | rfl
    ·omega
    ·exact absurd h3 hb
theorem fold {σ α : Type} (f : Nat → σ → Int → Option α) (st : Nat → σ) (n : Nat) {v : α} (hend : Evn (fun k => f k (st n) (n : Int)) v)
  (hstep : ∀ i : Nat, i < n → ∀ u, Evn (fun k => f k (st (i + 1)) ((i : Int) + 1)) u → Evn (fun k => f k (st i) (i : Int)) u) : ∀ (m i : Nat), i + m = n → Evn (fun k => f k (st i) (i : Int)) v
 | 0, i, hm => by
  obtain rfl : i = n := by omega
  exact hend
 | m + 1, i, hm => hstep i (by omega) v (fold f st n hend hstep m (i + 1) (by omega))
end Go.Proofs.YtaoicdkjjjlmeaaX
namespace Go.Proofs.Ytaoicdkjjjlmeaa.PD34
open Go.RowKit Go.Proofs.YtaoicdkjjjlmeaaW.PrintWords Go.Proofs.YtaoicdkjjjlmeaaW.PrintLast Go.Proofs.YtaoicdkjjjlmeaaW.PrintMore
open Go.Proofs.YtaoicdkjjjlmeaaX
theorem bal (s : ByteArray) : s.toList = s.data.toList := ByteArray.toList_eq s
theorem bless : ∀ (x y : List UInt8), Op.bytesLess x y = true ↔ x < y
 | _, [] => by simp [Op.bytesLess]
 | [], _ :: _ => by simp [Op.bytesLess]
 | a :: x, b :: y => by
  have ih := bless x y
  rw [List.cons_lt_cons_iff]
  simp [Op.bytesLess, ih]
abbrev okc (c : Int) : Prop := (97 ≤ c ∧ c ≤ 122) ∨ (48 ≤ c ∧ c ≤ 57) ∨ c = 95
def okFrom (s : ByteArray) (i : Int) : Prop := ∀ j : Int, i ≤ j → j < (s.size : Int) → okc (bt s j)
def NameOk (s : ByteArray) : Prop := 1 ≤ (s.size : Int) ∧ (s.size : Int) ≤ 24 ∧ 97 ≤ bt s 0 ∧ bt s 0 ≤ 122 ∧ okFrom s 0
open Classical in
theorem nm_run (s : ByteArray) (hs : s.size ≤ 1000) : ∀ (m : Nat) (i : Int), 0 ≤ i → i + m = (s.size : Int) → Evn (fun k => override_name.l0 k s (s.size : Int) i) (decide (okFrom s i))
 | 0, i, h0, hm => by
  refine Evn.step (fun k => by rw [override_name.l0]) (Evn.neg (by omega) (Evn.of_eq (Evn.const true) ?_))
  exact (decide_eq_true (fun j h1 h2 => by omega)).symm
 | m + 1, i, h0, hm => by
  have ih := nm_run s hs m (i + 1) (by omega) (by omega)
  have hj : ∀ b : Bool, (b = true ↔ ¬ okc (bt s i)) → Evn (fun k => override_name.j2 k s (s.size : Int) i b) (decide (okFrom s i)) := by
   intro b hb
   refine Evn.step (fun k => by rw [override_name.j2]) ?_
   refine Evn.ite (fun hbt => ?_) (fun hbf => ?_)
   ·refine Evn.of_eq (Evn.const false) ?_
    exact (decide_eq_false (fun h => hb.1 hbt (h i (Int.le_refl _) (by omega)))).symm
   ·rw [w64 (by omega) (by omega)]
    refine Evn.of_eq ih ?_
    have hok : okc (bt s i) := by
     by_cases h : okc (bt s i)
     ·exact h
     ·exact absurd (hb.2 h) hbf
    rw [decide_eq_decide]
    constructor
    ·intro h j h1 h2
     rcases Int.lt_or_eq_of_le h1 with h3 | rfl
     ·exact h j (by omega) h2
     ·exact hok
    ·intro h j h1 h2
     exact h j (by omega) h2
  refine Evn.step (fun k => by rw [override_name.l0]) (Evn.pos (by omega) (Evn.pos (by omega) (Evn.pos (by omega) ?_)))
  generalize bt s i = c at hj
  refine Evn.ite (fun h1 => Evn.ite (fun h2 => hj _ ?_) (fun h2 => Evn.ite (fun h3 => hj _ ?_) (fun h3 => hj _ ?_))) (fun h1 => Evn.ite (fun h2 => Evn.ite (fun h3 => hj _ ?_) (fun h3 => Evn.ite (fun h4 => hj _ ?_) (fun h4 => hj _ ?_))) (fun h2 => hj _ ?_))
  all_goals (simp only [bne_iff_ne, ne_eq, Bool.false_eq_true, false_iff, Decidable.not_not, okc]; omega)
theorem size_nil (s : ByteArray) : s.toList = [] ↔ s.size = 0 := by
 rw [bal]
 constructor
 ·intro h
  have : s.data.toList.length = 0 := by rw [h]; rfl
  simpa using this
 ·intro h
  apply List.eq_nil_of_length_eq_zero
  simpa using h
open Classical in
theorem name_val (s : ByteArray) (hs : s.size ≤ 1000) : Evn (fun k => override_name.f k s) (decide (NameOk s)) := by
 have hj : ∀ b : Bool, (b = true ↔ ¬ (1 ≤ (s.size : Int) ∧ (s.size : Int) ≤ 24 ∧ 97 ≤ bt s 0 ∧ bt s 0 ≤ 122)) → Evn (fun k => override_name.j0 k s b) (decide (NameOk s)) := by
  intro b hb
  refine Evn.step (fun k => by rw [override_name.j0]) ?_
  refine Evn.ite (fun hbt => ?_) (fun hbf => ?_)
  ·refine Evn.of_eq (Evn.const false) ?_
   exact (decide_eq_false (fun h => hb.1 hbt ⟨h.1, h.2.1, h.2.2.1, h.2.2.2.1⟩)).symm
  ·refine Evn.of_eq (nm_run s hs s.size 0 (by omega) (by omega)) ?_
   have hg : 1 ≤ (s.size : Int) ∧ (s.size : Int) ≤ 24 ∧ 97 ≤ bt s 0 ∧ bt s 0 ≤ 122 := by
    by_cases h : 1 ≤ (s.size : Int) ∧ (s.size : Int) ≤ 24 ∧ 97 ≤ bt s 0 ∧ bt s 0 ≤ 122
    ·exact h
    ·exact absurd (hb.2 h) hbf
   rw [decide_eq_decide]
   exact ⟨fun h => ⟨hg.1, hg.2.1, hg.2.2.1, hg.2.2.2, h⟩, fun h => h.2.2.2.2⟩
 unfold override_name.f
 refine Evn.ite (fun h1 => hj _ ?_) (fun h1 => Evn.ite (fun h2 => hj _ ?_) (fun h2 => Evn.pos ?_ (Evn.ite (fun h3 => hj _ ?_) (fun h3 => hj _ ?_))))
 ·have := (size_nil s).1 h1
  simp only [true_iff]
  omega
 ·simp only [true_iff]
  omega
 ·have : ¬ s.size = 0 := fun h => h1 ((size_nil s).2 h)
  omega
 ·simp only [true_iff]
  omega
 ·have : ¬ s.size = 0 := fun h => h1 ((size_nil s).2 h)
  rw [decide_eq_true_eq]
  omega
open Classical in
theorem ref_run (s : ByteArray) (hs : s.size ≤ 1000) : ∀ (m : Nat) (i : Int), 0 ≤ i → i + m = (s.size : Int) → Evn (fun k => plenumref10_Name.l0 k s i) (decide ((1 ≤ (s.size : Int) ∧ (s.size : Int) ≤ 24) ∧ okFrom s i ∧ (i = 0 → i < (s.size : Int) → 97 ≤ bt s 0 ∧ bt s 0 ≤ 122)))
 | 0, i, h0, hm => by
  refine Evn.step (fun k => by rw [plenumref10_Name.l0]) (Evn.neg (by omega) (Evn.ite (fun h => Evn.of_eq (Evn.const _) ?_) (fun h => Evn.of_eq (Evn.const _) ?_)))
  ·rw [decide_eq_decide]
   exact ⟨fun h2 => ⟨⟨h, h2⟩, fun j h1 h2 => by omega, fun _ h2 => by omega⟩, fun h2 => h2.1.2⟩
  ·exact (decide_eq_false (fun h2 => h h2.1.1)).symm
 | m + 1, i, h0, hm => by
  have ih := ref_run s hs m (i + 1) (by omega) (by omega)
  have hj : ∀ b : Bool, (b = true ↔ ¬ (okc (bt s i) ∧ (i = 0 → 97 ≤ bt s i ∧ bt s i ≤ 122))) → Evn (fun k => plenumref10_Name.j1 k s i b) (decide ((1 ≤ (s.size : Int) ∧ (s.size : Int) ≤ 24) ∧ okFrom s i ∧ (i = 0 → i < (s.size : Int) → 97 ≤ bt s 0 ∧ bt s 0 ≤ 122))) := by
   intro b hb
   refine Evn.step (fun k => by rw [plenumref10_Name.j1]) ?_
   refine Evn.ite (fun hbt => ?_) (fun hbf => ?_)
   ·refine Evn.of_eq (Evn.const false) ?_
    refine (decide_eq_false (fun h => hb.1 hbt ⟨h.2.1 i (Int.le_refl _) (by omega), fun hi => ?_⟩)).symm
    have h3 := h.2.2 hi (by omega)
    rw [hi]
    exact h3
   ·rw [w64 (by omega) (by omega)]
    refine Evn.of_eq ih ?_
    have hok : okc (bt s i) ∧ (i = 0 → 97 ≤ bt s i ∧ bt s i ≤ 122) := by
     by_cases h : okc (bt s i) ∧ (i = 0 → 97 ≤ bt s i ∧ bt s i ≤ 122)
     ·exact h
     ·exact absurd (hb.2 h) hbf
    rw [decide_eq_decide]
    constructor
    ·rintro ⟨h1, h2, _⟩
     refine ⟨h1, fun j h3 h4 => ?_, fun hi _ => ?_⟩
     ·rcases Int.lt_or_eq_of_le h3 with h5 | rfl
      ·exact h2 j (by omega) h4
      ·exact hok.1
     ·have := hok.2 hi
      rw [hi] at this
      exact this
    ·rintro ⟨h1, h2, _⟩
     exact ⟨h1, fun j h3 h4 => h2 j (by omega) h4, fun hi => by omega⟩
  refine Evn.step (fun k => by rw [plenumref10_Name.l0]) (Evn.pos (by omega) (Evn.pos (by omega) ?_))
  generalize bt s i = c at hj
  refine Evn.ite (fun h1 => Evn.ite (fun h2 => hj _ ?_) (fun h2 => Evn.ite (fun h3 => hj _ ?_) (fun h3 => Evn.ite (fun h4 => Evn.ite (fun h5 => hj _ ?_) (fun h5 => hj _ ?_)) (fun h4 => hj _ ?_)))) (fun h1 => Evn.ite (fun h3 => hj _ ?_) (fun h3 => Evn.ite (fun h4 => Evn.ite (fun h5 => hj _ ?_) (fun h5 => hj _ ?_)) (fun h4 => hj _ ?_)))
  all_goals (simp only [bne_iff_ne, ne_eq, Bool.false_eq_true, false_iff, true_iff, Decidable.not_not, okc]; omega)
open Classical in
theorem refname_val (s : ByteArray) (hs : s.size ≤ 1000) : Evn (fun k => plenumref10_Name.f k s) (decide (NameOk s)) := by
 unfold plenumref10_Name.f
 refine Evn.of_eq (ref_run s hs s.size 0 (by omega) (by omega)) ?_
 rw [decide_eq_decide]
 constructor
 ·rintro ⟨⟨h1, h2⟩, h3, h4⟩
  have := h4 rfl (by omega)
  exact ⟨h1, h2, this.1, this.2, h3⟩
 ·rintro ⟨h1, h2, h3, h4, h5⟩
  exact ⟨⟨h1, h2⟩, h5, fun _ _ => ⟨h3, h4⟩⟩
end Go.Proofs.Ytaoicdkjjjlmeaa.PD34
namespace Go.Proofs.Ytaoicdkjjjlmeaa.PD34
open Go.RowKit Go.Proofs.YtaoicdkjjjlmeaaW.PrintWords Go.Proofs.YtaoicdkjjjlmeaaW.PrintLast Go.Proofs.YtaoicdkjjjlmeaaW.PrintMore
open Go.Proofs.YtaoicdkjjjlmeaaX
def ld (L : List S26) (i : Nat) : S26 := rd_T26 L (i : Int)
theorem ld_def (L : List S26) (i : Nat) : rd_T26 L (i : Int) = ld L i := rfl
theorem ld_get (L : List S26) (i : Nat) (h : i < L.length) : ld L i = L[i] := by
 show L.getD (i : Int).toNat z26 = L[i]
 rw [Int.toNat_natCast, List.getD_eq_getElem?_getD, List.getElem?_eq_getElem h]
 rfl
theorem ld_take (L : List S26) (n i : Nat) (h : i < n) : ld (L.take n) i = ld L i := by
 show (L.take n).getD (i : Int).toNat z26 = L.getD (i : Int).toNat z26
 rw [Int.toNat_natCast, List.getD_eq_getElem?_getD, List.getD_eq_getElem?_getD, List.getElem?_take_of_lt h]
theorem dec_eq {p q : Prop} {i : Decidable p} {j : Decidable q} (h : p ↔ q) : @decide p i = @decide q j := by
 by_cases hp : p
 ·simp [hp, h.1 hp]
 ·have hq : ¬ q := fun hq => hp (h.2 hq)
  simp [hp, hq]
theorem dec_no {p : Prop} {i : Decidable p} (h : ¬ p) : false = @decide p i := (decide_eq_false h).symm
def Rg (x : S26) : Prop := 0 ≤ x.f1 ∧ x.f1 < x.f2 ∧ x.f2 ≤ 6311433600 ∧ 0 ≤ x.f4 ∧ x.f4 ≤ 1000000000
def Ty (x : S26) : Prop := 1 ≤ x.f3.f0 ∧ x.f3.f0 ≤ 3
def nlt (x y : S26) : Prop := x.f0.toList < y.f0.toList
def Dp (L : List S26) (j : Nat) : Prop := ∃ i, i < j ∧ ((ld L i).f4 = (ld L j).f4 ∨ ¬ nlt (ld L i) (ld L j))
def Dq (L : List S26) (j : Nat) : Prop := (0 < j ∧ ¬ nlt (ld L (j - 1)) (ld L j)) ∨ ∃ i, i < j ∧ (ld L i).f4 = (ld L j).f4
theorem dq_dp (L : List S26) (n : Nat) : (∃ j, j < n ∧ Dq L j) ↔ ∃ j, j < n ∧ Dp L j := by
 constructor
 ·rintro ⟨j, hj, ⟨h1, h2⟩ | ⟨i, h1, h2⟩⟩
  ·exact ⟨j, hj, j - 1, by omega, .inr h2⟩
  ·exact ⟨j, hj, i, h1, .inl h2⟩
 ·rintro ⟨j, hj, i, h1, h2⟩
  rcases h2 with h2 | h2
  ·exact ⟨j, hj, .inr ⟨i, h1, h2⟩⟩
  ·by_cases hall : ∃ m, m < n ∧ 0 < m ∧ ¬ nlt (ld L (m - 1)) (ld L m)
   ·obtain ⟨m, h3, h4⟩ := hall
    exact ⟨m, h3, .inl h4⟩
   ·exfalso
    have hup : ∀ d, i + d + 1 < n → nlt (ld L i) (ld L (i + d + 1)) := by
     intro d
     induction d with
     | zero =>
      intro h
      by_cases h5 : nlt (ld L i) (ld L (i + 0 + 1))
      ·exact h5
      ·exact absurd ⟨i + 0 + 1, h, by omega, h5⟩ hall
     | succ d ih =>
      intro h
      have h5 := ih (by omega)
      have h6 : nlt (ld L (i + d + 1)) (ld L (i + (d + 1) + 1)) := by
       by_cases h7 : nlt (ld L (i + d + 1)) (ld L (i + (d + 1) + 1))
       ·exact h7
       ·exact absurd ⟨i + (d + 1) + 1, h, by omega, h7⟩ hall
      exact List.lt_trans h5 h6
    refine h2 ?_
    have := hup (j - i - 1) (by omega)
    rw [show i + (j - i - 1) + 1 = j by omega] at this
    exact this
open Classical in
noncomputable def errOf (L : List S26) : Int :=
 if 64 < L.length then 7 else if ∃ j, j < L.length ∧ ¬ NameOk (ld L j).f0 then 4 else if ∃ j, j < L.length ∧ ¬ Rg (ld L j) then 6 else if ∃ j, j < L.length ∧ ¬ Ty (ld L j) then 11 else if ∃ j, j < L.length ∧ Dp L j then 5 else 0
def Small (L : List S26) : Prop := L.length ≤ 100000 ∧ ∀ i, (ld L i).f0.size ≤ 1000
section
open Classical
theorem ex0 {P : Nat → Prop} {n : Nat} : (∃ j, 0 ≤ j ∧ j < n ∧ P j) ↔ ∃ j, j < n ∧ P j := ⟨fun ⟨j, _, h⟩ => ⟨j, h⟩, fun ⟨j, h⟩ => ⟨j, Nat.zero_le _, h⟩⟩
theorem every_val {g : Nat → Option Int} {r : Int} {P : Nat → Prop} {n : Nat} (hr : Evn g r) (he : 0 ≤ r ↔ ∃ j, 0 ≤ j ∧ j < n ∧ P j) : Evn (fun k => ((g k).bind fun t => some (decide (t ≥ 0))).bind fun t => some (!t)) (decide (¬ ∃ j, j < n ∧ P j)) := by
 refine Evn.bind (Evn.bind hr (Evn.const _)) (Evn.of_eq (Evn.const _) ?_)
 rw [ex0] at he
 by_cases h : 0 ≤ r
 ·rw [decide_eq_true h]
  exact dec_no (fun hn => hn (he.1 h))
 ·rw [decide_eq_false h]
  exact (decide_eq_true (p := ¬ ∃ j, j < n ∧ P j) (fun hn => h (he.2 hn))).symm
theorem e1_val (L : List S26) (hL : Small L) : Evn (fun k => override_Check_1__c32.f k L) (decide (¬ ∃ j, j < L.length ∧ ¬ NameOk (ld L j).f0)) := by
 have hlen := hL.1
 obtain ⟨r, hr, he⟩ := find (fun i => ¬ NameOk (ld L i).f0) (fun k i => api_Hold__c31_.l0 k L (L.length : Int) i) L.length
  (Evn.step (fun k => by rw [api_Hold__c31_.l0]) (Evn.neg (by omega) (Evn.const _)))
  (fun i hi hb => by
   refine Evn.step (fun k => by rw [api_Hold__c31_.l0]) (Evn.pos (by omega) (Evn.pos (by omega) (Evn.pos (by omega) ?_)))
   rw [ld_def]
   refine Evn.bind (Evn.bind (Evn.bind (name_val _ (hL.2 i)) (Evn.const _)) (Evn.const _)) ?_
   rw [decide_eq_false hb]
   exact Evn.const _)
  (fun i hi hb u hu => by
   refine Evn.step (fun k => by rw [api_Hold__c31_.l0]) (Evn.pos (by omega) (Evn.pos (by omega) (Evn.pos (by omega) ?_)))
   rw [ld_def, w64 (by omega) (by omega)]
   refine Evn.bind (Evn.bind (Evn.bind (name_val _ (hL.2 i)) (Evn.const _)) (Evn.const _)) ?_
   rw [decide_eq_true (Classical.not_not.1 hb)]
   exact hu) L.length 0 (by omega)
 exact Evn.of_eq (every_val (g := fun k => api_Hold__c31_.l0 k L (L.length : Int) ((0 : Nat) : Int)) hr he) (dec_eq Iff.rfl)
theorem rg_val (x : S26) : override_Check_3.f x.f0 x.f1 x.f2 x.f3.f0 x.f3.f1 x.f4 = some (decide (Rg x)) := by
 unfold override_Check_3.f Rg
 split
 ·split
  ·split
   ·split
    ·congr 1
     exact dec_eq (by omega)
    ·congr 1
     exact dec_no (by omega)
   ·congr 1
    exact dec_no (by omega)
  ·congr 1
   exact dec_no (by omega)
 ·congr 1
  exact dec_no (by omega)
theorem ty_val (x : S26) : override_Check_4.f x.f0 x.f1 x.f2 x.f3.f0 x.f3.f1 x.f4 = some (decide (Ty x)) := by
 unfold override_Check_4.f Ty
 split
 ·congr 1
  exact dec_eq (by omega)
 ·congr 1
  exact dec_no (by omega)
theorem e2_val (L : List S26) (hL : Small L) : Evn (fun k => override_Check_1__c34.f k L) (decide (¬ ∃ j, j < L.length ∧ ¬ Rg (ld L j))) := by
 have hlen := hL.1
 obtain ⟨r, hr, he⟩ := find (fun i => ¬ Rg (ld L i)) (fun k i => api_Hold__c31___.l0 k L (L.length : Int) i) L.length
  (Evn.step (fun k => by rw [api_Hold__c31___.l0]) (Evn.neg (by omega) (Evn.const _)))
  (fun i hi hb => by
   refine Evn.step (fun k => by rw [api_Hold__c31___.l0]) (Evn.pos (by omega) (Evn.pos (by omega) (Evn.pos (by omega) ?_)))
   rw [ld_def]
   refine Evn.bind (Evn.bind (Evn.of (rg_val _)) (Evn.const _)) ?_
   rw [decide_eq_false hb]
   exact Evn.const _)
  (fun i hi hb u hu => by
   refine Evn.step (fun k => by rw [api_Hold__c31___.l0]) (Evn.pos (by omega) (Evn.pos (by omega) (Evn.pos (by omega) ?_)))
   rw [ld_def, w64 (by omega) (by omega)]
   refine Evn.bind (Evn.bind (Evn.of (rg_val _)) (Evn.const _)) ?_
   rw [decide_eq_true (Classical.not_not.1 hb)]
   exact hu) L.length 0 (by omega)
 exact Evn.of_eq (every_val (g := fun k => api_Hold__c31___.l0 k L (L.length : Int) ((0 : Nat) : Int)) hr he) (dec_eq Iff.rfl)
theorem e3_val (L : List S26) (hL : Small L) : Evn (fun k => override_Check_1__c35.f k L) (decide (¬ ∃ j, j < L.length ∧ ¬ Ty (ld L j))) := by
 have hlen := hL.1
 obtain ⟨r, hr, he⟩ := find (fun i => ¬ Ty (ld L i)) (fun k i => api_Hold__c31_____.l0 k L (L.length : Int) i) L.length
  (Evn.step (fun k => by rw [api_Hold__c31_____.l0]) (Evn.neg (by omega) (Evn.const _)))
  (fun i hi hb => by
   refine Evn.step (fun k => by rw [api_Hold__c31_____.l0]) (Evn.pos (by omega) (Evn.pos (by omega) (Evn.pos (by omega) ?_)))
   rw [ld_def]
   refine Evn.bind (Evn.bind (Evn.of (ty_val _)) (Evn.const _)) ?_
   rw [decide_eq_false hb]
   exact Evn.const _)
  (fun i hi hb u hu => by
   refine Evn.step (fun k => by rw [api_Hold__c31_____.l0]) (Evn.pos (by omega) (Evn.pos (by omega) (Evn.pos (by omega) ?_)))
   rw [ld_def, w64 (by omega) (by omega)]
   refine Evn.bind (Evn.bind (Evn.of (ty_val _)) (Evn.const _)) ?_
   rw [decide_eq_true (Classical.not_not.1 hb)]
   exact hu) L.length 0 (by omega)
 exact Evn.of_eq (every_val (g := fun k => api_Hold__c31_____.l0 k L (L.length : Int) ((0 : Nat) : Int)) hr he) (dec_eq Iff.rfl)
theorem c36_val (L : List S26) (hL : L.length ≤ 100000) (x : S26) : Evn (fun k => api_Hold__c36.f k L x.f0 x.f1 x.f2 x.f3.f0 x.f3.f1 x.f4) (decide (∃ j, j < L.length ∧ (ld L j).f4 = x.f4)) := by
 obtain ⟨r, hr, he⟩ := find (fun i => (ld L i).f4 = x.f4) (fun k i => api_Hold__c36_.l0 k L (L.length : Int) i x.f0 x.f1 x.f2 x.f3.f0 x.f3.f1 x.f4) L.length
  (Evn.step (fun k => by rw [api_Hold__c36_.l0]) (Evn.neg (by omega) (Evn.const _)))
  (fun i hi hb => by
   refine Evn.step (fun k => by rw [api_Hold__c36_.l0]) (Evn.pos (by omega) (Evn.pos (by omega) (Evn.pos (by omega) ?_)))
   rw [ld_def]
   refine Evn.bind (Evn.const ((ld L i).f4 == x.f4)) ?_
   rw [beq_iff_eq.2 hb]
   exact Evn.const _)
  (fun i hi hb u hu => by
   refine Evn.step (fun k => by rw [api_Hold__c36_.l0]) (Evn.pos (by omega) (Evn.pos (by omega) (Evn.pos (by omega) ?_)))
   rw [ld_def, w64 (by omega) (by omega)]
   refine Evn.bind (Evn.const ((ld L i).f4 == x.f4)) ?_
   rw [beq_eq_false_iff_ne.2 hb]
   exact hu) L.length 0 (by omega)
 refine Evn.bind (g := fun k => api_Hold__c36_.l0 k L (L.length : Int) ((0 : Nat) : Int) x.f0 x.f1 x.f2 x.f3.f0 x.f3.f1 x.f4) hr (Evn.of_eq (Evn.const _) ?_)
 rw [ex0] at he
 exact dec_eq he
theorem nlt_iff (x y : S26) : Op.bytesLess x.f0.toList y.f0.toList = true ↔ nlt x y := bless _ _
theorem dq_val (L : List S26) (hL : Small L) : Evn (fun k => override_Check.l0 k L (L.length : Int) 0 L) (if ∃ j, j < L.length ∧ Dq L j then 5 else 0) := by
 have hlen := hL.1
 have hj : ∀ (i : Nat) (b : Bool), i < L.length → ∀ u, (b = false → Evn (fun k => override_Check.l0 k L (L.length : Int) ((i : Int) + 1) L) u) → (b = true → u = 5) → Evn (fun k => override_Check.j1 k L (L.length : Int) (i : Int) b L) u := by
  intro i b hi u h1 h2
  refine Evn.step (fun k => by rw [override_Check.j1]) ?_
  cases b with
  | true =>
   rw [h2 rfl]
   exact Evn.pos rfl (Evn.const _)
  | false =>
   rw [w64 (by omega) (by omega)]
   exact Evn.neg (by decide) (h1 rfl)
 have hc : ∀ i : Nat, i < L.length → Evn (fun k => api_Hold__c36.f k (L.take i) (ld L i).f0 (ld L i).f1 (ld L i).f2 (ld L i).f3.f0 (ld L i).f3.f1 (ld L i).f4) (decide (∃ j, j < i ∧ (ld L j).f4 = (ld L i).f4)) := by
  intro i hi
  refine Evn.of_eq (c36_val (L.take i) (by rw [List.length_take]; omega) (ld L i)) ?_
  rw [decide_eq_decide, List.length_take, Nat.min_eq_left (by omega)]
  constructor
  ·rintro ⟨j, h1, h2⟩
   exact ⟨j, h1, by rw [← ld_take L i j h1]; exact h2⟩
  ·rintro ⟨j, h1, h2⟩
   exact ⟨j, h1, by rw [ld_take L i j h1]; exact h2⟩
 have hstep : ∀ i : Nat, i < L.length → ∀ u, (¬ Dq L i → Evn (fun k => override_Check.l0 k L (L.length : Int) ((i : Int) + 1) L) u) → (Dq L i → u = 5) → Evn (fun k => override_Check.l0 k L (L.length : Int) (i : Int) L) u := by
  intro i hi u h1 h2
  refine Evn.step (fun k => by rw [override_Check.l0]) (Evn.pos (by omega) (Evn.pos (by omega) (Evn.pos (by omega) ?_)))
  simp only [ld_def, Int.toNat_natCast]
  refine Evn.ite (fun h0 => ?_) (fun h0 => ?_)
  ·rw [w64 (by omega) (by omega)]
   have ei : ((i : Int) - 1) = ((i - 1 : Nat) : Int) := by omega
   rw [ei]
   simp only [ld_def]
   refine Evn.pos (by omega) (Evn.pos (by omega) (Evn.ite (fun hlt => ?_) (fun hlt => ?_)))
   ·refine Evn.pos (by omega) (Evn.bind (hc i hi) (hj i _ hi u (fun hb => h1 ?_) (fun hb => h2 ?_)))
    ·rw [decide_eq_false_iff_not] at hb
     rintro (⟨_, h⟩ | h)
     ·exact h ((nlt_iff _ _).1 hlt)
     ·exact hb h
    ·exact .inr (of_decide_eq_true hb)
   ·exact hj i _ hi u (fun hb => by cases hb) (fun _ => h2 (.inl ⟨by omega, fun h => hlt ((nlt_iff _ _).2 h)⟩))
  ·refine Evn.pos (by omega) (Evn.bind (hc i hi) (hj i _ hi u (fun hb => h1 ?_) (fun hb => h2 ?_)))
   ·rw [decide_eq_false_iff_not] at hb
    rintro (⟨h, _⟩ | h)
    ·omega
    ·exact hb h
   ·exact .inr (of_decide_eq_true hb)
 refine Evn.of_eq (search (Dq L) (fun k i => override_Check.l0 k L (L.length : Int) i L) L.length (e := 5) (v := 0)
  (Evn.step (fun k => by rw [override_Check.l0]) (Evn.neg (by omega) (Evn.const _)))
  (fun i hi hb => hstep i hi 5 (fun h => absurd hb h) (fun _ => rfl)) (fun i hi hb u hu => hstep i hi u (fun _ => hu) (fun h => absurd h hb)) L.length 0 (by omega)) ?_
 by_cases h : ∃ j, j < L.length ∧ Dq L j
 ·rw [if_pos h, if_pos (ex0.2 h)]
 ·rw [if_neg h, if_neg (fun h2 => h (ex0.1 h2))]
theorem check_val (L : List S26) (hL : Small L) : Evn (fun k => override_Check.f k L) (errOf L) := by
 unfold override_Check.f errOf
 refine Evn.ite (fun h => ?_) (fun h => ?_)
 ·rw [if_pos (by omega)]
  exact Evn.const _
 ·rw [if_neg (by omega)]
  refine Evn.bind (e1_val L hL) ?_
  by_cases h1 : ∃ j, j < L.length ∧ ¬ NameOk (ld L j).f0
  ·rw [if_pos h1, decide_eq_false (fun hn => hn h1)]
   exact Evn.neg (by decide) (Evn.const _)
  ·rw [if_neg h1, decide_eq_true h1]
   refine Evn.pos rfl (Evn.bind (e2_val L hL) ?_)
   by_cases h2 : ∃ j, j < L.length ∧ ¬ Rg (ld L j)
   ·rw [if_pos h2, decide_eq_false (fun hn => hn h2)]
    exact Evn.neg (by decide) (Evn.const _)
   ·rw [if_neg h2, decide_eq_true h2]
    refine Evn.pos rfl (Evn.bind (e3_val L hL) ?_)
    by_cases h3 : ∃ j, j < L.length ∧ ¬ Ty (ld L j)
    ·rw [if_pos h3, decide_eq_false (fun hn => hn h3)]
     exact Evn.neg (by decide) (Evn.const _)
    ·rw [if_neg h3, decide_eq_true h3]
     refine Evn.pos rfl (Evn.of_eq (dq_val L hL) ?_)
     by_cases h4 : ∃ j, j < L.length ∧ Dq L j
     ·rw [if_pos h4, if_pos ((dq_dp L _).1 h4)]
     ·rw [if_neg h4, if_neg (fun h5 => h4 ((dq_dp L _).2 h5))]
end
end Go.Proofs.Ytaoicdkjjjlmeaa.PD34
namespace Go.Proofs.Ytaoicdkjjjlmeaa.PD34
open Go.RowKit Go.Proofs.YtaoicdkjjjlmeaaW.PrintWords Go.Proofs.YtaoicdkjjjlmeaaW.PrintLast Go.Proofs.YtaoicdkjjjlmeaaW.PrintMore
open Go.Proofs.YtaoicdkjjjlmeaaX
section
open Classical
theorem in_val (a b c : Int) : plenumref34_in.f a b c = some (decide (b ≤ a ∧ a ≤ c)) := by
 unfold plenumref34_in.f
 split
 ·congr 1
  exact dec_eq (by omega)
 ·congr 1
  exact dec_no (by omega)
theorem r4_val (L : List S26) (hL : Small L) (i : Nat) (hi : i < L.length) (u : Int) (h1 : ¬ Dp L i → Evn (fun k => plenumref34_Check.l3 k L ((i : Int) + 1)) u) (h2 : Dp L i → u = 5) : Evn (fun k => plenumref34_Check.l4 k L (i : Int) 0) u := by
 have hlen := hL.1
 have hs := search (fun j => (ld L j).f4 = (ld L i).f4 ∨ ¬ nlt (ld L j) (ld L i)) (fun k j => plenumref34_Check.l4 k L (i : Int) j) i (e := 5) (v := u)
 by_cases hd : Dp L i
 ·obtain rfl := h2 hd
  refine search1 (fun j => (ld L j).f4 = (ld L i).f4 ∨ ¬ nlt (ld L j) (ld L i)) (fun k j => plenumref34_Check.l4 k L (i : Int) j) i (e := 5) ?_ ?_ i 0 (by omega) ?_
  ·intro j hj hb
   refine Evn.step (fun k => by rw [plenumref34_Check.l4]) (Evn.pos (by omega) (Evn.pos (by omega) (Evn.pos (by omega) (Evn.pos (by omega) (Evn.pos (by omega) ?_)))))
   simp only [ld_def]
   refine Evn.ite (fun _ => Evn.const _) (fun hq => Evn.neg (fun hlt => ?_) (Evn.const _))
   rcases hb with hb | hb
   ·exact hq hb
   ·exact hb ((nlt_iff _ _).1 hlt)
  ·intro j hj hb w hw
   refine Evn.step (fun k => by rw [plenumref34_Check.l4]) (Evn.pos (by omega) (Evn.pos (by omega) (Evn.pos (by omega) (Evn.pos (by omega) (Evn.pos (by omega) ?_)))))
   simp only [ld_def]
   rw [w64 (by omega) (by omega)]
   refine Evn.neg (fun he => hb (.inl he)) (Evn.pos ((nlt_iff _ _).2 ?_) hw)
   by_cases hn : nlt (ld L j) (ld L i)
   ·exact hn
   ·exact absurd (.inr hn) hb
  ·obtain ⟨j, hj, hb⟩ := hd
   exact ⟨j, Nat.zero_le _, hj, hb⟩
 ·have hu := h1 hd
  have := search (fun j => (ld L j).f4 = (ld L i).f4 ∨ ¬ nlt (ld L j) (ld L i)) (fun k j => plenumref34_Check.l4 k L (i : Int) j) i (e := u) (v := u)
   (Evn.step (fun k => by rw [plenumref34_Check.l4]) (Evn.neg (by omega) (by rw [w64 (by omega) (by omega)]; exact hu)))
   (fun j hj hb => absurd ⟨j, hj, hb⟩ hd)
   (fun j hj hb w hw => by
    refine Evn.step (fun k => by rw [plenumref34_Check.l4]) (Evn.pos (by omega) (Evn.pos (by omega) (Evn.pos (by omega) (Evn.pos (by omega) (Evn.pos (by omega) ?_)))))
    simp only [ld_def]
    rw [w64 (by omega) (by omega)]
    refine Evn.neg (fun he => hb (.inl he)) (Evn.pos ((nlt_iff _ _).2 ?_) hw)
    by_cases hn : nlt (ld L j) (ld L i)
    ·exact hn
    ·exact absurd (.inr hn) hb) i 0 (by omega)
  rw [ite_self] at this
  exact this
theorem r3_val (L : List S26) (hL : Small L) : Evn (fun k => plenumref34_Check.l3 k L 0) (if ∃ j, j < L.length ∧ Dp L j then 5 else 0) := by
 have hlen := hL.1
 refine Evn.of_eq (search (Dp L) (fun k i => plenumref34_Check.l3 k L i) L.length (e := 5) (v := 0)
  (Evn.step (fun k => by rw [plenumref34_Check.l3]) (Evn.neg (by omega) (Evn.const _)))
  (fun i hi hb => Evn.step (fun k => by rw [plenumref34_Check.l3]) (Evn.pos (by omega) (r4_val L hL i hi 5 (fun h => absurd hb h) (fun _ => rfl))))
  (fun i hi hb u hu => Evn.step (fun k => by rw [plenumref34_Check.l3]) (Evn.pos (by omega) (r4_val L hL i hi u (fun _ => hu) (fun h => absurd h hb)))) L.length 0 (by omega)) ?_
 by_cases h : ∃ j, j < L.length ∧ Dp L j
 ·rw [if_pos h, if_pos (ex0.2 h)]
 ·rw [if_neg h, if_neg (fun h2 => h (ex0.1 h2))]
theorem chain (P : Nat → Prop) (f : Nat → Int → Option Int) (n : Nat) (e v : Int) {inst : Decidable (∃ j, j < n ∧ P j)} (hend : Evn (fun k => f k (n : Int)) v) (hbad : ∀ i : Nat, i < n → P i → Evn (fun k => f k (i : Int)) e)
  (hnext : ∀ i : Nat, i < n → ¬ P i → ∀ u, Evn (fun k => f k ((i : Int) + 1)) u → Evn (fun k => f k (i : Int)) u) : Evn (fun k => f k 0) (@ite Int (∃ j, j < n ∧ P j) inst e v) := by
 refine Evn.of_eq (search P f n hend hbad hnext n 0 (by omega)) ?_
 by_cases h : ∃ j, j < n ∧ P j
 ·rw [if_pos h, if_pos (ex0.2 h)]
 ·rw [if_neg h, if_neg (fun h2 => h (ex0.1 h2))]
theorem refcheck_val (L : List S26) (hL : Small L) : Evn (fun k => plenumref34_Check.f k L) (errOf L) := by
 have hlen := hL.1
 unfold plenumref34_Check.f errOf
 refine Evn.ite (fun h => ?_) (fun h => ?_)
 ·rw [if_pos (by omega)]
  exact Evn.const _
 ·rw [if_neg (by omega)]
  have h2 : Evn (fun k => plenumref34_Check.l2 k L 0) (if ∃ j, j < L.length ∧ ¬ Ty (ld L j) then 11 else if ∃ j, j < L.length ∧ Dp L j then 5 else 0) := by
   refine chain (fun j => ¬ Ty (ld L j)) (fun k i => plenumref34_Check.l2 k L i) L.length _ _ (Evn.step (fun k => by rw [plenumref34_Check.l2]) (Evn.neg (by omega) (r3_val L hL))) ?_ ?_
   ·intro i hi hb
    refine Evn.step (fun k => by rw [plenumref34_Check.l2]) (Evn.pos (by omega) (Evn.pos (by omega) (Evn.bind (Evn.of (in_val _ _ _)) (Evn.neg ?_ (Evn.const _)))))
    intro hd; have hd := of_decide_eq_true hd; exact hb hd
   ·intro i hi hb u hu
    refine Evn.step (fun k => by rw [plenumref34_Check.l2]) (Evn.pos (by omega) (Evn.pos (by omega) (Evn.bind (Evn.of (in_val _ _ _)) (Evn.pos ?_ ?_))))
    ·exact decide_eq_true (Classical.not_not.1 hb)
    ·rw [w64 (by omega) (by omega)]
     exact hu
  have hj2 : ∀ (i : Nat) (b : Bool), i < L.length → ∀ u, (b = false → Evn (fun k => plenumref34_Check.l1 k L ((i : Int) + 1)) u) → (b = true → u = 6) → Evn (fun k => plenumref34_Check.j2 k L (i : Int) b) u := by
   intro i b hi u h1 h2
   refine Evn.step (fun k => by rw [plenumref34_Check.j2]) ?_
   cases b with
   | true =>
    rw [h2 rfl]
    exact Evn.pos rfl (Evn.const _)
   | false =>
    rw [w64 (by omega) (by omega)]
    exact Evn.neg (by decide) (h1 rfl)
  have hs1 : ∀ (i : Nat), i < L.length → ∀ u, (Rg (ld L i) → Evn (fun k => plenumref34_Check.l1 k L ((i : Int) + 1)) u) → (¬ Rg (ld L i) → u = 6) → Evn (fun k => plenumref34_Check.l1 k L (i : Int)) u := by
   intro i hi u h1 h2
   refine Evn.step (fun k => by rw [plenumref34_Check.l1]) (Evn.pos (by omega) (Evn.pos (by omega) (Evn.bind (Evn.of (in_val _ _ _)) ?_)))
   simp only [ld_def]
   refine Evn.ite (fun g1 => Evn.bind (Evn.of (in_val _ _ _)) (Evn.ite (fun g2 => Evn.ite (fun g3 => hj2 i _ hi u (fun h => by cases h) (fun _ => h2 ?_)) (fun g3 => Evn.bind (Evn.of (in_val _ _ _)) (hj2 i _ hi u (fun h => h1 ?_) (fun h => h2 ?_)))) (fun g2 => hj2 i _ hi u (fun h => by cases h) (fun _ => h2 ?_)))) (fun g1 => hj2 i _ hi u (fun h => by cases h) (fun _ => h2 ?_))
   ·have g1 := of_decide_eq_true g1
    have g2 := of_decide_eq_true g2
    unfold Rg
    omega
   ·have g1 := of_decide_eq_true g1
    have g2 := of_decide_eq_true g2
    rw [Bool.not_eq_false'] at h
    have h := of_decide_eq_true h
    unfold Rg
    omega
   ·have g1 := of_decide_eq_true g1
    have g2 := of_decide_eq_true g2
    rw [Bool.not_eq_true'] at h
    have h := of_decide_eq_false h
    unfold Rg
    omega
   ·have g1 := of_decide_eq_true g1
    have g2 : ¬ (0 ≤ (ld L i).f2 ∧ (ld L i).f2 ≤ 6311433600) := fun hp => g2 (decide_eq_true hp)
    unfold Rg
    omega
   ·have g1 : ¬ (0 ≤ (ld L i).f1 ∧ (ld L i).f1 ≤ 6311433600) := fun hp => g1 (decide_eq_true hp)
    unfold Rg
    omega
  have h1 : Evn (fun k => plenumref34_Check.l1 k L 0) (if ∃ j, j < L.length ∧ ¬ Rg (ld L j) then 6 else if ∃ j, j < L.length ∧ ¬ Ty (ld L j) then 11 else if ∃ j, j < L.length ∧ Dp L j then 5 else 0) := by
   refine chain (fun j => ¬ Rg (ld L j)) (fun k i => plenumref34_Check.l1 k L i) L.length _ _ (Evn.step (fun k => by rw [plenumref34_Check.l1]) (Evn.neg (by omega) h2)) ?_ ?_
   ·intro i hi hb
    exact hs1 i hi 6 (fun h => absurd h hb) (fun _ => rfl)
   ·intro i hi hb u hu
    exact hs1 i hi u (fun _ => hu) (fun h => absurd h hb)
  refine chain (fun j => ¬ NameOk (ld L j).f0) (fun k i => plenumref34_Check.l0 k L i) L.length _ _ (Evn.step (fun k => by rw [plenumref34_Check.l0]) (Evn.neg (by omega) h1)) ?_ ?_
  ·intro i hi hb
   refine Evn.step (fun k => by rw [plenumref34_Check.l0]) (Evn.pos (by omega) (Evn.pos (by omega) ?_))
   rw [ld_def]
   refine Evn.bind (refname_val _ (hL.2 i)) (Evn.neg ?_ (Evn.const _))
   intro hd; have hd := of_decide_eq_true hd; exact hb hd
  ·intro i hi hb u hu
   refine Evn.step (fun k => by rw [plenumref34_Check.l0]) (Evn.pos (by omega) (Evn.pos (by omega) ?_))
   rw [ld_def]
   refine Evn.bind (refname_val _ (hL.2 i)) (Evn.pos ?_ ?_)
   ·exact decide_eq_true (Classical.not_not.1 hb)
   ·rw [w64 (by omega) (by omega)]
    exact hu
def FewP (L : List S26) : Prop := L.length ≤ 70 ∧ ∀ j, j < L.length → ((ld L j).f0.size : Int) ≤ 100
theorem few_val (L : List S26) : Evn (fun k => plenumref34_Few.f k L) (decide (FewP L)) := by
 unfold plenumref34_Few.f
 refine Evn.ite (fun h => Evn.of_eq (Evn.const _) (dec_no (fun hf => by have := hf.1; omega))) (fun h => ?_)
 refine Evn.of_eq (search (fun i => 100 < ((ld L i).f0.size : Int)) (fun k i => plenumref34_Few.l0 k L i) L.length (e := false) (v := true)
  (Evn.step (fun k => by rw [plenumref34_Few.l0]) (Evn.neg (by omega) (Evn.const _)))
  (fun i hi hb => by
   refine Evn.step (fun k => by rw [plenumref34_Few.l0]) (Evn.pos (by omega) (Evn.pos (by omega) (Evn.pos ?_ (Evn.const _))))
   rw [ld_def]
   exact hb)
  (fun i hi hb u hu => by
   refine Evn.step (fun k => by rw [plenumref34_Few.l0]) (Evn.pos (by omega) (Evn.pos (by omega) (Evn.neg ?_ ?_)))
   ·rw [ld_def]
    exact hb
   ·rw [w64 (by omega) (by omega)]
    exact hu) L.length 0 (by omega)) ?_
 by_cases hb : ∃ j, j < L.length ∧ 100 < ((ld L j).f0.size : Int)
 ·rw [if_pos (ex0.2 hb)]
  obtain ⟨j, h1, h2⟩ := hb
  exact dec_no (fun hf => by have := hf.2 j h1; omega)
 ·rw [if_neg (fun h2 => hb (ex0.1 h2))]
  refine (decide_eq_true ?_).symm
  refine ⟨by omega, fun j hj => ?_⟩
  by_cases h3 : 100 < ((ld L j).f0.size : Int)
  ·exact absurd ⟨j, hj, h3⟩ hb
  ·omega
theorem small_of {L : List S26} (h : FewP L) : Small L := by
 refine ⟨by have := h.1; omega, fun i => ?_⟩
 rcases Nat.lt_or_ge i L.length with hi | hi
 ·have := h.2 i hi
  omega
 ·have e : ld L i = z26 := by
   show L.getD (i : Int).toNat z26 = z26
   rw [Int.toNat_natCast, List.getD_eq_getElem?_getD, List.getElem?_eq_none hi]
   rfl
  rw [e]
  exact (by decide : (0 : Nat) ≤ 1000)
end
end Go.Proofs.Ytaoicdkjjjlmeaa.PD34
namespace Go.Proofs.Ytaoicdkjjjlmeaa.PD34
open Go.RowKit Go.Proofs.YtaoicdkjjjlmeaaW.PrintWords Go.Proofs.YtaoicdkjjjlmeaaW.PrintLast Go.Proofs.YtaoicdkjjjlmeaaW.PrintMore
open Go.Proofs.YtaoicdkjjjlmeaaX
def two : List S26 := [(⟨(⟨#[97]⟩ : ByteArray), 100, 200, (⟨2, 1⟩ : S24), 1⟩ : S26), (⟨(⟨#[98]⟩ : ByteArray), 150, 160, (⟨2, 1⟩ : S24), 2⟩ : S26)]
theorem sorted4 : ([100, 200, 150, 160] : List Int).mergeSort (fun x y => decide (x ≤ y)) = [100, 150, 160, 200] := by
 simp [List.mergeSort, List.MergeSort.Internal.splitInTwo]
theorem sort4 : slices_Sort_int_int.f [100, 200, 150, 160] = some [100, 150, 160, 200] := by
 unfold slices_Sort_int_int.f
 rw [sorted4]
 rfl
theorem ends60 : override_ends.f 60 two = some [100, 150, 160, 200] := by
 have h : override_ends.f 60 two = (slices_Sort_int_int.f [100, 200, 150, 160]).bind fun t => some t := by kernel_rfl
 rw [h, sort4]
 rfl
theorem pieces60 : override_Pieces.f 60 two 140 210 = some ([⟨140, 150, 0⟩, ⟨150, 160, 1⟩, ⟨160, 200, 0⟩, ⟨200, 210, -1⟩], 0) := by
 unfold override_Pieces.f
 rw [ends60]
 kernel_rfl
theorem next60 : override_Next.f 60 two 140 = some (150, 0) := by
 unfold override_Next.f
 rw [ends60]
 kernel_rfl
theorem next60b : override_Next.f 60 two 200 = some (0, 9) := by
 unfold override_Next.f
 rw [ends60]
 kernel_rfl
theorem awake60 : plenumlaw34_awake.f 60 = some true := by
 unfold plenumlaw34_awake.f
 rw [Option.bind_some]
 show (override_Pieces.f 60 two 140 210).bind _ = _
 rw [pieces60, Option.bind_some]
 show (override_Next.f 60 two 140).bind _ = _
 rw [next60, Option.bind_some]
 show (override_Next.f 60 two 200).bind _ = _
 rw [next60b, Option.bind_some]
 kernel_rfl
theorem awake_val : Evn (fun k => plenumlaw34_awake.f k) true := by
 refine ⟨60, fun k hk => ?_⟩
 obtain ⟨d, rfl⟩ : ∃ d, k = 60 + d := ⟨k - 60, by omega⟩
 induction d with
 | zero => exact awake60
 | succ d ih => exact plenumlaw34_awake.mono (60 + d) true (ih (by omega))
theorem pieces_no {L : List S26} {a b e : Int} (h : Evn (fun k => override_Check.f k L) e) (he : e ≠ 0) : Evn (fun k => override_Pieces.f k L a b) ([], e) := by
 unfold override_Pieces.f
 exact Evn.bind h (Evn.neg he (Evn.const _))
theorem next_no {L : List S26} {a e : Int} (h : Evn (fun k => override_Check.f k L) e) (he : e ≠ 0) : Evn (fun k => override_Next.f k L a) (0, e) := by
 unfold override_Next.f
 exact Evn.bind h (Evn.neg he (Evn.const _))
theorem add_no {L : List S26} {x : S26} {e : Int} (h : Evn (fun k => override_Check.f k L) e) (he : e ≠ 0) : Evn (fun k => override_Add.f k L x.f0 x.f1 x.f2 x.f3.f0 x.f3.f1 x.f4) ([], e) := by
 unfold override_Add.f
 exact Evn.bind h (Evn.neg he (Evn.const _))
theorem remove_no {L : List S26} {s : ByteArray} {e : Int} (h : Evn (fun k => override_Check.f k L) e) (he : e ≠ 0) : Evn (fun k => override_Remove.f k L s) ([], e) := by
 unfold override_Remove.f
 exact Evn.bind h (Evn.neg he (Evn.const _))
theorem at_no {L : List S26} {a e : Int} (h : Evn (fun k => override_Check.f k L) e) (he : e ≠ 0) : Evn (fun k => override_At.f k L a) (-1) := by
 unfold override_At.f
 exact Evn.bind h (Evn.neg he (Evn.const _))
theorem value_no {L : List S26} {a b c e : Int} (h : Evn (fun k => override_Check.f k L) e) (he : e ≠ 0) : Evn (fun k => override_Value.f k L a b c) (b, c) := by
 unfold override_Value.f
 exact Evn.bind (at_no h he) (Evn.neg (by decide) (Evn.const _))
theorem expire_no {L : List S26} {a e : Int} (h : Evn (fun k => override_Check.f k L) e) (he : e ≠ 0) : Evn (fun k => override_Expire.f k L a) [] := by
 unfold override_Expire.f
 exact Evn.bind h (Evn.neg he (Evn.const _))
end Go.Proofs.Ytaoicdkjjjlmeaa.PD34
namespace Go.Proofs.Ytaoicdkjjjlmeaa.PD34
open Go.RowKit Go.Proofs.YtaoicdkjjjlmeaaW.PrintWords Go.Proofs.YtaoicdkjjjlmeaaW.PrintLast Go.Proofs.YtaoicdkjjjlmeaaW.PrintMore
open Go.Proofs.YtaoicdkjjjlmeaaX
theorem ld_drop (L : List S26) (j : Nat) (h : j < L.length) : L.drop j = ld L j :: L.drop (j + 1) := by
 rw [ld_get L j h]
 exact List.drop_eq_getElem_cons h
theorem compact (p : S26 → Bool) (n : Nat) (f : Nat → List S26 → Int → Int → Option (List S26))
  (hend : ∀ (M : List S26) (i : Nat), M.length = n → i ≤ n → Evn (fun k => f k M (i : Int) (n : Int)) (M.take i))
  (hdel : ∀ (M : List S26) (i j : Nat), M.length = n → j < n → p (ld M j) = true → ∀ u, Evn (fun k => f k M (i : Int) ((j : Int) + 1)) u → Evn (fun k => f k M (i : Int) (j : Int)) u)
  (hkeep : ∀ (M : List S26) (i j : Nat), M.length = n → j < n → i ≤ j → p (ld M j) = false → ∀ u, Evn (fun k => f k (M.set i (ld M j)) ((i : Int) + 1) ((j : Int) + 1)) u → Evn (fun k => f k M (i : Int) (j : Int)) u) :
  ∀ (d : Nat) (M : List S26) (i j : Nat), M.length = n → i ≤ j → j + d = n → Evn (fun k => f k M (i : Int) (j : Int)) (M.take i ++ (M.drop j).filter fun x => !p x)
 | 0, M, i, j, hn, hij, hd => by
  obtain rfl : j = n := by omega
  rw [List.drop_eq_nil_of_le (by omega), List.filter_nil, List.append_nil]
  exact hend M i hn hij
 | d + 1, M, i, j, hn, hij, hd => by
  have hj : j < M.length := by omega
  rw [ld_drop M j hj]
  cases hp : p (ld M j) with
  | true =>
   rw [List.filter_cons_of_neg (by simp [hp])]
   refine hdel M i j hn (by omega) hp _ ?_
   exact compact p n f hend hdel hkeep d M i (j + 1) hn (by omega) (by omega)
  | false =>
   rw [List.filter_cons_of_pos (by simp [hp])]
   refine hkeep M i j hn (by omega) hij hp _ ?_
   have ih := compact p n f hend hdel hkeep d (M.set i (ld M j)) (i + 1) (j + 1) (by rw [List.length_set]; exact hn) (by omega) (by omega)
   refine Evn.of_eq ih ?_
   have hi : i < M.length := by omega
   have e1 : (M.set i (ld M j)).take (i + 1) = M.take i ++ [ld M j] := by
    rw [List.take_succ_eq_append_getElem (by rw [List.length_set]; exact hi), List.getElem_set_self, List.take_set_of_le (Nat.le_refl _)]
   have e2 : (M.set i (ld M j)).drop (j + 1) = M.drop (j + 1) := List.drop_set_of_lt (by omega)
   rw [e1, e2, List.append_assoc]
   rfl
theorem find1 (bad : Nat → Prop) (f : Nat → Int → Option Int) (n : Nat) (hend : Evn (fun k => f k (n : Int)) (-1)) (hbad : ∀ i : Nat, i < n → bad i → Evn (fun k => f k (i : Int)) (i : Int))
  (hnext : ∀ i : Nat, i < n → ¬ bad i → ∀ u, Evn (fun k => f k ((i : Int) + 1)) u → Evn (fun k => f k (i : Int)) u) : ∀ (m i : Nat), i + m = n → (∀ j, j < i → ¬ bad j) →
  ((∀ j, j < n → ¬ bad j) ∧ Evn (fun k => f k (i : Int)) (-1)) ∨ ∃ r : Nat, r < n ∧ bad r ∧ (∀ j, j < r → ¬ bad j) ∧ Evn (fun k => f k (i : Int)) (r : Int)
 | 0, i, hm, hb => by
  obtain rfl : i = n := by omega
  exact .inl ⟨hb, hend⟩
 | m + 1, i, hm, hb => by
  by_cases h : bad i
  ·exact .inr ⟨i, by omega, h, hb, hbad i (by omega) h⟩
  ·have hb' : ∀ j, j < i + 1 → ¬ bad j := by
    intro j hj
    rcases Nat.lt_or_ge j i with h2 | h2
    ·exact hb j h2
    ·obtain rfl : j = i := by omega
     exact h
   rcases find1 bad f n hend hbad hnext m (i + 1) (by omega) hb' with ⟨h1, h2⟩ | ⟨r, h1, h2, h3, h4⟩
   ·exact .inl ⟨h1, hnext i (by omega) h _ h2⟩
   ·exact .inr ⟨r, h1, h2, h3, hnext i (by omega) h _ h4⟩
theorem filter_all (p : S26 → Bool) (L : List S26) (h : ∀ j, j < L.length → ¬ p (ld L j) = true) : L.filter (fun x => !p x) = L := by
 rw [List.filter_eq_self]
 intro x hx
 obtain ⟨j, hj, rfl⟩ := List.getElem_of_mem hx
 have := h j hj
 rw [ld_get L j hj] at this
 simpa using this
theorem filter_from (p : S26 → Bool) (L : List S26) (r : Nat) (hr : r < L.length) (hb : p (ld L r) = true) (h : ∀ j, j < r → ¬ p (ld L j) = true) : L.filter (fun x => !p x) = L.take r ++ (L.drop (r + 1)).filter fun x => !p x := by
 have h1 : (L.take r).filter (fun x => !p x) = L.take r := filter_all p (L.take r) (fun j hj => by
  rw [List.length_take] at hj
  rw [ld_take L r j (by omega)]
  exact h j (by omega))
 conv => lhs; rw [← List.take_append_drop r L, List.filter_append, h1, ld_drop L r hr, List.filter_cons_of_neg (by simp [hb])]
theorem deleted (p : S26 → Bool) (L : List S26) (hL : L.length ≤ 100000) (g : Nat → Int → Option Int) (f : Nat → List S26 → Int → Int → Option (List S26))
  (hend : ∀ (M : List S26) (i : Nat), M.length = L.length → i ≤ L.length → Evn (fun k => f k M (i : Int) (L.length : Int)) (M.take i))
  (hdel : ∀ (M : List S26) (i j : Nat), M.length = L.length → j < L.length → p (ld M j) = true → ∀ u, Evn (fun k => f k M (i : Int) ((j : Int) + 1)) u → Evn (fun k => f k M (i : Int) (j : Int)) u)
  (hkeep : ∀ (M : List S26) (i j : Nat), M.length = L.length → j < L.length → i ≤ j → p (ld M j) = false → ∀ u, Evn (fun k => f k (M.set i (ld M j)) ((i : Int) + 1) ((j : Int) + 1)) u → Evn (fun k => f k M (i : Int) (j : Int)) u)
  (gend : Evn (fun k => g k (L.length : Int)) (-1)) (gbad : ∀ i : Nat, i < L.length → p (ld L i) = true → Evn (fun k => g k (i : Int)) (i : Int))
  (gnext : ∀ i : Nat, i < L.length → ¬ p (ld L i) = true → ∀ u, Evn (fun k => g k ((i : Int) + 1)) u → Evn (fun k => g k (i : Int)) u) :
  Evn (fun k => (g k 0).bind fun t => if t = (-1) then some L else f k L t (wrap64 (t + 1))) (L.filter fun x => !p x) := by
 rcases find1 (fun i => p (ld L i) = true) g L.length gend gbad gnext L.length 0 (by omega) (fun j hj => by omega) with ⟨h1, h2⟩ | ⟨r, h1, h2, h3, h4⟩
 ·rw [filter_all p L h1]
  exact Evn.bind h2 (Evn.pos rfl (Evn.const _))
 ·rw [filter_from p L r h1 h2 h3]
  refine Evn.bind h4 (Evn.neg (by omega) ?_)
  rw [w64 (by omega) (by omega), show (r : Int) + 1 = ((r + 1 : Nat) : Int) by omega]
  exact compact p L.length f hend hdel hkeep (L.length - (r + 1)) L r (r + 1) rfl (by omega) (by omega)
theorem eta26 (x : S26) : (⟨x.f0, x.f1, x.f2, (⟨x.f3.f0, x.f3.f1⟩ : S24), x.f4⟩ : S26) = x := rfl
theorem take_rep (M : List S26) (i : Nat) (h : i ≤ M.length) : (M.take i ++ List.replicate (M.length - i) z26).take i = M.take i := List.take_left' (by rw [List.length_take]; omega)
theorem c23_val (L : List S26) (hL : L.length ≤ 100000) (h : S26) : Evn (fun k => api_Hold__c23.f k L h.f0 h.f1 h.f2 h.f3.f0 h.f3.f1 h.f4) (L.filter fun x => !(x.f0.toList == h.f0.toList)) := by
 unfold api_Hold__c23.f api_Hold__c23_.f
 refine deleted (fun x => x.f0.toList == h.f0.toList) L hL (fun k i => api_Hold__c23_.l0 k L (L.length : Int) i h.f0 h.f1 h.f2 h.f3.f0 h.f3.f1 h.f4) (fun k M i j => api_Hold__c23.l0 k M i j h.f0 h.f1 h.f2 h.f3.f0 h.f3.f1 h.f4) ?_ ?_ ?_ ?_ ?_ ?_
 ·intro M i hM hi
  rw [← hM] at hi ⊢
  refine Evn.step (fun k => by rw [api_Hold__c23.l0]) (Evn.neg (by omega) (Evn.pos (by omega) (Evn.pos (by omega) ?_)))
  rw [Int.toNat_natCast, take_rep M i hi]
  exact Evn.const _
 ·intro M i j hM hj hp u hu
  refine Evn.step (fun k => by rw [api_Hold__c23.l0]) (Evn.pos (by omega) (Evn.pos (by omega) ?_))
  rw [ld_def, w64 (by omega) (by omega)]
  exact Evn.bind (Evn.const ((ld M j).f0.toList == h.f0.toList)) (Evn.pos hp hu)
 ·intro M i j hM hj hij hp u hu
  refine Evn.step (fun k => by rw [api_Hold__c23.l0]) (Evn.pos (by omega) (Evn.pos (by omega) ?_))
  rw [ld_def, w64 (by omega) (by omega), w64 (by omega) (by omega), Int.toNat_natCast, eta26]
  exact Evn.bind (Evn.const ((ld M j).f0.toList == h.f0.toList)) (Evn.neg (by rw [hp]; decide) (Evn.pos (by omega) (Evn.pos (by omega) hu)))
 ·exact Evn.step (fun k => by rw [api_Hold__c23_.l0]) (Evn.neg (by omega) (Evn.const _))
 ·intro i hi hp
  refine Evn.step (fun k => by rw [api_Hold__c23_.l0]) (Evn.pos (by omega) (Evn.pos (by omega) (Evn.pos (by omega) ?_)))
  rw [ld_def]
  exact Evn.bind (Evn.const ((ld L i).f0.toList == h.f0.toList)) (Evn.pos hp (Evn.const _))
 ·intro i hi hp u hu
  refine Evn.step (fun k => by rw [api_Hold__c23_.l0]) (Evn.pos (by omega) (Evn.pos (by omega) (Evn.pos (by omega) ?_)))
  rw [ld_def, w64 (by omega) (by omega)]
  exact Evn.bind (Evn.const ((ld L i).f0.toList == h.f0.toList)) (Evn.neg hp hu)
theorem c25_val (L : List S26) (hL : L.length ≤ 100000) (s : ByteArray) : Evn (fun k => api_Hold__c25.f k L s) (L.filter fun x => !(x.f0.toList == s.toList)) := by
 unfold api_Hold__c25.f api_Hold__c25_.f
 refine deleted (fun x => x.f0.toList == s.toList) L hL (fun k i => api_Hold__c25_.l0 k L (L.length : Int) i s) (fun k M i j => api_Hold__c25.l0 k M i j s) ?_ ?_ ?_ ?_ ?_ ?_
 ·intro M i hM hi
  rw [← hM] at hi ⊢
  refine Evn.step (fun k => by rw [api_Hold__c25.l0]) (Evn.neg (by omega) (Evn.pos (by omega) (Evn.pos (by omega) ?_)))
  rw [Int.toNat_natCast, take_rep M i hi]
  exact Evn.const _
 ·intro M i j hM hj hp u hu
  refine Evn.step (fun k => by rw [api_Hold__c25.l0]) (Evn.pos (by omega) (Evn.pos (by omega) ?_))
  rw [ld_def, w64 (by omega) (by omega)]
  exact Evn.bind (Evn.const ((ld M j).f0.toList == s.toList)) (Evn.pos hp hu)
 ·intro M i j hM hj hij hp u hu
  refine Evn.step (fun k => by rw [api_Hold__c25.l0]) (Evn.pos (by omega) (Evn.pos (by omega) ?_))
  rw [ld_def, w64 (by omega) (by omega), w64 (by omega) (by omega), Int.toNat_natCast, eta26]
  exact Evn.bind (Evn.const ((ld M j).f0.toList == s.toList)) (Evn.neg (by rw [hp]; decide) (Evn.pos (by omega) (Evn.pos (by omega) hu)))
 ·exact Evn.step (fun k => by rw [api_Hold__c25_.l0]) (Evn.neg (by omega) (Evn.const _))
 ·intro i hi hp
  refine Evn.step (fun k => by rw [api_Hold__c25_.l0]) (Evn.pos (by omega) (Evn.pos (by omega) (Evn.pos (by omega) ?_)))
  rw [ld_def]
  exact Evn.bind (Evn.const ((ld L i).f0.toList == s.toList)) (Evn.pos hp (Evn.const _))
 ·intro i hi hp u hu
  refine Evn.step (fun k => by rw [api_Hold__c25_.l0]) (Evn.pos (by omega) (Evn.pos (by omega) (Evn.pos (by omega) ?_)))
  rw [ld_def, w64 (by omega) (by omega)]
  exact Evn.bind (Evn.const ((ld L i).f0.toList == s.toList)) (Evn.neg hp hu)
theorem c28_val (L : List S26) (hL : L.length ≤ 100000) (t : Int) : Evn (fun k => api_Hold__c28.f k L t) (L.filter fun x => !(decide (x.f2 ≤ t))) := by
 unfold api_Hold__c28.f api_Hold__c28_.f
 refine deleted (fun x => decide (x.f2 ≤ t)) L hL (fun k i => api_Hold__c28_.l0 k L (L.length : Int) i t) (fun k M i j => api_Hold__c28.l0 k M i j t) ?_ ?_ ?_ ?_ ?_ ?_
 ·intro M i hM hi
  rw [← hM] at hi ⊢
  refine Evn.step (fun k => by rw [api_Hold__c28.l0]) (Evn.neg (by omega) (Evn.pos (by omega) (Evn.pos (by omega) ?_)))
  rw [Int.toNat_natCast, take_rep M i hi]
  exact Evn.const _
 ·intro M i j hM hj hp u hu
  refine Evn.step (fun k => by rw [api_Hold__c28.l0]) (Evn.pos (by omega) (Evn.pos (by omega) ?_))
  rw [ld_def, w64 (by omega) (by omega)]
  exact Evn.bind (Evn.const (decide ((ld M j).f2 ≤ t))) (Evn.pos hp hu)
 ·intro M i j hM hj hij hp u hu
  refine Evn.step (fun k => by rw [api_Hold__c28.l0]) (Evn.pos (by omega) (Evn.pos (by omega) ?_))
  rw [ld_def, w64 (by omega) (by omega), w64 (by omega) (by omega), Int.toNat_natCast, eta26]
  exact Evn.bind (Evn.const (decide ((ld M j).f2 ≤ t))) (Evn.neg (by rw [hp]; decide) (Evn.pos (by omega) (Evn.pos (by omega) hu)))
 ·exact Evn.step (fun k => by rw [api_Hold__c28_.l0]) (Evn.neg (by omega) (Evn.const _))
 ·intro i hi hp
  refine Evn.step (fun k => by rw [api_Hold__c28_.l0]) (Evn.pos (by omega) (Evn.pos (by omega) (Evn.pos (by omega) ?_)))
  rw [ld_def]
  exact Evn.bind (Evn.const (decide ((ld L i).f2 ≤ t))) (Evn.pos hp (Evn.const _))
 ·intro i hi hp u hu
  refine Evn.step (fun k => by rw [api_Hold__c28_.l0]) (Evn.pos (by omega) (Evn.pos (by omega) (Evn.pos (by omega) ?_)))
  rw [ld_def, w64 (by omega) (by omega)]
  exact Evn.bind (Evn.const (decide ((ld L i).f2 ≤ t))) (Evn.neg hp hu)
end Go.Proofs.Ytaoicdkjjjlmeaa.PD34
namespace Go.Proofs.Ytaoicdkjjjlmeaa.PD34
open Go.RowKit Go.Proofs.YtaoicdkjjjlmeaaW.PrintWords Go.Proofs.YtaoicdkjjjlmeaaW.PrintLast Go.Proofs.YtaoicdkjjjlmeaaW.PrintMore
open Go.Proofs.YtaoicdkjjjlmeaaX
theorem take_ld (L : List S26) (i : Nat) (h : i < L.length) : L.take (i + 1) = L.take i ++ [ld L i] := by
 rw [ld_get L i h]
 exact List.take_succ_eq_append_getElem h
theorem filter_take (p : S26 → Bool) (L : List S26) (i : Nat) (h : i < L.length) : (L.take (i + 1)).filter p = (L.take i).filter p ++ (if p (ld L i) = true then [ld L i] else []) := by
 rw [take_ld L i h, List.filter_append]
 congr 1
 cases hp : p (ld L i) with
 | true => simp [hp]
 | false => simp [hp]
theorem filter_len (p : S26 → Bool) (L : List S26) (i : Nat) : ((L.take i).filter p).length ≤ L.length := Nat.le_trans (List.length_filter_le _ _) (by rw [List.length_take]; omega)
theorem refremove_val (L : List S26) (hL : L.length ≤ 100000) (s : ByteArray) : Evn (fun k => plenumref34_Remove.f k L s) (L.filter fun x => !(x.f0.toList == s.toList)) := by
 unfold plenumref34_Remove.f
 have h := fold (fun k st i => plenumref34_Remove.l0 k L s st i) (fun i => (L.take i).filter fun x => !(x.f0.toList == s.toList)) L.length (v := L.filter fun x => !(x.f0.toList == s.toList))
  (Evn.step (fun k => by rw [plenumref34_Remove.l0]) (Evn.neg (by omega) (Evn.of_eq (Evn.const _) (by rw [List.take_length]))))
  (fun i hi u hu => by
   refine Evn.step (fun k => by rw [plenumref34_Remove.l0]) (Evn.pos (by omega) (Evn.pos (by omega) ?_))
   simp only [filter_take _ L i hi] at hu
   rw [ld_def, w64 (by omega) (by omega), eta26]
   have hlen := filter_len (fun x => !(x.f0.toList == s.toList)) L i
   refine Evn.ite (fun he => ?_) (fun he => Evn.pos (by omega) ?_)
   ·rw [if_neg (by simp [he]), List.append_nil] at hu
    exact hu
   ·rw [if_pos (by simp [he])] at hu
    exact hu) L.length 0 (by omega)
 exact h
theorem refexpire_val (L : List S26) (hS : Small L) (t : Int) : Evn (fun k => plenumref34_Expire.f k L t) (if errOf L = 0 then L.filter fun x => !(decide (x.f2 ≤ t)) else []) := by
 have hL := hS.1
 unfold plenumref34_Expire.f
 by_cases he : errOf L = 0
 ·rw [if_pos he]
  have h := fold (fun k st i => plenumref34_Expire.l0 k L t st i) (fun i => (L.take i).filter fun x => !(decide (x.f2 ≤ t))) L.length (v := L.filter fun x => !(decide (x.f2 ≤ t)))
   (Evn.step (fun k => by rw [plenumref34_Expire.l0]) (Evn.neg (by omega) (Evn.step (fun k => by rw [plenumref34_Expire.j1]) (Evn.neg (by decide) (Evn.of_eq (Evn.const _) (by rw [List.take_length]))))))
   (fun i hi u hu => by
    refine Evn.step (fun k => by rw [plenumref34_Expire.l0]) (Evn.pos (by omega) (Evn.bind (refcheck_val L hS) ?_))
    rw [he]
    refine Evn.step (fun k => by rw [plenumref34_Expire.j1]) ?_
    refine Evn.pos rfl (Evn.pos (by omega) (Evn.pos (by omega) ?_))
    simp only [filter_take _ L i hi] at hu
    rw [ld_def, w64 (by omega) (by omega), eta26]
    have hlen := filter_len (fun x => !(decide (x.f2 ≤ t))) L i
    refine Evn.ite (fun hg => Evn.pos (by omega) ?_) (fun hg => ?_)
    ·rw [if_pos (by simp; omega)] at hu
     exact hu
    ·rw [if_neg (by simp; omega), List.append_nil] at hu
     exact hu) L.length 0 (by omega)
  exact h
 ·rw [if_neg he]
  by_cases hn : 0 < L.length
  ·refine Evn.step (fun k => by rw [plenumref34_Expire.l0]) (Evn.pos (by omega) (Evn.bind (refcheck_val L hS) ?_))
   rw [beq_eq_false_iff_ne.2 he]
   exact Evn.step (fun k => by rw [plenumref34_Expire.j1]) (Evn.neg (by decide) (Evn.const _))
  ·exact Evn.step (fun k => by rw [plenumref34_Expire.l0]) (Evn.neg (by omega) (Evn.step (fun k => by rw [plenumref34_Expire.j1]) (Evn.neg (by decide) (Evn.const _))))
theorem expire_val (L : List S26) (hS : Small L) (t : Int) : Evn (fun k => override_Expire.f k L t) (if errOf L = 0 then L.filter fun x => !(decide (x.f2 ≤ t)) else []) := by
 have hL := hS.1
 by_cases he : errOf L = 0
 ·rw [if_pos he]
  unfold override_Expire.f
  refine Evn.bind (check_val L hS) (Evn.pos he ?_)
  refine Evn.bind (v := L) (Evn.of (by unfold api_Hold_22.f; rw [if_pos (by omega)])) (Evn.bind (c28_val L hL t) (Evn.const _))
 ·rw [if_neg he]
  exact expire_no (check_val L hS) he
theorem remove_val (L : List S26) (hS : Small L) (he : errOf L = 0) (s : ByteArray) : Evn (fun k => override_Remove.f k L s) (if (L.filter fun x => !(x.f0.toList == s.toList)).length = L.length then ([], 9) else (L.filter (fun x => !(x.f0.toList == s.toList)), 0)) := by
 have hL := hS.1
 unfold override_Remove.f
 refine Evn.bind (check_val L hS) (Evn.pos he ?_)
 refine Evn.bind (v := L) (Evn.of (by unfold api_Hold_22.f; rw [if_pos (by omega)])) (Evn.bind (c25_val L hL s) (Evn.ite (fun h => ?_) (fun h => ?_)))
 ·rw [if_pos (by omega)]
  exact Evn.const _
 ·rw [if_neg (by omega)]
  exact Evn.const _
theorem same_val (L M : List S26) (hL : L.length ≤ 200000) (e : L = M) : Evn (fun k => plenumref34_Same.f k L M) true := by
 subst e
 unfold plenumref34_Same.f
 refine Evn.pos rfl ?_
 have h := fold (fun k (_ : Unit) i => plenumref34_Same.l0 k L L i) (fun _ => ()) L.length (v := true)
  (Evn.step (fun k => by rw [plenumref34_Same.l0]) (Evn.neg (by omega) (Evn.const _)))
  (fun i hi u hu => by
   refine Evn.step (fun k => by rw [plenumref34_Same.l0]) (Evn.pos (by omega) (Evn.pos (by omega) (Evn.pos (by omega) (Evn.neg ?_ ?_))))
   ·simp
   ·rw [w64 (by omega) (by omega)]
    exact hu) L.length 0 (by omega)
 exact h
theorem nlt_irrefl (x : S26) : ¬ nlt x x := List.lt_irrefl _
theorem nlt_trans {x y z : S26} (h1 : nlt x y) (h2 : nlt y z) : nlt x z := List.lt_trans h1 h2
theorem nlt_of {x y : S26} (h1 : ¬ nlt x y) (h2 : ¬ x.f0.toList = y.f0.toList) : nlt y x := by
 by_cases h : nlt y x
 ·exact h
 ·exact absurd (List.le_antisymm (List.not_lt.1 h) (List.not_lt.1 h1)) h2
def Srt (L : List S26) : Prop := ∀ i j, i < j → j < L.length → nlt (ld L i) (ld L j)
theorem srt_of {L : List S26} (he : errOf L = 0) : Srt L := by
 intro i j hij hj
 unfold errOf at he
 have hd : ¬ ∃ j, j < L.length ∧ Dp L j := by
  intro h
  repeat' split at he
  all_goals first | omega | exact absurd h ‹_›
 by_cases h : nlt (ld L i) (ld L j)
 ·exact h
 ·exact absurd ⟨j, hj, i, hij, .inr h⟩ hd
theorem srt_pw {L : List S26} : Srt L ↔ L.Pairwise nlt := by
 rw [List.pairwise_iff_getElem]
 constructor
 ·intro h i j hi hj hij
  have := h i j hij hj
  rw [ld_get L i hi, ld_get L j hj] at this
  exact this
 ·intro h i j hij hj
  rw [ld_get L i (by omega), ld_get L j hj]
  exact h i j (by omega) hj hij
open Classical in
noncomputable def lessP (h : S26) (x : S26) : Bool := decide (nlt x h)
open Classical in
noncomputable def moreP (h : S26) (x : S26) : Bool := decide (nlt h x)
open Classical in
theorem lessP_iff (h x : S26) : lessP h x = true ↔ nlt x h := ⟨fun e => of_decide_eq_true e, fun e => decide_eq_true e⟩
open Classical in
theorem moreP_iff (h x : S26) : moreP h x = true ↔ nlt h x := ⟨fun e => of_decide_eq_true e, fun e => decide_eq_true e⟩
noncomputable def addOf (L : List S26) (h : S26) : List S26 := L.filter (lessP h) ++ [h] ++ L.filter (moreP h)
theorem refadd_val (L : List S26) (hL : L.length ≤ 100000) (h : S26) : Evn (fun k => plenumref34_Add.f k L h.f0 h.f1 h.f2 h.f3.f0 h.f3.f1 h.f4) (addOf L h) := by
 unfold plenumref34_Add.f
 have hl1 : ∀ (A : List S26), A.length ≤ 200000 → Evn (fun k => plenumref34_Add.l1 k L A 0 h.f0 h.f1 h.f2 h.f3.f0 h.f3.f1 h.f4) (A ++ L.filter (moreP h)) := by
  intro A hA
  have h1 := fold (fun k st i => plenumref34_Add.l1 k L st i h.f0 h.f1 h.f2 h.f3.f0 h.f3.f1 h.f4) (fun i => A ++ (L.take i).filter (moreP h)) L.length (v := A ++ L.filter (moreP h))
   (Evn.step (fun k => by rw [plenumref34_Add.l1]) (Evn.neg (by omega) (Evn.of_eq (Evn.const _) (by rw [List.take_length]))))
   (fun i hi u hu => by
    refine Evn.step (fun k => by rw [plenumref34_Add.l1]) (Evn.pos (by omega) (Evn.pos (by omega) ?_))
    simp only [filter_take _ L i hi] at hu
    rw [ld_def, w64 (by omega) (by omega), eta26]
    have hlen := filter_len (moreP h) L i
    refine Evn.ite (fun hg => Evn.pos (by rw [List.length_append]; omega) ?_) (fun hg => ?_)
    ·rw [if_pos ((moreP_iff h _).2 ((nlt_iff h _).1 hg)), ← List.append_assoc] at hu
     exact hu
    ·rw [if_neg (fun hm => hg ((nlt_iff h _).2 ((moreP_iff h _).1 hm))), List.append_nil] at hu
     exact hu) L.length 0 (by omega)
  simp only [List.take_zero, List.filter_nil, List.append_nil] at h1
  exact h1
 have h0 := fold (fun k st i => plenumref34_Add.l0 k L st i h.f0 h.f1 h.f2 h.f3.f0 h.f3.f1 h.f4) (fun i => (L.take i).filter (lessP h)) L.length (v := addOf L h)
  (Evn.step (fun k => by rw [plenumref34_Add.l0]) (Evn.neg (by omega) (by
   have hlen := filter_len (lessP h) L L.length
   rw [List.take_length] at hlen ⊢
   refine Evn.pos (by omega) ?_
   rw [eta26]
   exact hl1 _ (by rw [List.length_append]; simp; omega))))
  (fun i hi u hu => by
   refine Evn.step (fun k => by rw [plenumref34_Add.l0]) (Evn.pos (by omega) (Evn.pos (by omega) ?_))
   simp only [filter_take _ L i hi] at hu
   rw [ld_def, w64 (by omega) (by omega), eta26]
   have hlen := filter_len (lessP h) L i
   refine Evn.ite (fun hg => Evn.pos (by omega) ?_) (fun hg => ?_)
   ·rw [if_pos ((lessP_iff h _).2 ((nlt_iff _ h).1 hg))] at hu
    exact hu
   ·rw [if_neg (fun hm => hg ((nlt_iff _ h).2 ((lessP_iff h _).1 hm))), List.append_nil] at hu
    exact hu) L.length 0 (by omega)
 exact h0
theorem place {L : List S26} (hs : Srt L) (h : S26) (m : Nat) (hm : m ≤ (L.filter fun x => !(x.f0.toList == h.f0.toList)).length)
  (h1 : ∀ j, j < m → nlt (ld (L.filter fun x => !(x.f0.toList == h.f0.toList)) j) h) (h2 : m < (L.filter fun x => !(x.f0.toList == h.f0.toList)).length → ¬ nlt (ld (L.filter fun x => !(x.f0.toList == h.f0.toList)) m) h) :
  (L.filter fun x => !(x.f0.toList == h.f0.toList)).take m = L.filter (lessP h) ∧ (L.filter fun x => !(x.f0.toList == h.f0.toList)).drop m = L.filter (moreP h) := by
 obtain ⟨O, hO⟩ : ∃ O, O = L.filter fun x => !(x.f0.toList == h.f0.toList) := ⟨_, rfl⟩
 rw [← hO] at hm h1 h2 ⊢
 have hne : ∀ x, x ∈ O → ¬ x.f0.toList = h.f0.toList := by
  intro x hx he
  rw [hO, List.mem_filter] at hx
  simp [he] at hx
 have hsO : Srt O := by
  rw [srt_pw] at hs ⊢
  rw [hO]
  exact hs.sublist List.filter_sublist
 have hlo : ∀ x, x ∈ O.take m → nlt x h := by
  intro x hx
  obtain ⟨j, hj, rfl⟩ := List.getElem_of_mem hx
  rw [List.length_take] at hj
  rw [List.getElem_take, ← ld_get O j (by omega)]
  exact h1 j (by omega)
 have hhi : ∀ x, x ∈ O.drop m → nlt h x := by
  intro x hx
  obtain ⟨j, hj, rfl⟩ := List.getElem_of_mem hx
  rw [List.length_drop] at hj
  rw [List.getElem_drop]
  have hm2 : m < O.length := by omega
  have hmem : ld O m ∈ O := by rw [ld_get O m hm2]; exact List.getElem_mem hm2
  have hb : nlt h (ld O m) := nlt_of (h2 hm2) (hne _ hmem)
  rcases Nat.eq_zero_or_pos j with rfl | hj0
  ·simp only [Nat.add_zero]
   rw [← ld_get O m hm2]
   exact hb
  ·rw [← ld_get O (m + j) (by omega)]
   exact nlt_trans hb (hsO m (m + j) (by omega) (by omega))
 have ef : ∀ p : S26 → Bool, (∀ x, p x = true → ¬ x.f0.toList = h.f0.toList) → L.filter p = O.filter p := by
  intro p hp
  rw [hO, List.filter_filter]
  apply List.filter_congr
  intro x _
  cases hq : p x with
  | false => simp
  | true =>
   have := hp x hq
   simp [this]
 constructor
 ·rw [ef (lessP h) (fun x hx he => nlt_irrefl h (by have h3 := (lessP_iff h x).1 hx; unfold nlt at h3 ⊢; rw [he] at h3; exact h3))]
  conv => rhs; rw [← List.take_append_drop m O, List.filter_append]
  rw [List.filter_eq_self.2 (fun x hx => (lessP_iff h x).2 (hlo x hx)), List.filter_eq_nil_iff.2 (fun x hx hc => nlt_irrefl h (nlt_trans (hhi x hx) ((lessP_iff h x).1 hc))), List.append_nil]
 ·rw [ef (moreP h) (fun x hx he => nlt_irrefl h (by have h3 := (moreP_iff h x).1 hx; unfold nlt at h3 ⊢; rw [he] at h3; exact h3))]
  conv => rhs; rw [← List.take_append_drop m O, List.filter_append]
  rw [List.filter_eq_nil_iff.2 (fun x hx hc => nlt_irrefl h (nlt_trans ((moreP_iff h x).1 hc) (hlo x hx))), List.filter_eq_self.2 (fun x hx => (moreP_iff h x).2 (hhi x hx)), List.nil_append]
theorem add_val (L : List S26) (hS : Small L) (he : errOf L = 0) (h : S26) (hA : Small (addOf L h)) : Evn (fun k => override_Add.f k L h.f0 h.f1 h.f2 h.f3.f0 h.f3.f1 h.f4) (if errOf (addOf L h) = 0 then (addOf L h, 0) else ([], errOf (addOf L h))) := by
 have hL := hS.1
 unfold override_Add.f
 refine Evn.bind (check_val L hS) (Evn.pos he ?_)
 refine Evn.bind (v := L) (Evn.of (by unfold api_Hold_22.f; rw [if_pos (by omega)])) (Evn.bind (c23_val L hL h) ?_)
 have hpl := place (srt_of he) h
 have hOl : (L.filter fun x => !(x.f0.toList == h.f0.toList)).length ≤ 100000 := Nat.le_trans (List.length_filter_le _ _) hL
 obtain ⟨O, hO⟩ : ∃ O, O = L.filter fun x => !(x.f0.toList == h.f0.toList) := ⟨_, rfl⟩
 rw [← hO] at hpl hOl ⊢
 have hj1 : ∀ m : Nat, m ≤ O.length → (∀ j, j < m → nlt (ld O j) h) → (m < O.length → ¬ nlt (ld O m) h) → Evn (fun k => override_Add.j1 k O (m : Int) h.f0 h.f1 h.f2 h.f3.f0 h.f3.f1 h.f4) (if errOf (addOf L h) = 0 then (addOf L h, 0) else ([], errOf (addOf L h))) := by
  intro m hm h1 h2
  obtain ⟨e1, e2⟩ := hpl m hm h1 h2
  refine Evn.step (fun k => by rw [override_Add.j1]) ?_
  refine Evn.bind (v := addOf L h) (Evn.of ?_) (Evn.bind (check_val _ hA) (Evn.ite (fun h0 => ?_) (fun h0 => ?_)))
  ·unfold ins_Hold.f
   rw [if_pos ⟨by omega, by omega, rfl, by omega⟩, Int.toNat_natCast, e1, e2, eta26]
   rfl
  ·rw [if_pos h0]
   exact Evn.const _
  ·rw [if_neg h0]
   exact Evn.const _
 have hloop : ∀ (d m : Nat), m + d = O.length → (∀ j, j < m → nlt (ld O j) h) → Evn (fun k => override_Add.l0 k O (m : Int) h.f0 h.f1 h.f2 h.f3.f0 h.f3.f1 h.f4) (if errOf (addOf L h) = 0 then (addOf L h, 0) else ([], errOf (addOf L h))) := by
  intro d
  induction d with
  | zero =>
   intro m hm h1
   exact Evn.step (fun k => by rw [override_Add.l0]) (Evn.neg (by omega) (hj1 m (by omega) h1 (fun h2 => by omega)))
  | succ d ih =>
   intro m hm h1
   refine Evn.step (fun k => by rw [override_Add.l0]) (Evn.pos (by omega) (Evn.pos (by omega) ?_))
   rw [ld_def]
   refine Evn.ite (fun hg => ?_) (fun hg => hj1 m (by omega) h1 (fun _ hn => hg ((nlt_iff _ _).2 hn)))
   rw [w64 (by omega) (by omega)]
   have := ih (m + 1) (by omega) (fun j hj => by
    rcases Nat.lt_or_ge j m with h3 | h3
    ·exact h1 j h3
    ·obtain rfl : j = m := by omega
     exact (nlt_iff _ _).1 hg)
   exact this
 exact hloop O.length 0 (by omega) (fun j hj => by omega)
end Go.Proofs.Ytaoicdkjjjlmeaa.PD34
namespace Go.Proofs.Ytaoicdkjjjlmeaa.PD34
open Go.RowKit Go.Proofs.YtaoicdkjjjlmeaaW.PrintWords Go.Proofs.YtaoicdkjjjlmeaaW.PrintLast Go.Proofs.YtaoicdkjjjlmeaaW.PrintMore
open Go.Proofs.YtaoicdkjjjlmeaaX
theorem ld_mem (L : List S26) (i : Nat) (h : i < L.length) : ld L i ∈ L := by
 rw [ld_get L i h]
 exact List.getElem_mem h
theorem small_mem {X : List S26} (h1 : X.length ≤ 100000) (h2 : ∀ x, x ∈ X → x.f0.size ≤ 1000) : Small X := by
 refine ⟨h1, fun i => ?_⟩
 rcases Nat.lt_or_ge i X.length with hi | hi
 ·exact h2 _ (ld_mem X i hi)
 ·have e : ld X i = z26 := by
   show X.getD (i : Int).toNat z26 = z26
   rw [Int.toNat_natCast, List.getD_eq_getElem?_getD, List.getElem?_eq_none hi]
   rfl
  rw [e]
  exact (by decide : (0 : Nat) ≤ 1000)
theorem mem_small {X : List S26} (h : Small X) : ∀ x, x ∈ X → x.f0.size ≤ 1000 := by
 intro x hx
 obtain ⟨j, hj, rfl⟩ := List.getElem_of_mem hx
 rw [← ld_get X j hj]
 exact h.2 j
theorem small_add {L : List S26} {h : S26} (h1 : L.length ≤ 70) (hL : Small L) (hh : h.f0.size ≤ 1000) : Small (addOf L h) := by
 refine small_mem ?_ ?_
 ·unfold addOf
  have e1 := List.length_filter_le (lessP h) L
  have e2 := List.length_filter_le (moreP h) L
  simp only [List.length_append, List.length_singleton]
  omega
 ·intro x hx
  unfold addOf at hx
  rw [List.mem_append, List.mem_append] at hx
  rcases hx with (hx | hx) | hx
  ·exact mem_small hL x (List.mem_filter.1 hx).1
  ·rw [List.mem_singleton.1 hx]
   exact hh
  ·exact mem_small hL x (List.mem_filter.1 hx).1
theorem j2_val (L : List S26) (hS : Small L) (t : Int) : Evn (fun k => plenumlaw34_OverrideEdits.j2 k L t) true := by
 refine Evn.step (fun k => by rw [plenumlaw34_OverrideEdits.j2]) (Evn.bind (expire_val L hS t) (Evn.bind (refexpire_val L hS t) (Evn.bind (same_val _ _ ?_ rfl) (Evn.const _))))
 have hL := hS.1
 split
 ·exact Nat.le_trans (List.length_filter_le _ _) (by omega)
 ·exact Nat.zero_le _
theorem j1_val (L : List S26) (hS : Small L) (s : ByteArray) (t : Int) (b : List S26 × Int) (hb : b = if (L.filter fun x => !(x.f0.toList == s.toList)).length = L.length then ([], 9) else (L.filter (fun x => !(x.f0.toList == s.toList)), 0)) :
  Evn (fun k => plenumlaw34_OverrideEdits.j1 k L s t b.1 b.2) true := by
 have hL := hS.1
 refine Evn.step (fun k => by rw [plenumlaw34_OverrideEdits.j1]) (Evn.bind (refremove_val L hL s) (Evn.ite (fun h => ?_) (fun h => ?_)))
 ·rw [if_pos (by omega)] at hb
  rw [hb]
  exact Evn.pos rfl (Evn.pos rfl (j2_val L hS t))
 ·rw [if_neg (by omega)] at hb
  rw [hb]
  refine Evn.pos rfl (Evn.bind (same_val _ _ (Nat.le_trans (List.length_filter_le _ _) (by omega)) rfl) (Evn.pos rfl (j2_val L hS t)))
open Classical in
theorem edits_val (L : List S26) (h : S26) (s : ByteArray) (t : Int) : Evn (fun k => plenumlaw34_OverrideEdits.f k L h.f0 h.f1 h.f2 h.f3.f0 h.f3.f1 h.f4 s t) true := by
 have htrue : Evn (fun k => plenumlaw34_OverrideEdits.j0 k L s t true h.f0 h.f1 h.f2 h.f3.f0 h.f3.f1 h.f4) true :=
  Evn.step (fun k => by rw [plenumlaw34_OverrideEdits.j0]) (Evn.pos rfl (Evn.const _))
 unfold plenumlaw34_OverrideEdits.f
 refine Evn.bind awake_val (Evn.pos rfl (Evn.bind (few_val L) (Evn.ite (fun hf => ?_) (fun _ => htrue))))
 have hf := of_decide_eq_true hf
 have hS := small_of hf
 refine Evn.bind (few_val [h]) (Evn.ite (fun hg => ?_) (fun _ => htrue))
 have hg := of_decide_eq_true hg
 have hh : h.f0.size ≤ 1000 := by
  have := hg.2 0 (by simp)
  have e : ld [h] 0 = h := rfl
  rw [e] at this
  omega
 have hA := small_add (h := h) hf.1 hS hh
 by_cases hs : (s.size : Int) > 100
 ·rw [decide_eq_true hs]
  exact htrue
 ·rw [decide_eq_false hs]
  refine Evn.step (fun k => by rw [plenumlaw34_OverrideEdits.j0]) (Evn.neg (by decide) ?_)
  by_cases he : errOf L = 0
  ·have hadd := add_val L hS he h hA
   by_cases h0 : errOf (addOf L h) = 0
   ·rw [if_pos h0] at hadd
    refine Evn.bind hadd (Evn.bind (remove_val L hS he s) (Evn.bind (refcheck_val L hS) (Evn.pos he ?_)))
    refine Evn.bind (refadd_val L hS.1 h) (Evn.bind (refcheck_val _ hA) (Evn.pos h0 (Evn.pos rfl ?_)))
    refine Evn.bind (same_val _ _ ?_ rfl) (Evn.pos rfl ?_)
    ·exact Nat.le_trans hA.1 (by omega)
    ·exact j1_val L hS s t _ rfl
   ·rw [if_neg h0] at hadd
    refine Evn.bind hadd (Evn.bind (remove_val L hS he s) (Evn.bind (refcheck_val L hS) (Evn.pos he ?_)))
    refine Evn.bind (refadd_val L hS.1 h) (Evn.bind (refcheck_val _ hA) (Evn.neg h0 (Evn.pos rfl (Evn.pos rfl ?_))))
    exact j1_val L hS s t _ rfl
  ·refine Evn.bind (add_no (check_val L hS) he) (Evn.bind (remove_no (check_val L hS) he) (Evn.bind (refcheck_val L hS) (Evn.neg he (Evn.pos rfl ?_))))
   exact Evn.of_eq (Evn.const _) (beq_self_eq_true _)
def G24 (x : S24) : Prop := (Lit.int .i64 x.f0).wf = true ∧ (Lit.int .i64 x.f1).wf = true
def G26 (x : S26) : Prop := x.f0.size ≤ maxLen ∧ (Lit.int .i64 x.f1).wf = true ∧ (Lit.int .i64 x.f2).wf = true ∧ G24 x.f3 ∧ (Lit.int .i64 x.f4).wf = true
theorem pureEdits (L : List S26) (h : S26) (s : ByteArray) (t : Int) (_ : L.length ≤ maxLen ∧ ∀ y, y ∈ L → G26 y) (_ : G26 h) (_ : s.size ≤ maxLen) (_ : (Lit.int .i64 t).wf = true) :
  ∃ k, plenumlaw34_OverrideEdits.f k L h.f0 h.f1 h.f2 h.f3.f0 h.f3.f1 h.f4 s t = some true := Evn.ex (edits_val L h s t)
end Go.Proofs.Ytaoicdkjjjlmeaa.PD34
namespace Go.Proofs.Ytaoicdkjjjlmeaa.PD34
open Go.RowKit Go.Proofs.YtaoicdkjjjlmeaaW.PrintWords Go.Proofs.YtaoicdkjjjlmeaaW.PrintLast Go.Proofs.YtaoicdkjjjlmeaaW.PrintMore
open Go.Proofs.YtaoicdkjjjlmeaaX
def Act (L : List S26) (t : Int) (j : Nat) : Prop := (ld L j).f1 ≤ t ∧ t < (ld L j).f2
def Gov (L : List S26) (t : Int) (i : Nat) (b : Int) : Prop := (b = -1 ∧ ∀ j, j < i → ¬ Act L t j) ∨ ∃ m : Nat, b = (m : Int) ∧ m < i ∧ Act L t m ∧ ∀ j, j < i → Act L t j → (ld L j).f4 ≤ (ld L m).f4
theorem gov_run (L : List S26) (hL : L.length ≤ 100000) (t : Int) : ∀ (d i : Nat) (b : Int), i + d = L.length → Gov L t i b → ∃ r, Evn (fun k => override_governs.l0 k L t b L (L.length : Int) (i : Int)) r ∧ Gov L t L.length r
 | 0, i, b, hd, hg => by
  obtain rfl : i = L.length := by omega
  exact ⟨b, Evn.step (fun k => by rw [override_governs.l0]) (Evn.neg (by omega) (Evn.const _)), hg⟩
 | d + 1, i, b, hd, hg => by
  have hi : i < L.length := by omega
  have hj : ∀ x : Bool, (x = true → Gov L t (i + 1) (i : Int)) → (x = false → Gov L t (i + 1) b) → ∃ r, Evn (fun k => override_governs.j1 k L t b (i : Int) L (L.length : Int) (i : Int) x) r ∧ Gov L t L.length r := by
   intro x h1 h2
   cases x with
   | true =>
    obtain ⟨r, hr, hG⟩ := gov_run L hL t d (i + 1) (i : Int) (by omega) (h1 rfl)
    refine ⟨r, Evn.step (fun k => by rw [override_governs.j1]) (Evn.pos rfl ?_), hG⟩
    rw [w64 (by omega) (by omega)]
    exact hr
   | false =>
    obtain ⟨r, hr, hG⟩ := gov_run L hL t d (i + 1) b (by omega) (h2 rfl)
    refine ⟨r, Evn.step (fun k => by rw [override_governs.j1]) (Evn.neg (by decide) ?_), hG⟩
    rw [w64 (by omega) (by omega)]
    exact hr
  have hstay : ¬ Act L t i → Gov L t (i + 1) b := by
   intro hn
   rcases hg with ⟨rfl, h⟩ | ⟨m, rfl, hm, ha, h⟩
   ·refine .inl ⟨rfl, fun j hj => ?_⟩
    rcases Nat.lt_or_ge j i with h3 | h3
    ·exact h j h3
    ·obtain rfl : j = i := by omega
     exact hn
   ·refine .inr ⟨m, rfl, by omega, ha, fun j hj haj => ?_⟩
    rcases Nat.lt_or_ge j i with h3 | h3
    ·exact h j h3 haj
    ·obtain rfl : j = i := by omega
     exact absurd haj hn
  suffices hs : ∃ x : Bool, (∀ r, Evn (fun k => override_governs.j1 k L t b (i : Int) L (L.length : Int) (i : Int) x) r → Evn (fun k => override_governs.l0 k L t b L (L.length : Int) (i : Int)) r) ∧ (x = true → Gov L t (i + 1) (i : Int)) ∧ (x = false → Gov L t (i + 1) b) by
   obtain ⟨x, h2, h3, h4⟩ := hs
   obtain ⟨r, hr, hG⟩ := hj x h3 h4
   exact ⟨r, h2 r hr, hG⟩
  by_cases ha : Act L t i
  ·rcases hg with ⟨rfl, h⟩ | ⟨m, rfl, hm, ham, h⟩
   ·refine ⟨true, fun r hr => Evn.step (fun k => by rw [override_governs.l0]) ?_, fun _ => .inr ⟨i, rfl, by omega, ha, fun j hj haj => ?_⟩, fun h => by cases h⟩
    ·exact Evn.pos (by omega) (Evn.pos (by omega) (Evn.pos (by omega) (Evn.pos ha.1 (Evn.pos ha.2 (Evn.pos (by omega) hr)))))
    ·rcases Nat.lt_or_ge j i with h3 | h3
     ·exact absurd haj (h j h3)
     ·obtain rfl : j = i := by omega
      exact Int.le_refl _
   ·refine ⟨decide ((ld L i).f4 > (ld L m).f4), fun r hr => Evn.step (fun k => by rw [override_governs.l0]) ?_, fun hx => ?_, fun hx => ?_⟩
    ·exact Evn.pos (by omega) (Evn.pos (by omega) (Evn.pos (by omega) (Evn.pos ha.1 (Evn.pos ha.2 (Evn.neg (by omega) (Evn.pos (by omega) (Evn.pos (by omega) hr)))))))
    ·have hx := of_decide_eq_true hx
     refine .inr ⟨i, rfl, by omega, ha, fun j hj haj => ?_⟩
     rcases Nat.lt_or_ge j i with h3 | h3
     ·have := h j h3 haj
      omega
     ·obtain rfl : j = i := by omega
      exact Int.le_refl _
    ·have hx := of_decide_eq_false hx
     refine .inr ⟨m, rfl, by omega, ham, fun j hj haj => ?_⟩
     rcases Nat.lt_or_ge j i with h3 | h3
     ·exact h j h3 haj
     ·obtain rfl : j = i := by omega
      omega
  ·have hst := hstay ha
   by_cases h1 : (ld L i).f1 ≤ t
   ·have h2 : ¬ t < (ld L i).f2 := fun h2 => ha ⟨h1, h2⟩
    refine ⟨false, fun r hr => Evn.step (fun k => by rw [override_governs.l0]) ?_, (fun h => by cases h), fun _ => hst⟩
    exact Evn.pos (by omega) (Evn.pos (by omega) (Evn.pos (by omega) (Evn.pos h1 (Evn.neg h2 hr))))
   ·refine ⟨false, fun r hr => Evn.step (fun k => by rw [override_governs.l0]) ?_, (fun h => by cases h), fun _ => hst⟩
    exact Evn.pos (by omega) (Evn.pos (by omega) (Evn.pos (by omega) (Evn.neg h1 hr)))
theorem gov_val (L : List S26) (hL : L.length ≤ 100000) (t : Int) : ∃ r, Evn (fun k => override_governs.f k L t) r ∧ Gov L t L.length r := by
 unfold override_governs.f
 exact gov_run L hL t L.length 0 (-1) (by omega) (.inl ⟨rfl, fun j hj => by omega⟩)
theorem at_val (L : List S26) (hS : Small L) (he : errOf L = 0) (t : Int) : ∃ r, Evn (fun k => override_At.f k L t) r ∧ Gov L t L.length r := by
 obtain ⟨r, hr, hg⟩ := gov_val L hS.1 t
 refine ⟨r, ?_, hg⟩
 unfold override_At.f
 exact Evn.bind (check_val L hS) (Evn.pos he (Evn.bind hr (Evn.const _)))
theorem value_val (L : List S26) (hS : Small L) (he : errOf L = 0) (t a b : Int) : ∃ r, Gov L t L.length r ∧ (r = -1 → Evn (fun k => override_Value.f k L t a b) (a, b)) ∧ ∀ m : Nat, r = (m : Int) → Evn (fun k => override_Value.f k L t a b) ((ld L m).f3.f0, (ld L m).f3.f1) := by
 obtain ⟨r, hr, hg⟩ := at_val L hS he t
 refine ⟨r, hg, fun h => ?_, fun m h => ?_⟩
 ·unfold override_Value.f
  subst h
  exact Evn.bind hr (Evn.neg (by decide) (Evn.const _))
 ·have hm : m < L.length := by
   rcases hg with ⟨h2, _⟩ | ⟨m2, h2, h3, _⟩
   ·omega
   ·omega
  unfold override_Value.f
  subst h
  exact Evn.bind hr (Evn.pos (by omega) (Evn.pos (by omega) (Evn.pos (by omega) (Evn.const _))))
end Go.Proofs.Ytaoicdkjjjlmeaa.PD34
namespace Go.Proofs.Ytaoicdkjjjlmeaa.PD34
open Go.RowKit Go.Proofs.YtaoicdkjjjlmeaaW.PrintWords Go.Proofs.YtaoicdkjjjlmeaaW.PrintLast Go.Proofs.YtaoicdkjjjlmeaaW.PrintMore
open Go.Proofs.YtaoicdkjjjlmeaaX
theorem ex_mem (P : S26 → Prop) (L : List S26) : (∃ j, j < L.length ∧ ¬ P (ld L j)) ↔ ∃ x, x ∈ L ∧ ¬ P x := by
 constructor
 ·rintro ⟨j, hj, h⟩
  exact ⟨_, ld_mem L j hj, h⟩
 ·rintro ⟨x, hx, h⟩
  obtain ⟨j, hj, rfl⟩ := List.getElem_of_mem hx
  exact ⟨j, hj, by rw [ld_get L j hj]; exact h⟩
def RR (x y : S26) : Prop := ¬ x.f4 = y.f4 ∧ nlt x y
theorem dp_pw (L : List S26) : (¬ ∃ j, j < L.length ∧ Dp L j) ↔ L.Pairwise RR := by
 rw [List.pairwise_iff_getElem]
 constructor
 ·intro h i j hi hj hij
  refine ⟨fun e => h ⟨j, hj, i, hij, .inl ?_⟩, ?_⟩
  ·rw [ld_get L i hi, ld_get L j hj]
   exact e
  ·by_cases hn : nlt L[i] L[j]
   ·exact hn
   ·refine absurd ⟨j, hj, i, hij, .inr ?_⟩ h
    rw [ld_get L i hi, ld_get L j hj]
    exact hn
 ·rintro h ⟨j, hj, i, hij, hd⟩
  have := h i j (by omega) hj hij
  rw [ld_get L i (by omega), ld_get L j hj] at hd
  rcases hd with hd | hd
  ·exact this.1 hd
  ·exact hd this.2
def Vld (L : List S26) : Prop := L.length ≤ 64 ∧ (∀ x, x ∈ L → NameOk x.f0 ∧ Rg x ∧ Ty x) ∧ L.Pairwise RR
theorem err_vld (L : List S26) : errOf L = 0 ↔ Vld L := by
 unfold errOf Vld
 rw [← dp_pw]
 constructor
 ·intro h
  split at h
  ·omega
  ·split at h
   ·omega
   ·split at h
    ·omega
    ·split at h
     ·omega
     ·split at h
      ·omega
      ·rename_i h1 h2 h3 h4 h5
       refine ⟨by omega, fun x hx => ⟨?_, ?_, ?_⟩, h5⟩
       ·by_cases hn : NameOk x.f0
        ·exact hn
        ·exact absurd ((ex_mem (fun x => NameOk x.f0) L).2 ⟨x, hx, hn⟩) h2
       ·by_cases hn : Rg x
        ·exact hn
        ·exact absurd ((ex_mem Rg L).2 ⟨x, hx, hn⟩) h3
       ·by_cases hn : Ty x
        ·exact hn
        ·exact absurd ((ex_mem Ty L).2 ⟨x, hx, hn⟩) h4
 ·rintro ⟨h1, h2, h3⟩
  rw [if_neg (by omega), if_neg, if_neg, if_neg, if_neg h3]
  ·rintro h
   obtain ⟨x, hx, hn⟩ := (ex_mem Ty L).1 h
   exact hn (h2 x hx).2.2
  ·rintro h
   obtain ⟨x, hx, hn⟩ := (ex_mem Rg L).1 h
   exact hn (h2 x hx).2.1
  ·rintro h
   obtain ⟨x, hx, hn⟩ := (ex_mem (fun x => NameOk x.f0) L).1 h
   exact hn (h2 x hx).1
theorem err_six (L : List S26) (h1 : L.length ≤ 64) (h2 : ∀ x, x ∈ L → NameOk x.f0) (h3 : ∃ x, x ∈ L ∧ ¬ Rg x) : errOf L = 6 := by
 unfold errOf
 rw [if_neg (by omega), if_neg, if_pos ((ex_mem Rg L).2 h3)]
 rintro h
 obtain ⟨x, hx, hn⟩ := (ex_mem (fun x => NameOk x.f0) L).1 h
 exact hn (h2 x hx)
def NoName (L : List S26) (h : S26) : Prop := ∀ x, x ∈ L → ¬ x.f0.toList = h.f0.toList
theorem noname_filter {L : List S26} {h : S26} (hn : NoName L h) : (L.filter fun x => !(x.f0.toList == h.f0.toList)) = L := by
 rw [List.filter_eq_self]
 intro x hx
 have := hn x hx
 simpa using this
theorem split_at (L : List S26) (h : S26) : ∀ (d i : Nat), i + d = L.length → (∀ j, j < i → nlt (ld L j) h) → ∃ m, m ≤ L.length ∧ (∀ j, j < m → nlt (ld L j) h) ∧ (m < L.length → ¬ nlt (ld L m) h)
 | 0, i, hd, hb => ⟨i, by omega, hb, fun h => by omega⟩
 | d + 1, i, hd, hb => by
  by_cases hn : nlt (ld L i) h
  ·exact split_at L h d (i + 1) (by omega) (fun j hj => by
    rcases Nat.lt_or_ge j i with h3 | h3
    ·exact hb j h3
    ·obtain rfl : j = i := by omega
     exact hn)
  ·exact ⟨i, by omega, hb, fun _ => hn⟩
theorem split_eq {L : List S26} {h : S26} (hs : Srt L) (hn : NoName L h) : L.filter (lessP h) ++ L.filter (moreP h) = L := by
 obtain ⟨m, hm, h1, h2⟩ := split_at L h L.length 0 (by omega) (fun j hj => by omega)
 have hf := noname_filter hn
 have := place hs h m (by rw [hf]; exact hm) (by rw [hf]; exact h1) (by rw [hf]; exact h2)
 rw [hf] at this
 rw [← this.1, ← this.2, List.take_append_drop]
theorem mem_add {L : List S26} {h : S26} (hs : Srt L) (hn : NoName L h) (x : S26) : x ∈ addOf L h ↔ x ∈ L ∨ x = h := by
 unfold addOf
 conv => rhs; rw [← split_eq hs hn]
 rw [List.mem_append, List.mem_append, List.mem_append, List.mem_singleton]
 constructor
 ·rintro ((h1 | h1) | h1)
  ·exact .inl (.inl h1)
  ·exact .inr h1
  ·exact .inl (.inr h1)
 ·rintro ((h1 | h1) | h1)
  ·exact .inl (.inl h1)
  ·exact .inr h1
  ·exact .inl (.inr h1)
theorem len_add {L : List S26} {h : S26} (hs : Srt L) (hn : NoName L h) : (addOf L h).length = L.length + 1 := by
 conv => rhs; rw [← split_eq hs hn]
 unfold addOf
 simp only [List.length_append, List.length_singleton]
 omega
theorem uniq_seq {L : List S26} (hp : L.Pairwise RR) {x y : S26} (hx : x ∈ L) (hy : y ∈ L) (e : x.f4 = y.f4) : x = y := by
 obtain ⟨i, hi, rfl⟩ := List.getElem_of_mem hx
 obtain ⟨j, hj, rfl⟩ := List.getElem_of_mem hy
 rw [List.pairwise_iff_getElem] at hp
 rcases Nat.lt_trichotomy i j with h | h | h
 ·exact absurd e (hp i j hi hj h).1
 ·subst h
  rfl
 ·exact absurd e.symm (hp j i hj hi h).1
theorem pw_add {L : List S26} {h : S26} (hp : L.Pairwise RR) (hq : ∀ x, x ∈ L → x.f4 < h.f4) : (addOf L h).Pairwise RR := by
 unfold addOf
 rw [List.pairwise_append, List.pairwise_append]
 refine ⟨⟨hp.sublist List.filter_sublist, List.pairwise_singleton _ _, ?_⟩, hp.sublist List.filter_sublist, ?_⟩
 ·intro a ha b hb
  rw [List.mem_singleton] at hb
  subst hb
  have ha2 := List.mem_filter.1 ha
  refine ⟨fun e => ?_, (lessP_iff _ _).1 ha2.2⟩
  have := hq a ha2.1
  omega
 ·intro a ha b hb
  have hb2 := List.mem_filter.1 hb
  have hhb := (moreP_iff _ _).1 hb2.2
  rw [List.mem_append, List.mem_singleton] at ha
  rcases ha with ha | rfl
  ·have ha2 := List.mem_filter.1 ha
   have hab : nlt a b := nlt_trans ((lessP_iff _ _).1 ha2.2) hhb
   refine ⟨fun e => ?_, hab⟩
   have := uniq_seq hp ha2.1 hb2.1 e
   subst this
   exact nlt_irrefl _ hab
  ·refine ⟨fun e => ?_, hhb⟩
   have := hq b hb2.1
   omega
theorem srt_of_pw {L : List S26} (hp : L.Pairwise RR) : Srt L := srt_pw.2 (hp.imp fun h => h.2)
theorem removed {L : List S26} {h : S26} (hs : Srt L) (hn : NoName L h) : ((addOf L h).filter fun x => !(x.f0.toList == h.f0.toList)) = L := by
 unfold addOf
 rw [List.filter_append, List.filter_append]
 have e1 : (L.filter (lessP h)).filter (fun x => !(x.f0.toList == h.f0.toList)) = L.filter (lessP h) := noname_filter (fun x hx => hn x (List.mem_filter.1 hx).1)
 have e2 : (L.filter (moreP h)).filter (fun x => !(x.f0.toList == h.f0.toList)) = L.filter (moreP h) := noname_filter (fun x hx => hn x (List.mem_filter.1 hx).1)
 have e3 : [h].filter (fun x => !(x.f0.toList == h.f0.toList)) = [] := by simp
 rw [e1, e2, e3, List.append_nil]
 exact split_eq hs hn
def Lives (t : Int) (x : S26) : Prop := x.f1 ≤ t ∧ t < x.f2
theorem gov_mem {L : List S26} {t r : Int} (h : Gov L t L.length r) : (r = -1 ∧ ∀ x, x ∈ L → ¬ Lives t x) ∨ ∃ m : Nat, r = (m : Int) ∧ m < L.length ∧ ld L m ∈ L ∧ Lives t (ld L m) ∧ ∀ x, x ∈ L → Lives t x → x.f4 ≤ (ld L m).f4 := by
 rcases h with ⟨h1, h2⟩ | ⟨m, h1, h2, h3, h4⟩
 ·refine .inl ⟨h1, fun x hx hl => ?_⟩
  obtain ⟨j, hj, rfl⟩ := List.getElem_of_mem hx
  refine h2 j hj ?_
  unfold Act
  rw [ld_get L j hj]
  exact hl
 ·refine .inr ⟨m, h1, h2, ld_mem L m h2, h3, fun x hx hl => ?_⟩
  obtain ⟨j, hj, rfl⟩ := List.getElem_of_mem hx
  have := h4 j hj (by unfold Act; rw [ld_get L j hj]; exact hl)
  rw [ld_get L j hj] at this
  exact this
def hz (a b s : Int) : S26 := ⟨⟨#[122, 122, 122]⟩, a, b, ⟨3, 16⟩, s⟩
theorem zzz_ok : NameOk ⟨#[122, 122, 122]⟩ := by
 refine ⟨by decide, by decide, by decide, by decide, ?_⟩
 intro j h0 h1
 have h1 : j < 3 := h1
 have hj : j = 0 ∨ j = 1 ∨ j = 2 := by omega
 rcases hj with rfl | rfl | rfl <;> decide
theorem zzz_list : (⟨#[122, 122, 122]⟩ : ByteArray).toList = [122, 122, 122] := by decide +kernel
theorem newest_j2 {L : List S26} (hS : Small L) (hV : Vld L) (hl : L.length ≤ 63) (a b t s : Int) (hn : NoName L (hz a b s)) (hq : ∀ x, x ∈ L → x.f4 < s) (hX : Vld (addOf L (hz a b s))) (hXS : Small (addOf L (hz a b s))) (mine : Bool)
  (hm : mine = true ↔ Lives t (hz a b s)) : Evn (fun k => plenumlaw34_OverrideNewest.j2 k L a b t (addOf L (hz a b s)) mine) true := by
 have hs := srt_of_pw hV.2.2
 have hrem : Evn (fun k => override_Remove.f k (addOf L (hz a b s)) ⟨#[122, 122, 122]⟩) (L, 0) := by
  have h := remove_val (addOf L (hz a b s)) hXS ((err_vld _).2 hX) ⟨#[122, 122, 122]⟩
  have e := removed hs hn
  rw [show (hz a b s).f0 = ⟨#[122, 122, 122]⟩ from rfl] at e
  rw [e, len_add hs hn, if_neg (by omega)] at h
  exact h
 have hsame : Evn (fun k => plenumref34_Same.f k L L) true := same_val L L (by omega) rfl
 refine Evn.step (fun k => by rw [plenumlaw34_OverrideNewest.j2]) (Evn.bind hrem ?_)
 have hfin : ∀ f : Nat → Option Bool, True → Evn (fun k => if (0 : Int) = 0 then ((plenumref34_Same.f k L L).bind fun t432 => some t432) else f k) true := fun f _ => Evn.pos rfl (Evn.bind hsame (Evn.const _))
 have hval : mine = false → ∃ p q : Int, Evn (fun k => override_Value.f k (addOf L (hz a b s)) t 0 0) (p, q) ∧ Evn (fun k => override_Value.f k L t 0 0) (p, q) := by
  intro hmf
  have hnl : ¬ Lives t (hz a b s) := fun h => by rw [hm.2 h] at hmf; cases hmf
  obtain ⟨r1, g1, v1, w1⟩ := value_val (addOf L (hz a b s)) hXS ((err_vld _).2 hX) t 0 0
  obtain ⟨r2, g2, v2, w2⟩ := value_val L hS ((err_vld _).2 hV) t 0 0
  have hmem := mem_add (h := hz a b s) hs hn
  rcases gov_mem g1 with ⟨e1, n1⟩ | ⟨m1, e1, l1, i1, a1, x1⟩
  ·rcases gov_mem g2 with ⟨e2, n2⟩ | ⟨m2, e2, l2, i2, a2, x2⟩
   ·exact ⟨0, 0, v1 e1, v2 e2⟩
   ·exact absurd a2 (n1 _ ((hmem _).2 (.inl i2)))
  ·have i1' : ld (addOf L (hz a b s)) m1 ∈ L := by
    rcases (hmem _).1 i1 with h | h
    ·exact h
    ·rw [h] at a1
     exact absurd a1 hnl
   rcases gov_mem g2 with ⟨e2, n2⟩ | ⟨m2, e2, l2, i2, a2, x2⟩
   ·exact absurd a1 (n2 _ i1')
   ·have hle1 := x1 _ ((hmem _).2 (.inl i2)) a2
    have hle2 := x2 _ i1' a1
    have he := uniq_seq hV.2.2 i1' i2 (by omega)
    have hw1 := w1 m1 e1
    rw [he] at hw1
    exact ⟨_, _, hw1, w2 m2 e2⟩
 have hbe : ∀ p q : Int, (p == p && (q == q)) = true := fun p q => by simp
 by_cases h1 : t ≥ a
 ·refine Evn.pos h1 ?_
  have hmb : (mine == decide (t < b)) = true := by
   rw [beq_iff_eq, Bool.eq_iff_iff, hm, decide_eq_true_eq]
   show (a ≤ t ∧ t < b) ↔ t < b
   omega
  refine Evn.pos hmb ?_
  cases hmine : mine with
  | true => exact Evn.pos rfl (hfin _ trivial)
  | false =>
   obtain ⟨p, q, k1, k2⟩ := hval hmine
   exact Evn.neg (by decide) (Evn.bind k1 (Evn.bind k2 (Evn.pos (hbe p q) (hfin _ trivial))))
 ·refine Evn.neg h1 ?_
  have hmf : mine = false := by
   cases hmine : mine with
   | false => rfl
   | true =>
    have : a ≤ t ∧ t < b := hm.1 hmine
    omega
  subst hmf
  obtain ⟨p, q, k1, k2⟩ := hval rfl
  exact Evn.pos rfl (Evn.neg (by decide) (Evn.bind k1 (Evn.bind k2 (Evn.pos (hbe p q) (hfin _ trivial)))))
theorem newest_end {L : List S26} (hf : FewP L) (hl : L.length ≤ 63) (hV : Vld L) (a b t s : Int) (h0 : 0 ≤ s) (h1 : s ≤ 1000000000) (hn : NoName L (hz a b s)) (hq : ∀ x, x ∈ L → x.f4 < s) :
  Evn (fun k => plenumlaw34_OverrideNewest.l0 k L a b t s (L.length : Int)) true := by
 have hS := small_of hf
 have hs := srt_of_pw hV.2.2
 have hXS : Small (addOf L (hz a b s)) := small_add hf.1 hS (by show (3 : Nat) ≤ 1000; omega)
 have hmem := mem_add (h := hz a b s) hs hn
 have hadd := add_val L hS ((err_vld _).2 hV) (hz a b s) hXS
 refine Evn.step (fun k => by rw [plenumlaw34_OverrideNewest.l0]) (Evn.neg (by omega) ?_)
 refine Evn.bind hadd ?_
 by_cases hr : Rg (hz a b s)
 ·have hX : Vld (addOf L (hz a b s)) := by
   refine ⟨by rw [len_add hs hn]; omega, fun x hx => ?_, pw_add hV.2.2 hq⟩
   rcases (hmem x).1 hx with h | rfl
   ·exact hV.2.1 x h
   ·exact ⟨zzz_ok, hr, (by decide : (1 : Int) ≤ 3 ∧ (3 : Int) ≤ 3)⟩
  rw [if_pos ((err_vld _).2 hX)]
  refine Evn.pos rfl ?_
  obtain ⟨r, hr1, hg⟩ := at_val (addOf L (hz a b s)) hXS ((err_vld _).2 hX) t
  refine Evn.bind hr1 ?_
  have hz_in : hz a b s ∈ addOf L (hz a b s) := (hmem _).2 (.inr rfl)
  rcases gov_mem hg with ⟨e1, n1⟩ | ⟨m, e1, l1, i1, a1, x1⟩
  ·refine Evn.neg (by omega) (newest_j2 hS hV hl a b t s hn hq hX hXS false ?_)
   constructor
   ·intro h
    cases h
   ·intro h
    exact absurd h (n1 _ hz_in)
  ·subst e1
   refine Evn.pos (by omega) (Evn.pos (by omega) (Evn.pos (show ((m : Nat) : Int) < ((addOf L (hz a b s)).length : Int) by omega) ?_))
   rw [ld_def]
   refine newest_j2 hS hV hl a b t s hn hq hX hXS _ ?_
   rw [beq_iff_eq]
   constructor
   ·intro h
    rcases (hmem _).1 i1 with h3 | h3
    ·refine absurd ?_ (hn _ h3)
     rw [h]
     exact zzz_list.symm
    ·rw [← h3]
     exact a1
   ·intro h
    have hle := x1 _ hz_in h
    rcases (hmem _).1 i1 with h3 | h3
    ·have h4 := hq _ h3
     have h5 : (hz a b s).f4 = s := rfl
     omega
    ·rw [h3]
     exact zzz_list
 ·have e6 : errOf (addOf L (hz a b s)) = 6 := by
   refine err_six _ (by rw [len_add hs hn]; omega) (fun x hx => ?_) ⟨_, (hmem _).2 (.inr rfl), hr⟩
   rcases (hmem x).1 hx with h | rfl
   ·exact (hV.2.1 x h).1
   ·exact zzz_ok
  rw [e6, if_neg (by decide)]
  exact Evn.neg (by decide) (Evn.of_eq (Evn.const _) rfl)
theorem newest_loop {L : List S26} (hf : FewP L) (hl : L.length ≤ 63) (hV : Vld L) (a b t : Int) : ∀ (d i : Nat) (s : Int), i + d = L.length → 0 ≤ s → s ≤ 1000000000 →
  (∀ j, j < i → ¬ (ld L j).f0.toList = [122, 122, 122] ∧ (ld L j).f4 < s) → Evn (fun k => plenumlaw34_OverrideNewest.l0 k L a b t s (i : Int)) true
 | 0, i, s, hd, h0, h1, hb => by
  obtain rfl : i = L.length := by omega
  refine newest_end hf hl hV a b t s h0 h1 (fun x hx => ?_) (fun x hx => ?_)
  ·obtain ⟨j, hj, rfl⟩ := List.getElem_of_mem hx
   have := (hb j hj).1
   rw [ld_get L j hj] at this
   rw [show (hz a b s).f0.toList = [122, 122, 122] from zzz_list]
   exact this
  ·obtain ⟨j, hj, rfl⟩ := List.getElem_of_mem hx
   have := (hb j hj).2
   rw [ld_get L j hj] at this
   exact this
 | d + 1, i, s, hd, h0, h1, hb => by
  have hi : i < L.length := by omega
  refine Evn.step (fun k => by rw [plenumlaw34_OverrideNewest.l0]) (Evn.pos (by omega) (Evn.pos (by omega) ?_))
  rw [ld_def]
  refine Evn.ite (fun _ => Evn.const _) (fun hn => Evn.ite (fun _ => Evn.const _) (fun hq => ?_))
  have hr := (hV.2.1 _ (ld_mem L i hi)).2.1
  have h4 : 0 ≤ (ld L i).f4 := hr.2.2.2.1
  rw [w64 (by omega) (by omega), w64 (by omega) (by omega)]
  have hmx : mx s ((ld L i).f4 + 1) = if s < (ld L i).f4 + 1 then (ld L i).f4 + 1 else s := rfl
  have := newest_loop hf hl hV a b t d (i + 1) (mx s ((ld L i).f4 + 1)) (by omega) (by rw [hmx]; split <;> omega) (by rw [hmx]; split <;> omega) (fun j hj => by
   rcases Nat.lt_or_ge j i with h3 | h3
   ·refine ⟨(hb j h3).1, ?_⟩
    have := (hb j h3).2
    rw [hmx]
    split <;> omega
   ·obtain rfl : j = i := by omega
    refine ⟨hn, ?_⟩
    rw [hmx]
    split <;> omega)
  exact this
open Classical in
theorem newest_val (L : List S26) (a b t : Int) : Evn (fun k => plenumlaw34_OverrideNewest.f k L a b t) true := by
 have htrue : Evn (fun k => plenumlaw34_OverrideNewest.j0 k L a b t true) true := Evn.step (fun k => by rw [plenumlaw34_OverrideNewest.j0]) (Evn.pos rfl (Evn.const _))
 unfold plenumlaw34_OverrideNewest.f
 refine Evn.bind awake_val (Evn.pos rfl (Evn.bind (few_val L) (Evn.ite (fun hf => ?_) (fun _ => htrue))))
 have hf := of_decide_eq_true hf
 refine Evn.ite (fun _ => htrue) (fun hl => Evn.bind (check_val L (small_of hf)) ?_)
 by_cases he : errOf L = 0
 ·rw [he]
  refine Evn.step (fun k => by rw [plenumlaw34_OverrideNewest.j0]) (Evn.neg (by decide) ?_)
  exact newest_loop hf (by omega) ((err_vld L).1 he) a b t L.length 0 0 (by omega) (by omega) (by omega) (fun j hj => by omega)
 ·rw [show (errOf L != 0) = true from bne_iff_ne.2 he]
  exact htrue
theorem pureNewest (L : List S26) (a b t : Int) (_ : L.length ≤ maxLen ∧ ∀ y, y ∈ L → G26 y) (_ : (Lit.int .i64 a).wf = true) (_ : (Lit.int .i64 b).wf = true) (_ : (Lit.int .i64 t).wf = true) :
  ∃ k, plenumlaw34_OverrideNewest.f k L a b t = some true := Evn.ex (newest_val L a b t)
end Go.Proofs.Ytaoicdkjjjlmeaa.PD34
namespace Go.Proofs.YtaoicdkjjjlmeaaX
open Go.RowKit Go.Deep Go.Proofs.YtaoicdkjjjlmeaaW.PrintWords Go.Proofs.YtaoicdkjjjlmeaaW.PrintLast Go.Proofs.YtaoicdkjjjlmeaaW.PrintMore
section
variable {H : Type} {enc : TypeId × Value → H} {W : World}
def Opens {α : Type} (enc : TypeId × Value → H) (W : World) (kd : Kd α) (t : TypeId) (G : α → Prop) : Prop :=
 ∀ (fuel : Nat) (cs : List Value) (x : DataW H × List MemPlace), DataW.trod enc Try.prog W 0 (fun _ => true) true fuel t cs = some x → ∃ a, kd.K W a cs ∧ G a
theorem opens_int {t : TypeId} {k : IntKind} (ht : Try.prog.underlying t = some (.int k)) : Opens enc W (Kd.int k) t (fun n => (Lit.int k n).wf = true) := by
 intro fuel cs x h
 obtain ⟨n, rfl, _, hw⟩ := DataW.trod_int ht h
 exact ⟨n, rfl, hw⟩
theorem opens_bool {t : TypeId} (ht : Try.prog.underlying t = some .bool) : Opens enc W Kd.bool t (fun _ => True) := by
 intro fuel cs x h
 obtain ⟨b, rfl, _⟩ := DataW.trod_bool ht h
 exact ⟨b, rfl, trivial⟩
theorem opens_string {t : TypeId} (ht : Try.prog.underlying t = some .string) : Opens enc W Kd.string t (fun s => s.size ≤ maxLen) := by
 intro fuel cs x h
 obtain ⟨s, rfl, _, hs⟩ := DataW.trod_string ht h
 exact ⟨s, rfl, hs⟩
theorem opens_slice {α : Type} {kd : Kd α} {t e : TypeId} {G : α → Prop} (ht : Try.prog.underlying t = some (.slice e)) (hc : Try.prog.cellsOf e = kd.sz) (hG : Opens enc W kd e G) :
  Opens enc W (Kd.slice e kd) t (fun l => l.length ≤ maxLen ∧ ∀ x, x ∈ l → G x) := by
 intro fuel cs x h
 rcases open_slice ht h with ⟨rfl, _⟩ | ⟨a, len, cap, m, n, D, Pl, rfl, _, hl, hm, hmm, _, hx⟩
 ·refine ⟨[], ⟨none, 0, rfl, Nat.le_refl _, rfl, by simp, fun hp => absurd hp (by simp)⟩, by simp, fun x hx => by simp at hx⟩
 ·have hlm : len ≤ m := by rw [hmm]; split <;> omega
  have hV0 : ∀ i, i < len → ∃ q : α × List Value, W.cells? 0 (a.add (i * Try.prog.cellsOf e)) (Try.prog.cellsOf e) = some q.2 ∧ kd.K W q.1 q.2 ∧ G q.1 := by
   intro i hi
   obtain ⟨cs', h1, h2⟩ := hx i (by omega)
   obtain ⟨y, hy, hg⟩ := hG n cs' _ h2
   exact ⟨(y, cs'), h1, hy, hg⟩
  obtain ⟨V, hV⟩ : ∃ V : ∀ i, i < len → α × List Value, ∀ i (hi : i < len), W.cells? 0 (a.add (i * Try.prog.cellsOf e)) (Try.prog.cellsOf e) = some (V i hi).2 ∧ kd.K W (V i hi).1 (V i hi).2 ∧ G (V i hi).1 :=
   ⟨fun i hi => Classical.choose (hV0 i hi), fun i hi => Classical.choose_spec (hV0 i hi)⟩
  refine ⟨(List.finRange len).map fun i => (V i.val i.isLt).1, ⟨some a, cap, by simp, by simpa using hl, by simp, by simp only [List.length_map, List.length_finRange]; unfold maxLen at hm; omega, fun _ => ⟨a, rfl, ?_⟩⟩, by simp only [List.length_map, List.length_finRange]; omega, ?_⟩
  ·intro j p hj
   have hj' : j < len := by have := (List.getElem?_eq_some_iff.1 hj).1; simpa using this
   have hp : p = (V j hj').1 := by
    rw [List.getElem?_map, List.getElem?_eq_getElem (by simpa using hj')] at hj
    simp at hj
    exact hj.symm
   obtain ⟨h1, h2, _⟩ := hV j hj'
   obtain ⟨_, hlen, hcell⟩ := World.cells?_some h1
   subst hp
   refine ⟨(V j hj').2, by rw [hlen, hc], h2, fun i u hu => ?_⟩
   have hi : i < Try.prog.cellsOf e := by have := (List.getElem?_eq_some_iff.1 hu).1; omega
   have := hcell i hi
   rw [hu, hc] at this
   rw [← Go.Deep.add_add]
   exact this
  ·intro y hy
   obtain ⟨i, _, rfl⟩ := List.mem_map.1 hy
   exact (hV i.val i.isLt).2.2
def OpensAt {α : Type} (enc : TypeId × Value → H) (W : World) (kd : Kd α) (fs : Array Field) (i off : Nat) (G : α → Prop) : Prop :=
 ∀ cs : List Value, (∀ (j : Nat) (f : Field), fs[j]? = some f → i ≤ j → ∃ fuel x, DataW.trod enc Try.prog W 0 (fun _ => true) true fuel f.type ((cs.drop f.offset).take (Try.prog.cellsOf f.type)) = some x) → cs.length = off + kd.sz → ∃ a, kd.K W a (cs.drop off) ∧ G a
theorem opens_last {α : Type} {kd : Kd α} {fs : Array Field} {i off : Nat} {G : α → Prop} {f : Field} (hf : fs[i]? = some f) (ho : f.offset = off) (hc : Try.prog.cellsOf f.type = kd.sz) (h : Opens enc W kd f.type G) : OpensAt enc W kd fs i off G := by
 intro cs hcs hl
 obtain ⟨fuel, x, hx⟩ := hcs i f hf (Nat.le_refl _)
 rw [ho, hc, List.take_of_length_le (by simp; omega)] at hx
 exact h fuel _ _ hx
theorem opens_pair {α β : Type} {kd : Kd α} {kd2 : Kd β} {fs : Array Field} {i off : Nat} {G : α → Prop} {G2 : β → Prop} {f : Field} (hf : fs[i]? = some f) (ho : f.offset = off) (hc : Try.prog.cellsOf f.type = kd.sz) (h : Opens enc W kd f.type G)
  (h2 : OpensAt enc W kd2 fs (i + 1) (off + kd.sz) G2) : OpensAt enc W (Kd.pair kd kd2) fs i off (fun p => G p.1 ∧ G2 p.2) := by
 intro cs hcs hl
 obtain ⟨fuel, x, hx⟩ := hcs i f hf (Nat.le_refl _)
 rw [ho, hc] at hx
 obtain ⟨a, ha, hg⟩ := h fuel _ _ hx
 have hl' : cs.length = off + kd.sz + kd2.sz := by
  have : (Kd.pair kd kd2).sz = kd.sz + kd2.sz := rfl
  omega
 obtain ⟨b, hb, hg2⟩ := h2 cs (fun j f hf hj => hcs j f hf (by omega)) hl'
 refine ⟨(a, b), ⟨_, _, ?_, ha, hb⟩, hg, hg2⟩
 rw [← List.drop_drop, List.take_append_drop]
theorem opens_struct {α : Type} {kd : Kd α} {t : TypeId} {fs : Array Field} {G : α → Prop} (ht : Try.prog.underlying t = some (.struct fs)) (hc : Try.prog.cellsOf t = kd.sz) (h : OpensAt enc W kd fs 0 0 G) : Opens enc W kd t G := by
 intro fuel cs x hx
 obtain ⟨xs, n, _, _, hlen, hxl, hf⟩ := DataW.trod_struct ht hx
 have := h cs (fun j f hj _ => by
  have hj' : j < xs.length := by have := (Array.getElem?_eq_some_iff.1 hj).1; omega
  exact ⟨n, xs[j], by rw [hf j f hj, List.getElem?_eq_getElem hj']⟩) (by omega)
 simpa using this
theorem opens_iso {α β : Type} {kd : Kd α} {t : TypeId} {G : α → Prop} (g : β → α) (f : α → β) (hgf : ∀ a, g (f a) = a) (h : Opens enc W kd t G) : Opens enc W (Kd.iso kd g) t (fun b => G (g b)) := by
 intro fuel cs x hx
 obtain ⟨a, ha, hg⟩ := h fuel cs x hx
 refine ⟨f a, ?_, ?_⟩
 ·show kd.K W (g (f a)) cs
  rw [hgf]
  exact ha
 ·show G (g (f a))
  rw [hgf]
  exact hg
theorem opens_arg {α : Type} {kd : Kd α} {t e : TypeId} {G : List α → Prop} {v : Value} {d : DataW H} {ps : List MemPlace} (h : Opens enc W (Kd.slice e kd) t G) (hv : ∃ A n c, v = .slice A n c) (hd : DataW.Trod enc Try.prog W 0 (fun _ => true) true t v d ps) :
  ∃ A l c, v = .slice A l.length c ∧ l.length ≤ c ∧ kd.C W A l.length l ∧ G l := by
 obtain ⟨A0, n, c0, rfl⟩ := hv
 obtain ⟨fuel, hx⟩ := hd
 obtain ⟨l, ⟨A, c, hcs, hl, hC⟩, hg⟩ := h fuel _ _ hx
 have : (Value.slice A0 n c0) = .slice A l.length c := by simpa [Value.cells] using hcs
 exact ⟨A, l, c, this, hl, hC, hg⟩
end
end Go.Proofs.YtaoicdkjjjlmeaaX
namespace Go.Proofs.Ytaoicdkjjjlmeaa.PD34
open Go.RowKit Go.Proofs.YtaoicdkjjjlmeaaX Go.Proofs.YtaoicdkjjjlmeaaW.PrintWords Go.Proofs.YtaoicdkjjjlmeaaW.PrintLast Go.Proofs.YtaoicdkjjjlmeaaW.PrintMore
theorem opens_k24 {H : Type} {enc : TypeId × Value → H} {W : World} : Opens enc W k24 24 G24 :=
 opens_iso (fun x : S24 => (x.f0, x.f1)) (fun p => ⟨p.1, p.2⟩) (fun _ => rfl) (opens_struct Try.underlying24 (by kernel_rfl) (opens_pair rfl rfl (by kernel_rfl) (opens_int Try.underlying3) (opens_last rfl rfl (by kernel_rfl) (opens_int Try.underlying2))))
theorem opens_k26 {H : Type} {enc : TypeId × Value → H} {W : World} : Opens enc W k26 26 G26 :=
 opens_iso (fun x : S26 => (x.f0, x.f1, x.f2, x.f3, x.f4)) (fun p => ⟨p.1, p.2.1, p.2.2.1, p.2.2.2.1, p.2.2.2.2⟩) (fun _ => rfl) (opens_struct Try.underlying26 (by kernel_rfl) (opens_pair rfl rfl (by kernel_rfl) (opens_string Try.underlying9) (opens_pair rfl rfl (by kernel_rfl) (opens_int Try.underlying3) (opens_pair rfl rfl (by kernel_rfl) (opens_int Try.underlying3) (opens_pair rfl rfl (by kernel_rfl) opens_k24 (opens_last rfl rfl (by kernel_rfl) (opens_int Try.underlying3)))))))
end Go.Proofs.Ytaoicdkjjjlmeaa.PD34
namespace Go.Proofs.Ytaoicdkjjjlmeaa.overrideNewest
open Go.ChangeShapes Go.WideShapes Go.ChangeAt Go.RowKit
open Go.ChangeMaps (open_string shut_string)
open Go.Proofs.YtaoicdkjjjlmeaaX Go.Proofs.Ytaoicdkjjjlmeaa.PD34 Go.Proofs.YtaoicdkjjjlmeaaW.PrintWords
theorem own : ownKnob Try.prog.godebug = none := by kernel_rfl
theorem laidOut : laidOutB Try.prog = true := by kernel_rfl
set_option maxRecDepth 100000 in
theorem lifted (os : Os) (started : os.Started) (H : Type) (enc : TypeId × Value → H) :
  ReturnsInHanded {} Try.checked os 4 .any (Rows.overrideNewestSpec.pre6 enc Try.prog Try.f4 Rows.overrideNewestRow.domain false) (Rows.overrideNewestSpec.post enc Try.prog Try.f4 false true false false) := by
 refine returnsInHanded_of_change_sized (C := Try.checked) own started (by kernel_rfl) Try.func4
  (ChangeSpec.witness6 (enc := enc) (C := Try.checked) false ⟨#[], #[.slice none 0 0, .int .i64 0, .int .i64 0, .int .i64 0], []⟩ 8 (by kernel_rfl) (by kernel_rfl) (by kernel_rfl) (by kernel_rfl)) ?_
 intro W base args ds gs before hval0 hW hcnd hsz0 _
 have hval : ∀ (j : Nat) t v, Try.f4.params[j]? = some t → args[j]? = some v → Value.okWide Try.prog W .any base t v := hval0
 have hW' := hW
 obtain ⟨p, q, hA0, hV, rfl, hfz, hnd⟩ := hW
 have hA : DataW.TrodAll enc Try.prog W 0 (fun _ => true) true Try.f4.params.toList args.toList ds p := hA0
 rw [Try.params4] at hA hval
 obtain ⟨v0, vs0, d0, ds0, p0, q0, hargs, rfl, rfl, h0, r0⟩ := trodAll_cons hA
 obtain ⟨v1, vs1, d1, ds1, p1, q1, rfl, rfl, rfl, h1, r1⟩ := trodAll_cons r0
 obtain ⟨v2, vs2, d2, ds2, p2, q2, rfl, rfl, rfl, h2, r2⟩ := trodAll_cons r1
 obtain ⟨v3, vs3, d3, ds3, p3, q3, rfl, rfl, rfl, h3, r3⟩ := trodAll_cons r2
 obtain ⟨rfl, rfl, rfl⟩ := trodAll_nil r3
 obtain rfl : args = #[v0, v1, v2, v3] := by cases args; simp_all
 obtain ⟨rfl, rfl⟩ := trodVars_none hV
 obtain ⟨a0, len0, cap0, rfl⟩ := okWide_slice Try.underlying22 (hval 0 22 v0 rfl rfl)
 have k0 := h0
 have lt0 : ∀ x ∈ p0, x.block < W.heap.size := by obtain ⟨m, hm⟩ := k0; exact DataW.trod_lt m _ _ _ hm
 obtain ⟨A0, l0, c0, e0, hc0, hC0, hG0⟩ := opens_arg (kd := k26) (G := fun l => l.length ≤ maxLen ∧ ∀ y, y ∈ l → G26 y) (opens_slice Try.underlying22 (by kernel_rfl) opens_k26) ⟨_, _, _, rfl⟩ h0
 cases e0
 obtain ⟨a1, rfl, rfl, rfl, w1⟩ := open_int Try.underlying3 (hval 1 3 v1 rfl rfl) h1
 obtain ⟨a2, rfl, rfl, rfl, w2⟩ := open_int Try.underlying3 (hval 2 3 v2 rfl rfl) h2
 obtain ⟨a3, rfl, rfl, rfl, w3⟩ := open_int Try.underlying3 (hval 3 3 v3 rfl rfl) h3
 obtain ⟨k, hk⟩ := pureNewest l0 a1 a2 a3 hG0 w1 w2 w3
 clear hA0 hval0 hsz0
 refine (PD34.plenumlaw34_OverrideNewest.calls k _ _ l0 a1 a2 a3 true W hC0 hc0 hk).mono fun e W' ⟨he, bel⟩ => ?_
 subst he
 exact ⟨_, rfl, _, _, _, [], _, [], hW', trodAll_mk1 (shut_bool Try.underlying4 _), (trodAll_cons_mk (Below.trod laidOut (by kernel_rfl) (of_decide_eq_true (by kernel_rfl)) k0 bel lt0) (trodAll_cons_mk (shut_int Try.underlying3 w1) (trodAll_cons_mk (shut_int Try.underlying3 w2) (trodAll_cons_mk (shut_int Try.underlying3 w3) trodAll_mk0)))), rfl, bel.frame _, fun h => by cases h⟩
theorem over : Rows.overrideNewestRow.holds Try.pinned (OpenSpec.ofChange Rows.overrideNewestSpec) :=
 OpenClaim.holds_of_wide 4 Try.f4 rfl rfl rfl rfl rfl rfl rfl ⟨rfl, rfl, rfl, rfl, rfl⟩ rfl rfl rfl rfl rfl (by kernel_rfl) Try.func4 (by kernel_rfl)
  (of_decide_eq_true (by kernel_rfl)) (by unfold Func.isWrapper; first | (rw [if_pos (by decide +kernel)]; kernel_rfl) | (rw [if_neg (by decide +kernel)]; exact ⟨rfl, rfl⟩))
  (fun os started H enc _ => lifted os started H enc)
theorem proved : Rows.OverrideNewestSaid := over
end Go.Proofs.Ytaoicdkjjjlmeaa.overrideNewest
namespace Go.Proofs.Ytaoicdkjjjlmeaa
theorem overrideNewest_holds : Rows.OverrideNewestSaid := overrideNewest.proved
end Go.Proofs.Ytaoicdkjjjlmeaa
