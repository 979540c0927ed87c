/- Words, contracts and plain laws for this claim, part 3. -/
import Derived.Test.YtcdjhdfjkfbgdaaZ2
set_option linter.unusedVariables false
set_option linter.unusedSimpArgs false
namespace Go.Proofs.Ytcdjhdfjkfbgdaa.PD56
open Go.RowKit Go.Proofs.YtcdjhdfjkfbgdaaW.PrintWords Go.Proofs.YtcdjhdfjkfbgdaaW.PrintLast Go.Proofs.YtcdjhdfjkfbgdaaW.PrintMore
attribute [local go_sem] max2_int min2_int max_two min_two max_three min_three max_four min_four
def demand_Order.f (k : Nat) (l0 : List (S43)) : Option (List Int × Int) := (demand_Check.f k l0).bind fun t208 => (if t208 = 0 then ((demand_order.f k l0).bind fun t209 => (some (t209,0))) else (some (([] : List Int),t208)))
theorem demand_Order.mono : ∀ a0 k,LeO (demand_Order.f k a0) (demand_Order.f (k + 1) a0) := by
 intro a0 k
 unfold demand_Order.f
 repeat' first
   | (with_reducible exact demand_Check.mono _ _)
   | (with_reducible exact demand_order.mono _ _)
   | (with_reducible exact LeO.refl _)
   | (with_reducible exact LeO.none _)
   | (with_reducible refine LeO.ite ?_ ?_)
   | (with_reducible refine LeO.bind ?_ (fun _ => ?_))
   | exact demand_Check.mono _ _
   | exact demand_order.mono _ _
   | exact LeO.none _
   | refine LeO.ite ?_ ?_
   | refine LeO.bind ?_ (fun _ => ?_)
set_option maxHeartbeats 100000000 in
set_option maxRecDepth 100000 in
theorem demand_Order.calls (k : Nat) (A0 : Option Addr) (c0 : Nat) (l0 : List (S43)) (r1 : List Int) (r2 : Int) (w : World) (hr0 : Kd.C k43 w A0 l0.length l0) (hc0 : l0.length ≤ c0) (h : demand_Order.f k l0 = some (r1,r2)) :
  Calls Try.prog 17 #[.slice A0 l0.length c0] w fun e w' => ∃ v0_ : Value,e = .returned (.tuple #[v0_,.int .i64 r2]) ∧ Kd.R (Kd.int .i64) 3 w' w.heap.size (fun _ => True) v0_ r1 ∧ Below w.heap.size w w' := by
 have HR0 := Yd hr0
 have HC0 := Yd hc0
 clear hr0 hc0
 have HB := Yd (Below.refl w.heap.size w)
 have H : ((demand_Check.f k l0).bind fun t208 => (if t208 = 0 then ((demand_order.f k l0).bind fun t209 => (some (t209,0))) else (some (([] : List Int),t208)))) = some (r1,r2) := h
 clear h
 replace H := Option.bind_eq_some_iff.mp H
 obtain ⟨t208,A20,H⟩ := H
 replace H : (if t208 = 0 then ((demand_order.f k l0).bind fun t209 => (some (t209,0))) else (some (([] : List Int),t208))) = some (r1,r2) := H
 have A2 := Yd A20
 clear A20
 by_cases c3 : t208 = 0
 ·rw [if_pos c3] at H
  have c3b0 : (t208 == 0) = true := beq_iff_eq.mpr c3
  have c3b1 : (t208 != 0) = false := bne_eq_false_iff_eq.mpr c3
  clear c3
  replace H := Option.bind_eq_some_iff.mp H
  obtain ⟨t209,A40,H⟩ := H
  replace H : (some (t209,0)) = some (r1,r2) := H
  have A4 := Yd A40
  clear A40
  simp only [Option.some.injEq,Prod.mk.injEq] at H
  obtain ⟨rfl,rfl⟩ := H
  go_enter Try.func17,Try.ntmps17
  go_wp2_with (first | ((with_reducible refine gate_callee (f := 27) rfl ?_);refine goesL_ (some 6) rfl rfl Try.func27 (by kernel_rfl) rfl #[.slice A0 l0.length c0] rfl Y8 ?_;(with_reducible refine (demand_Check.calls k _ _ l0 t208 _ ?side1 ?side2 A2.out).mono ?_);(case side1 => repeat (first | exact HR0.out | (with_reducible refine Kd.C_alloc ?_ _) | (with_reducible refine Kd.C_drewN ?_ _) | (with_reducible refine Kd.C_drew ?_)));(case side2 => exact HC0.out);rintro e w5 ⟨rfl,hb⟩;refine ⟨_,rfl,?_⟩;have n0_ := Yd (below_step (Y3 HB.out) hb);clear HB;have HB := n0_;clear n0_;(try clear hb);(try clear hb2);(try clear hk);(try clear hi)) | ((with_reducible refine gate_callee (f := 24) rfl ?_);refine goesL_ (some 11) rfl rfl Try.func24 (by kernel_rfl) rfl #[.slice A0 l0.length c0] rfl Y8 ?_;(with_reducible refine (demand_order.calls k _ _ l0 t209 _ ?side1 ?side2 A4.out).mono ?_);(case side1 => exact Y11 (Kd.C_below HR0.out HB.out));(case side2 => exact HC0.out);rintro e w6 ⟨v210,rfl,ho0,hb⟩;refine ⟨_,rfl,?_⟩;have n0_ := Yd (Kd.R_lower ho0 (below_size (Y3 HB.out)));have n1_ := Yd (below_step (Y3 HB.out) hb);clear HB;have HO211 := n0_;have HB := n1_;clear n0_ n1_;(try clear hb);(try clear hb2);(try clear hk);(try clear hi);(try clear ho0)))
  go_ret2
  exact ⟨_,by first | rfl | (simp [errW_none,errW_some] <;> rfl) | (simp [*,errW_none,errW_some] <;> rfl),by (with_reducible repeat (first | apply Kd.R_alloc | apply Kd.R_drewN | apply Kd.R_drew));exact HO211.out,Y3 HB.out⟩
 ·rw [if_neg c3] at H
  have c3b0 : (t208 == 0) = false := beq_eq_false_iff_ne.mpr c3
  have c3b1 : (t208 != 0) = true := bne_iff_ne.mpr c3
  simp only [Option.some.injEq,Prod.mk.injEq] at H
  obtain ⟨rfl,rfl⟩ := H
  go_enter Try.func17,Try.ntmps17
  go_wp2_with (first | ((with_reducible refine gate_callee (f := 27) rfl ?_);refine goesL_ (some 6) rfl rfl Try.func27 (by kernel_rfl) rfl #[.slice A0 l0.length c0] rfl Y8 ?_;(with_reducible refine (demand_Check.calls k _ _ l0 t208 _ ?side1 ?side2 A2.out).mono ?_);(case side1 => repeat (first | exact HR0.out | (with_reducible refine Kd.C_alloc ?_ _) | (with_reducible refine Kd.C_drewN ?_ _) | (with_reducible refine Kd.C_drew ?_)));(case side2 => exact HC0.out);rintro e w7 ⟨rfl,hb⟩;refine ⟨_,rfl,?_⟩;have n0_ := Yd (below_step (Y3 HB.out) hb);clear HB;have HB := n0_;clear n0_;(try clear hb);(try clear hb2);(try clear hk);(try clear hi)))
  go_ret2
  exact ⟨_,by first | rfl | (simp [errW_none,errW_some] <;> rfl) | (simp [*,errW_none,errW_some] <;> rfl),by first | exact Kd.R_nil _ _ _ _ _ | exact Kd.N_nil _ _ _ _ _ | exact Kd.V_nil _ _ _ _ _ | exact Kd.Q_nil _ _ _ _ _ | exact Kd.S_nil _ _ _ _ _,Y3 HB.out⟩
mutual
def demand_shed.l0 : Nat → List (S43) → Int → Int → List (S43) → Int → Int → Option (Int × Int × Bool)
 | 0,_,_,_,_,_,_ => none
 | k + 1,x0,x1,x2,x14,x15,x16 => if x16 < x15 then (if 0 ≤ x16 then (if x16 < (x14.length : Int) then (demand_shed.l0 k x0 (wrap64 (x1 + ((rd_T43 x14 x16).f2))) x2 x14 x15 (wrap64 (x16 + 1))) else (none)) else (none)) else ((demand_order.f k x0).bind fun t214 => (demand_shed.l1 k x0 x1 x2 0 t214 (t214.length : Int) 0))
def demand_shed.l1 : Nat → List (S43) → Int → Int → Int → List Int → Int → Int → Option (Int × Int × Bool)
 | 0,_,_,_,_,_,_,_ => none
 | k + 1,x0,x1,x2,x11,x26,x27,x28 => if x28 < x27 then (if 0 ≤ x28 then (if x28 < (x26.length : Int) then (if x1 ≤ x2 then (some (x11,x1,decide (x1 ≤ x2))) else (if 0 ≤ (rd x26 x28) then (if (rd x26 x28) < (x0.length : Int) then (demand_shed.l1 k x0 (wrap64 (x1 - ((rd_T43 x0 (rd x26 x28)).f2))) x2 (wrap64 (x11 + 1)) x26 x27 (wrap64 (x28 + 1))) else (none)) else (none))) else (none)) else (none)) else (some (x11,x1,decide (x1 ≤ x2)))
end
def demand_shed.f (k : Nat) (l0 : List (S43)) (a1 : Int) (a2 : Int) : Option (Int × Int × Bool) := demand_shed.l0 k l0 a1 a2 l0 (l0.length : Int) 0
theorem demand_shed.mono_l : ∀ k,(∀ y0 y1 y2 y3 y4 y5,LeO (demand_shed.l0 k y0 y1 y2 y3 y4 y5) (demand_shed.l0 (k + 1) y0 y1 y2 y3 y4 y5)) ∧ (∀ y0 y1 y2 y3 y4 y5 y6,LeO (demand_shed.l1 k y0 y1 y2 y3 y4 y5 y6) (demand_shed.l1 (k + 1) y0 y1 y2 y3 y4 y5 y6))
 | 0 => ⟨fun _ _ _ _ _ _ r h => by simp [demand_shed.l0] at h,fun _ _ _ _ _ _ _ r h => by simp [demand_shed.l1] at h⟩
 | k + 1 => by
  obtain ⟨ih0,ih1⟩ := demand_shed.mono_l k
  refine ⟨?_,?_⟩
  ·intro y0 y1 y2 y3 y4 y5
   unfold demand_shed.l0
   repeat' first
   | (with_reducible exact ih0 _ _ _ _ _ _)
   | (with_reducible exact ih1 _ _ _ _ _ _ _)
   | (with_reducible exact demand_order.mono _ _)
   | (with_reducible exact LeO.refl _)
   | (with_reducible exact LeO.none _)
   | (with_reducible refine LeO.ite ?_ ?_)
   | (with_reducible refine LeO.bind ?_ (fun _ => ?_))
   | exact ih0 _ _ _ _ _ _
   | exact ih1 _ _ _ _ _ _ _
   | exact demand_order.mono _ _
   | exact LeO.none _
   | refine LeO.ite ?_ ?_
   | refine LeO.bind ?_ (fun _ => ?_)
  ·intro y0 y1 y2 y3 y4 y5 y6
   unfold demand_shed.l1
   repeat' first
   | (with_reducible exact ih0 _ _ _ _ _ _)
   | (with_reducible exact ih1 _ _ _ _ _ _ _)
   | (with_reducible exact demand_order.mono _ _)
   | (with_reducible exact LeO.refl _)
   | (with_reducible exact LeO.none _)
   | (with_reducible refine LeO.ite ?_ ?_)
   | (with_reducible refine LeO.bind ?_ (fun _ => ?_))
   | exact ih0 _ _ _ _ _ _
   | exact ih1 _ _ _ _ _ _ _
   | exact demand_order.mono _ _
   | exact LeO.none _
   | refine LeO.ite ?_ ?_
   | refine LeO.bind ?_ (fun _ => ?_)
theorem demand_shed.mono : ∀ a0 a1 a2 k,LeO (demand_shed.f k a0 a1 a2) (demand_shed.f (k + 1) a0 a1 a2) := by
 intro a0 a1 a2 k
 obtain ⟨ih0,ih1⟩ := demand_shed.mono_l k
 unfold demand_shed.f
 repeat' first
   | (with_reducible exact ih0 _ _ _ _ _ _)
   | (with_reducible exact ih1 _ _ _ _ _ _ _)
   | (with_reducible exact demand_order.mono _ _)
   | (with_reducible exact LeO.refl _)
   | (with_reducible exact LeO.none _)
   | (with_reducible refine LeO.ite ?_ ?_)
   | (with_reducible refine LeO.bind ?_ (fun _ => ?_))
   | exact ih0 _ _ _ _ _ _
   | exact ih1 _ _ _ _ _ _ _
   | exact demand_order.mono _ _
   | exact LeO.none _
   | refine LeO.ite ?_ ?_
   | refine LeO.bind ?_ (fun _ => ?_)
set_option maxHeartbeats 100000000 in
set_option maxRecDepth 100000 in
theorem demand_shed.calls (k : Nat) (A0 : Option Addr) (c0 : Nat) (l0 : List (S43)) (a1 : Int) (a2 : Int) (r1 : Int) (r2 : Int) (r3 : Bool) (w : World) (hr0 : Kd.C k43 w A0 l0.length l0) (hc0 : l0.length ≤ c0) (h : demand_shed.f k l0 a1 a2 = some (r1,r2,r3)) :
  Calls Try.prog 33 #[.slice A0 l0.length c0,.int .i64 a1,.int .i64 a2] w fun e w' => e = .returned (.tuple #[.int .i64 r1,.int .i64 r2,.bool r3]) ∧ Below w.heap.size w w' := by
 have hu43 := Try.underlying43
 have HR0 := Yd hr0
 have HC0 := Yd hc0
 clear hr0 hc0
 have HB := Yd (Below.refl w.heap.size w)
 have H : (demand_shed.l0 k l0 a1 a2 l0 (l0.length : Int) 0) = some (r1,r2,r3) := h
 clear h
 have H' := Yd H
 clear H
 go_enter Try.func33,Try.ntmps33
 go_wp2
 go_loopg [1,16] k (fun kq v1 v16 w' => ∃ (x1_1 : Int) (x16_1 : Int),v1 = .int .i64 x1_1 ∧ v16 = .int .i64 x16_1 ∧ Aside0 (demand_shed.l0 kq l0 x1_1 a2 l0 (l0.length : Int) x16_1 = some (r1,r2,r3)) ∧ Aside0 (kq ≤ k) ∧ Aside0 (Below w.heap.size w w'))
 case atStart => exact ⟨(a1),(0),Y12,Y12,H',⟨Nat.le_refl _⟩,⟨Y3 HB.out⟩⟩
 case round =>
  clear H'
  try clear p2
  try clear c3
  obtain ⟨x1_1,x16_1,rfl,rfl,HA,HK1,HB⟩ := hrel
  cases gk with
  | zero => exact absurd HA.out (by simp [demand_shed.l0])
  | succ k1 =>
   have H := HA.out
   clear HA
   simp only [demand_shed.l0] at H
   by_cases c4 : x16_1 < (l0.length : Int)
   ·rw [if_pos c4] at H
    have c4b0 : decide (x16_1 < (l0.length : Int)) = true := decide_eq_true c4
    clear c4
    by_cases c5 : 0 ≤ x16_1
    case neg => rw [if_neg c5] at H;exact absurd H (by simp)
    rw [if_pos c5] at H
    have c5b0 : decide (0 ≤ x16_1) = true := decide_eq_true c5
    clear c5
    by_cases c6 : x16_1 < (l0.length : Int)
    case neg => rw [if_neg c6] at H;exact absurd H (by simp)
    rw [if_pos c6] at H
    have c6b0 : decide (x16_1 < (l0.length : Int)) = true := decide_eq_true c6
    clear c6
    have H' := Yd H
    clear H
    have p212 : 0 ≤ (x16_1 : Int) := Y9
    have q212 : x16_1 < (l0.length : Int) := Y9
    obtain ⟨ad212,e212,hx212_0,hx212_1,hx212_2,hx212_3,hx212_4⟩ := at_T43 HR0.out x16_1 p212 q212
    cases e212
    replace hx212_0 := Y10 HB.out hx212_0
    replace hx212_1 := Y10 HB.out hx212_1
    replace hx212_2 := Y10 HB.out hx212_2
    replace hx212_3 := Y10 HB.out hx212_3
    replace hx212_4 := Y10 HB.out hx212_4
    replace p212 := eq_true p212
    replace q212 := eq_true q212
    go_wp2_with (first | ((with_reducible refine gate_dst (N := 10) rfl ?_);refine box_event ?hg (N := 10) ?hd (cs := #[.string (⟨#[]⟩ : ByteArray),.int .i64 0,.int .i64 0,.int .i64 0,.int .i64 0]) (t := 43) ?hr ?_;(case hd => rfl);(case hg => rfl);(case hr => first | (go_simp;done) | (go_simp;rfl));intro gb213 hg w7 hbox hb;have n0_ := Yd (below_step (Y3 HB.out) hb);have n1_ := Yd (hbox);have n2_ := Yd ((by rw [hg];exact (below_size (Y3 HB.out)) : w.heap.size ≤ gb213));have n3_ := Yd ((by rw [hg];exact (below_size (Y3 HB.out)) : w.heap.size ≤ gb213));clear HB;have HB := n0_;have BK213 := n1_;have GW213 := n2_;have GE213 := n3_;clear n0_ n1_ n2_ n3_;clear hb hbox hg;have hcz8_0 : w7.cell? ⟨gb213,0,none⟩ = some (.string (⟨#[]⟩ : ByteArray)) := (blk_cell BK213.out 0).trans rfl;have hcz8_1 : w7.cell? ⟨gb213,1,none⟩ = some (.int .i64 0) := (blk_cell BK213.out 1).trans rfl;have hcz8_2 : w7.cell? ⟨gb213,2,none⟩ = some (.int .i64 0) := (blk_cell BK213.out 2).trans rfl;have hcz8_3 : w7.cell? ⟨gb213,3,none⟩ = some (.int .i64 0) := (blk_cell BK213.out 3).trans rfl;have hcz8_4 : w7.cell? ⟨gb213,4,none⟩ = some (.int .i64 0) := (blk_cell BK213.out 4).trans rfl;have hfz8_0 := blk_frozen BK213.out 0;have hfz8_1 := blk_frozen BK213.out 1;have hfz8_2 := blk_frozen BK213.out 2;have hfz8_3 := blk_frozen BK213.out 3;have hfz8_4 := blk_frozen BK213.out 4))
    go_roundg k1
    case measure => have := HK1.out;omega
    case rel => exact ⟨(wrap64 (x1_1 + ((rd_T43 l0 x16_1).f2))),(wrap64 (x16_1 + 1)),Y12,Y12,H',⟨by have := HK1.out;omega⟩,⟨by repeat (first | (with_reducible first | exact HB.out | apply below_alloc | apply Y15 | apply below_drew1 | refine below_set ?_ GE213.out) | exact HB.out)⟩⟩
   ·rw [if_neg c4] at H
    have c4b0 : decide (x16_1 < (l0.length : Int)) = false := decide_eq_false c4
    clear c4
    replace H := Option.bind_eq_some_iff.mp H
    obtain ⟨t214,A90,H⟩ := H
    replace H : (demand_shed.l1 k1 l0 x1_1 a2 0 t214 (t214.length : Int) 0) = some (r1,r2,r3) := H
    have A9 := Yd A90
    clear A90
    have H' := Yd H
    clear H
    go_wp2_with (first | ((with_reducible refine gate_callee (f := 24) rfl ?_);refine goesL_ (some 26) rfl rfl Try.func24 (by kernel_rfl) rfl #[.slice A0 l0.length c0] rfl Y8 ?_;(with_reducible refine (demand_order.calls k1 _ _ l0 t214 _ ?side1 ?side2 A9.out).mono ?_);(case side1 => exact Y11 (Kd.C_below HR0.out HB.out));(case side2 => exact HC0.out);rintro e w10 ⟨v215,rfl,ho0,hb⟩;refine ⟨_,rfl,?_⟩;have n0_ := Yd (Kd.R_lower ho0 (below_size (Y3 HB.out)));have n1_ := Yd (below_step (Y3 HB.out) hb);clear HB;have HO216 := n0_;have HB := n1_;clear n0_ n1_;(try clear hb);(try clear hb2);(try clear hk);(try clear hi);(try clear ho0);obtain ⟨Ao11,co11,eo11⟩ := Kd.R_slice HO216.out;subst eo11))
    go_loopg [1,11,28] k1 (fun kq v1 v11 v28 w' => ∃ (x1_2 : Int) (x11_2 : Int) (x28_2 : Int),v1 = .int .i64 x1_2 ∧ v11 = .int .i64 x11_2 ∧ v28 = .int .i64 x28_2 ∧ Aside0 (demand_shed.l1 kq l0 x1_2 a2 x11_2 t214 (t214.length : Int) x28_2 = some (r1,r2,r3)) ∧ Aside0 (kq ≤ k1) ∧ Aside0 (Kd.R (Kd.int .i64) 3 w' w.heap.size (fun _ => True) (.slice Ao11 t214.length co11) t214) ∧ Aside0 (Below w.heap.size w w'))
    case atStart => exact ⟨(x1_1),(0),(0),Y12,Y12,Y12,H',⟨Nat.le_refl _⟩,⟨Y5 HO216.out⟩,⟨Y3 HB.out⟩⟩
    case round =>
     clear H'
     try clear c2
     try clear p2
     try clear q2
     try clear hx2
     try clear c3
     try clear c4
     try clear c4b0
     try clear c5
     try clear c5b0
     try clear c6
     try clear c6b0
     try clear p6
     try clear hcz8_0
     try clear hcz8_1
     try clear hcz8_2
     try clear hcz8_3
     try clear hcz8_4
     try clear hfz8_0
     try clear hfz8_1
     try clear hfz8_2
     try clear hfz8_3
     try clear hfz8_4
     try clear hx212_0
     try clear hx212_1
     try clear hx212_2
     try clear hx212_3
     try clear hx212_4
     try clear p2
     try clear p212
     try clear q212
     obtain ⟨x1_2,x11_2,x28_2,rfl,rfl,rfl,HA,HK2,HO_26,HB⟩ := hrel
     cases gk with
     | zero => exact absurd HA.out (by simp [demand_shed.l1])
     | succ k2 =>
      have H := HA.out
      clear HA
      simp only [demand_shed.l1] at H
      by_cases c12 : x28_2 < (t214.length : Int)
      ·rw [if_pos c12] at H
       have c12b0 : decide (x28_2 < (t214.length : Int)) = true := decide_eq_true c12
       clear c12
       by_cases c13 : 0 ≤ x28_2
       case neg => rw [if_neg c13] at H;exact absurd H (by simp)
       rw [if_pos c13] at H
       have c13b0 : decide (0 ≤ x28_2) = true := decide_eq_true c13
       clear c13
       by_cases c14 : x28_2 < (t214.length : Int)
       case neg => rw [if_neg c14] at H;exact absurd H (by simp)
       rw [if_pos c14] at H
       have c14b0 : decide (x28_2 < (t214.length : Int)) = true := decide_eq_true c14
       clear c14
       by_cases c15 : x1_2 ≤ a2
       ·rw [if_pos c15] at H
        have c15b0 : decide (x1_2 ≤ a2) = true := decide_eq_true c15
        clear c15
        simp only [Option.some.injEq,Prod.mk.injEq] at H
        obtain ⟨rfl,rfl,rfl⟩ := H
        have p217 : 0 ≤ (x28_2 : Int) := Y9
        have q217 : x28_2 < (t214.length : Int) := Y9
        obtain ⟨ad217,e217,hx217_0⟩ := Kd.at_int (Kd.R_reads' HO_26.out).2.2 x28_2 p217 q217
        cases e217
        replace p217 := eq_true p217
        replace q217 := eq_true q217
        go_wp2
        go_ret3
        exact ⟨by first | rfl | (simp [errW_none,errW_some] <;> rfl) | (simp [*,errW_none,errW_some] <;> rfl),Y3 HB.out⟩
       ·rw [if_neg c15] at H
        have c15b0 : decide (x1_2 ≤ a2) = false := decide_eq_false c15
        clear c15
        by_cases c16 : 0 ≤ (rd t214 x28_2)
        case neg => rw [if_neg c16] at H;exact absurd H (by simp)
        rw [if_pos c16] at H
        have c16b0 : decide (0 ≤ (rd t214 x28_2)) = true := decide_eq_true c16
        clear c16
        by_cases c17 : (rd t214 x28_2) < (l0.length : Int)
        case neg => rw [if_neg c17] at H;exact absurd H (by simp)
        rw [if_pos c17] at H
        have c17b0 : decide ((rd t214 x28_2) < (l0.length : Int)) = true := decide_eq_true c17
        clear c17
        have H' := Yd H
        clear H
        have p217 : 0 ≤ (x28_2 : Int) := Y9
        have q217 : x28_2 < (t214.length : Int) := Y9
        obtain ⟨ad217,e217,hx217_0⟩ := Kd.at_int (Kd.R_reads' HO_26.out).2.2 x28_2 p217 q217
        cases e217
        replace p217 := eq_true p217
        replace q217 := eq_true q217
        have p218 : 0 ≤ ((rd t214 x28_2) : Int) := Y9
        have q218 : (rd t214 x28_2) < (l0.length : Int) := Y9
        obtain ⟨ad218,e218,hx218_0,hx218_1,hx218_2,hx218_3,hx218_4⟩ := at_T43 HR0.out (rd t214 x28_2) p218 q218
        cases e218
        replace hx218_0 := Y10 HB.out hx218_0
        replace hx218_1 := Y10 HB.out hx218_1
        replace hx218_2 := Y10 HB.out hx218_2
        replace hx218_3 := Y10 HB.out hx218_3
        replace hx218_4 := Y10 HB.out hx218_4
        replace p218 := eq_true p218
        replace q218 := eq_true q218
        go_wp2
        go_roundg k2
        case measure => have := HK1.out;have := HK2.out;omega
        case rel => exact ⟨(wrap64 (x1_2 - ((rd_T43 l0 (rd t214 x28_2)).f2))),(wrap64 (x11_2 + 1)),(wrap64 (x28_2 + 1)),Y12,Y12,Y12,H',⟨by have := HK1.out;have := HK2.out;omega⟩,⟨Y5 HO_26.out⟩,⟨Y3 HB.out⟩⟩
      ·rw [if_neg c12] at H
       have c12b0 : decide (x28_2 < (t214.length : Int)) = false := decide_eq_false c12
       clear c12
       simp only [Option.some.injEq,Prod.mk.injEq] at H
       obtain ⟨rfl,rfl,rfl⟩ := H
       go_wp2
       go_ret3
       exact ⟨by first | rfl | (simp [errW_none,errW_some] <;> rfl) | (simp [*,errW_none,errW_some] <;> rfl),Y3 HB.out⟩
def demand_Shed.f (k : Nat) (l0 : List (S43)) (a1 : Int) (a2 : Int) : Option (Int × Int × Int) := (demand_Check.f k l0).bind fun t219 => (if t219 = 0 then ((demand_analog.f k (([a1,a2] : List Int))).bind fun t223 => (if t223 = true then ((demand_shed.f k l0 a1 a2).bind fun bt224 => (if bt224.2.2 = true then (some (bt224.1,bt224.2.1,0)) else (some (0,0,9)))) else (some (0,0,6)))) else (some (0,0,t219)))
theorem demand_Shed.mono : ∀ a0 a1 a2 k,LeO (demand_Shed.f k a0 a1 a2) (demand_Shed.f (k + 1) a0 a1 a2) := by
 intro a0 a1 a2 k
 unfold demand_Shed.f
 repeat' first
   | (with_reducible exact demand_Check.mono _ _)
   | (with_reducible exact demand_analog.mono _ _)
   | (with_reducible exact demand_shed.mono _ _ _ _)
   | (with_reducible exact LeO.refl _)
   | (with_reducible exact LeO.none _)
   | (with_reducible refine LeO.ite ?_ ?_)
   | (with_reducible refine LeO.bind ?_ (fun _ => ?_))
   | exact demand_Check.mono _ _
   | exact demand_analog.mono _ _
   | exact demand_shed.mono _ _ _ _
   | exact LeO.none _
   | refine LeO.ite ?_ ?_
   | refine LeO.bind ?_ (fun _ => ?_)
set_option maxHeartbeats 100000000 in
set_option maxRecDepth 100000 in
theorem demand_Shed.calls (k : Nat) (A0 : Option Addr) (c0 : Nat) (l0 : List (S43)) (a1 : Int) (a2 : Int) (r1 : Int) (r2 : Int) (r3 : Int) (w : World) (hr0 : Kd.C k43 w A0 l0.length l0) (hc0 : l0.length ≤ c0) (h : demand_Shed.f k l0 a1 a2 = some (r1,r2,r3)) :
  Calls Try.prog 18 #[.slice A0 l0.length c0,.int .i64 a1,.int .i64 a2] w fun e w' => e = .returned (.tuple #[.int .i64 r1,.int .i64 r2,.int .i64 r3]) ∧ Below w.heap.size w w' := by
 have HR0 := Yd hr0
 have HC0 := Yd hc0
 clear hr0 hc0
 have HB := Yd (Below.refl w.heap.size w)
 have H : ((demand_Check.f k l0).bind fun t219 => (if t219 = 0 then ((demand_analog.f k (([a1,a2] : List Int))).bind fun t223 => (if t223 = true then ((demand_shed.f k l0 a1 a2).bind fun bt224 => (if bt224.2.2 = true then (some (bt224.1,bt224.2.1,0)) else (some (0,0,9)))) else (some (0,0,6)))) else (some (0,0,t219)))) = some (r1,r2,r3) := h
 clear h
 replace H := Option.bind_eq_some_iff.mp H
 obtain ⟨t219,A40,H⟩ := H
 replace H : (if t219 = 0 then ((demand_analog.f k (([a1,a2] : List Int))).bind fun t223 => (if t223 = true then ((demand_shed.f k l0 a1 a2).bind fun bt224 => (if bt224.2.2 = true then (some (bt224.1,bt224.2.1,0)) else (some (0,0,9)))) else (some (0,0,6)))) else (some (0,0,t219))) = some (r1,r2,r3) := H
 have A4 := Yd A40
 clear A40
 by_cases c5 : t219 = 0
 ·rw [if_pos c5] at H
  have c5b0 : (t219 == 0) = true := beq_iff_eq.mpr c5
  have c5b1 : (t219 != 0) = false := bne_eq_false_iff_eq.mpr c5
  clear c5
  obtain ⟨y220,hy220⟩ : ∃ y_ : List Int,y_ = (([a1,a2] : List Int)) := ⟨_,rfl⟩
  replace H : ((demand_analog.f k y220).bind fun t223 => (if t223 = true then ((demand_shed.f k l0 a1 a2).bind fun bt224 => (if bt224.2.2 = true then (some (bt224.1,bt224.2.1,0)) else (some (0,0,9)))) else (some (0,0,6)))) = some (r1,r2,r3) := by first | (rw [hy220];with_reducible exact H) | (have H2_ := (Option.bind_some _ _).symm.trans H;rw [hy220];with_reducible exact H2_) | (have H2_ := (Option.bind_some _ _).symm.trans H;with_reducible exact H2_) | with_reducible exact H | (rw [hy220];exact H) | exact H
  have Ny220 := Yd hy220
  clear hy220
  replace H := Option.bind_eq_some_iff.mp H
  obtain ⟨t223,A60,H⟩ := H
  replace H : (if t223 = true then ((demand_shed.f k l0 a1 a2).bind fun bt224 => (if bt224.2.2 = true then (some (bt224.1,bt224.2.1,0)) else (some (0,0,9)))) else (some (0,0,6))) = some (r1,r2,r3) := H
  have A6 := Yd A60
  clear A60
  by_cases c7 : t223 = true
  ·subst c7
   have H1 : ((demand_shed.f k l0 a1 a2).bind fun bt224 => (if bt224.2.2 = true then (some (bt224.1,bt224.2.1,0)) else (some (0,0,9)))) = some (r1,r2,r3) := by rw [if_pos rfl] at H;exact H
   clear H
   have H := H1
   clear H1
   replace H := Option.bind_eq_some_iff.mp H
   obtain ⟨⟨t224,t225,t226⟩,A80,H⟩ := H
   replace H : (if t226 = true then (some (t224,t225,0)) else (some (0,0,9))) = some (r1,r2,r3) := H
   have A8 := Yd A80
   clear A80
   by_cases c9 : t226 = true
   ·subst c9
    have H1 : (some (t224,t225,0)) = some (r1,r2,r3) := by rw [if_pos rfl] at H;exact H
    clear H
    have H := H1
    clear H1
    simp only [Option.some.injEq,Prod.mk.injEq] at H
    obtain ⟨rfl,rfl,rfl⟩ := H
    go_enter Try.func18,Try.ntmps18
    go_wp2_with (first | ((with_reducible refine gate_callee (f := 27) rfl ?_);refine goesL_ (some 14) rfl rfl Try.func27 (by kernel_rfl) rfl #[.slice A0 l0.length c0] rfl Y8 ?_;(with_reducible refine (demand_Check.calls k _ _ l0 t219 _ ?side1 ?side2 A4.out).mono ?_);(case side1 => repeat (first | exact HR0.out | (with_reducible refine Kd.C_alloc ?_ _) | (with_reducible refine Kd.C_drewN ?_ _) | (with_reducible refine Kd.C_drew ?_)));(case side2 => exact HC0.out);rintro e w10 ⟨rfl,hb⟩;refine ⟨_,rfl,?_⟩;have n0_ := Yd (below_step (Y3 HB.out) hb);clear HB;have HB := n0_;clear n0_;(try clear hb);(try clear hb2);(try clear hk);(try clear hi)) | ((with_reducible refine gate_dst (N := 20) rfl ?_);refine Kd.R_lit (Kd.int .i64) _ 2 ?hg (N := 20) ?hd (xs := ([a1,a2] : List Int)) (inner := [.int .i64 a1,.int .i64 a2]) (ok := fun _ => True) (okp := fun _ => True) ?hr ?hp (fun _ hk => hk) trivial (Below.refl _ _) (Nat.le_refl _) (by simp) ?_;(case hd => rfl);(case hg => rfl);(case hr => first | (go_simp;done) | (go_simp;rfl));(case hp => exact (Reps.one (show Kd.M (Kd.int .i64) _ _ _ a1 [.int .i64 a1] from rfl) (Reps.one (show Kd.M (Kd.int .i64) _ _ _ a2 [.int .i64 a2] from rfl) (Reps.none _ _))));intro v221 w11 ho12 hb hg_ hnew_;clear hg_ hnew_;(first | rw [← Ny220.out] at ho12 | (simp only [Int.reduceToNat] at ho12;rw [← Ny220.out] at ho12));have n0_ := Yd (Kd.R_lower ho12 (below_size (Y3 HB.out)));have n1_ := Yd (below_step (Y3 HB.out) hb);clear HB;have HO222 := n0_;have HB := n1_;clear n0_ n1_;clear hb ho12;obtain ⟨Ao13,co13,eo13⟩ := Kd.R_slice HO222.out;subst eo13) | ((with_reducible refine gate_callee (f := 32) rfl ?_);refine goesL_ (some 21) rfl rfl Try.func32 (by kernel_rfl) rfl #[.slice Ao13 y220.length co13] rfl Y8 ?_;(with_reducible refine (demand_analog.calls k _ _ y220 true _ ?side1 ?side2 A6.out).mono ?_);(case side1 => repeat (first | exact (Kd.R_reads' HO222.out).2.2 | (with_reducible refine Kd.C_alloc ?_ _) | (with_reducible refine Kd.C_drewN ?_ _) | (with_reducible refine Kd.C_drew ?_)));(case side2 => exact (Kd.R_reads' HO222.out).2.1);rintro e w14 ⟨rfl,hb⟩;refine ⟨_,rfl,?_⟩;have n0_ := Yd (Kd.R_below (Y5 HO222.out) hb);have n1_ := Yd (below_step (Y3 HB.out) hb);clear HO222;clear HB;have HO222 := n0_;have HB := n1_;clear n0_ n1_;(try clear hb);(try clear hb2);(try clear hk);(try clear hi)) | ((with_reducible refine gate_callee (f := 33) rfl ?_);refine goesL_ (some 27) rfl rfl Try.func33 (by kernel_rfl) rfl #[.slice A0 l0.length c0,.int .i64 a1,.int .i64 a2] rfl Y8 ?_;(with_reducible refine (demand_shed.calls k _ _ l0 a1 a2 t224 t225 true _ ?side1 ?side2 A8.out).mono ?_);(case side1 => exact Y11 (Kd.C_below HR0.out HB.out));(case side2 => exact HC0.out);rintro e w15 ⟨rfl,hb⟩;refine ⟨_,rfl,?_⟩;have n0_ := Yd (Kd.R_below (Y5 HO222.out) hb);have n1_ := Yd (below_step (Y3 HB.out) hb);clear HO222;clear HB;have HO222 := n0_;have HB := n1_;clear n0_ n1_;(try clear hb);(try clear hb2);(try clear hk);(try clear hi)))
    go_ret3
    exact ⟨by first | rfl | (simp [errW_none,errW_some] <;> rfl) | (simp [*,errW_none,errW_some] <;> rfl),Y3 HB.out⟩
   ·replace c9 := Bool.eq_false_iff.mpr c9
    subst c9
    have H1 : (some (0,0,9)) = some (r1,r2,r3) := by rw [if_neg (show ¬ (false = true) by decide)] at H;exact H
    clear H
    have H := H1
    clear H1
    simp only [Option.some.injEq,Prod.mk.injEq] at H
    obtain ⟨rfl,rfl,rfl⟩ := H
    go_enter Try.func18,Try.ntmps18
    go_wp2_with (first | ((with_reducible refine gate_callee (f := 27) rfl ?_);refine goesL_ (some 14) rfl rfl Try.func27 (by kernel_rfl) rfl #[.slice A0 l0.length c0] rfl Y8 ?_;(with_reducible refine (demand_Check.calls k _ _ l0 t219 _ ?side1 ?side2 A4.out).mono ?_);(case side1 => repeat (first | exact HR0.out | (with_reducible refine Kd.C_alloc ?_ _) | (with_reducible refine Kd.C_drewN ?_ _) | (with_reducible refine Kd.C_drew ?_)));(case side2 => exact HC0.out);rintro e w16 ⟨rfl,hb⟩;refine ⟨_,rfl,?_⟩;have n0_ := Yd (below_step (Y3 HB.out) hb);clear HB;have HB := n0_;clear n0_;(try clear hb);(try clear hb2);(try clear hk);(try clear hi)) | ((with_reducible refine gate_dst (N := 20) rfl ?_);refine Kd.R_lit (Kd.int .i64) _ 2 ?hg (N := 20) ?hd (xs := ([a1,a2] : List Int)) (inner := [.int .i64 a1,.int .i64 a2]) (ok := fun _ => True) (okp := fun _ => True) ?hr ?hp (fun _ hk => hk) trivial (Below.refl _ _) (Nat.le_refl _) (by simp) ?_;(case hd => rfl);(case hg => rfl);(case hr => first | (go_simp;done) | (go_simp;rfl));(case hp => exact (Reps.one (show Kd.M (Kd.int .i64) _ _ _ a1 [.int .i64 a1] from rfl) (Reps.one (show Kd.M (Kd.int .i64) _ _ _ a2 [.int .i64 a2] from rfl) (Reps.none _ _))));intro v221 w17 ho18 hb hg_ hnew_;clear hg_ hnew_;(first | rw [← Ny220.out] at ho18 | (simp only [Int.reduceToNat] at ho18;rw [← Ny220.out] at ho18));have n0_ := Yd (Kd.R_lower ho18 (below_size (Y3 HB.out)));have n1_ := Yd (below_step (Y3 HB.out) hb);clear HB;have HO222 := n0_;have HB := n1_;clear n0_ n1_;clear hb ho18;obtain ⟨Ao19,co19,eo19⟩ := Kd.R_slice HO222.out;subst eo19) | ((with_reducible refine gate_callee (f := 32) rfl ?_);refine goesL_ (some 21) rfl rfl Try.func32 (by kernel_rfl) rfl #[.slice Ao19 y220.length co19] rfl Y8 ?_;(with_reducible refine (demand_analog.calls k _ _ y220 true _ ?side1 ?side2 A6.out).mono ?_);(case side1 => repeat (first | exact (Kd.R_reads' HO222.out).2.2 | (with_reducible refine Kd.C_alloc ?_ _) | (with_reducible refine Kd.C_drewN ?_ _) | (with_reducible refine Kd.C_drew ?_)));(case side2 => exact (Kd.R_reads' HO222.out).2.1);rintro e w20 ⟨rfl,hb⟩;refine ⟨_,rfl,?_⟩;have n0_ := Yd (Kd.R_below (Y5 HO222.out) hb);have n1_ := Yd (below_step (Y3 HB.out) hb);clear HO222;clear HB;have HO222 := n0_;have HB := n1_;clear n0_ n1_;(try clear hb);(try clear hb2);(try clear hk);(try clear hi)) | ((with_reducible refine gate_callee (f := 33) rfl ?_);refine goesL_ (some 27) rfl rfl Try.func33 (by kernel_rfl) rfl #[.slice A0 l0.length c0,.int .i64 a1,.int .i64 a2] rfl Y8 ?_;(with_reducible refine (demand_shed.calls k _ _ l0 a1 a2 t224 t225 false _ ?side1 ?side2 A8.out).mono ?_);(case side1 => exact Y11 (Kd.C_below HR0.out HB.out));(case side2 => exact HC0.out);rintro e w21 ⟨rfl,hb⟩;refine ⟨_,rfl,?_⟩;have n0_ := Yd (Kd.R_below (Y5 HO222.out) hb);have n1_ := Yd (below_step (Y3 HB.out) hb);clear HO222;clear HB;have HO222 := n0_;have HB := n1_;clear n0_ n1_;(try clear hb);(try clear hb2);(try clear hk);(try clear hi)))
    go_ret3
    exact ⟨by first | rfl | (simp [errW_none,errW_some] <;> rfl) | (simp [*,errW_none,errW_some] <;> rfl),Y3 HB.out⟩
  ·replace c7 := Bool.eq_false_iff.mpr c7
   subst c7
   have H1 : (some (0,0,6)) = some (r1,r2,r3) := by rw [if_neg (show ¬ (false = true) by decide)] at H;exact H
   clear H
   have H := H1
   clear H1
   simp only [Option.some.injEq,Prod.mk.injEq] at H
   obtain ⟨rfl,rfl,rfl⟩ := H
   go_enter Try.func18,Try.ntmps18
   go_wp2_with (first | ((with_reducible refine gate_callee (f := 27) rfl ?_);refine goesL_ (some 14) rfl rfl Try.func27 (by kernel_rfl) rfl #[.slice A0 l0.length c0] rfl Y8 ?_;(with_reducible refine (demand_Check.calls k _ _ l0 t219 _ ?side1 ?side2 A4.out).mono ?_);(case side1 => repeat (first | exact HR0.out | (with_reducible refine Kd.C_alloc ?_ _) | (with_reducible refine Kd.C_drewN ?_ _) | (with_reducible refine Kd.C_drew ?_)));(case side2 => exact HC0.out);rintro e w22 ⟨rfl,hb⟩;refine ⟨_,rfl,?_⟩;have n0_ := Yd (below_step (Y3 HB.out) hb);clear HB;have HB := n0_;clear n0_;(try clear hb);(try clear hb2);(try clear hk);(try clear hi)) | ((with_reducible refine gate_dst (N := 20) rfl ?_);refine Kd.R_lit (Kd.int .i64) _ 2 ?hg (N := 20) ?hd (xs := ([a1,a2] : List Int)) (inner := [.int .i64 a1,.int .i64 a2]) (ok := fun _ => True) (okp := fun _ => True) ?hr ?hp (fun _ hk => hk) trivial (Below.refl _ _) (Nat.le_refl _) (by simp) ?_;(case hd => rfl);(case hg => rfl);(case hr => first | (go_simp;done) | (go_simp;rfl));(case hp => exact (Reps.one (show Kd.M (Kd.int .i64) _ _ _ a1 [.int .i64 a1] from rfl) (Reps.one (show Kd.M (Kd.int .i64) _ _ _ a2 [.int .i64 a2] from rfl) (Reps.none _ _))));intro v221 w23 ho24 hb hg_ hnew_;clear hg_ hnew_;(first | rw [← Ny220.out] at ho24 | (simp only [Int.reduceToNat] at ho24;rw [← Ny220.out] at ho24));have n0_ := Yd (Kd.R_lower ho24 (below_size (Y3 HB.out)));have n1_ := Yd (below_step (Y3 HB.out) hb);clear HB;have HO222 := n0_;have HB := n1_;clear n0_ n1_;clear hb ho24;obtain ⟨Ao25,co25,eo25⟩ := Kd.R_slice HO222.out;subst eo25) | ((with_reducible refine gate_callee (f := 32) rfl ?_);refine goesL_ (some 21) rfl rfl Try.func32 (by kernel_rfl) rfl #[.slice Ao25 y220.length co25] rfl Y8 ?_;(with_reducible refine (demand_analog.calls k _ _ y220 false _ ?side1 ?side2 A6.out).mono ?_);(case side1 => repeat (first | exact (Kd.R_reads' HO222.out).2.2 | (with_reducible refine Kd.C_alloc ?_ _) | (with_reducible refine Kd.C_drewN ?_ _) | (with_reducible refine Kd.C_drew ?_)));(case side2 => exact (Kd.R_reads' HO222.out).2.1);rintro e w26 ⟨rfl,hb⟩;refine ⟨_,rfl,?_⟩;have n0_ := Yd (Kd.R_below (Y5 HO222.out) hb);have n1_ := Yd (below_step (Y3 HB.out) hb);clear HO222;clear HB;have HO222 := n0_;have HB := n1_;clear n0_ n1_;(try clear hb);(try clear hb2);(try clear hk);(try clear hi)))
   go_ret3
   exact ⟨by first | rfl | (simp [errW_none,errW_some] <;> rfl) | (simp [*,errW_none,errW_some] <;> rfl),Y3 HB.out⟩
 ·rw [if_neg c5] at H
  have c5b0 : (t219 == 0) = false := beq_eq_false_iff_ne.mpr c5
  have c5b1 : (t219 != 0) = true := bne_iff_ne.mpr c5
  simp only [Option.some.injEq,Prod.mk.injEq] at H
  obtain ⟨rfl,rfl,rfl⟩ := H
  go_enter Try.func18,Try.ntmps18
  go_wp2_with (first | ((with_reducible refine gate_callee (f := 27) rfl ?_);refine goesL_ (some 14) rfl rfl Try.func27 (by kernel_rfl) rfl #[.slice A0 l0.length c0] rfl Y8 ?_;(with_reducible refine (demand_Check.calls k _ _ l0 t219 _ ?side1 ?side2 A4.out).mono ?_);(case side1 => repeat (first | exact HR0.out | (with_reducible refine Kd.C_alloc ?_ _) | (with_reducible refine Kd.C_drewN ?_ _) | (with_reducible refine Kd.C_drew ?_)));(case side2 => exact HC0.out);rintro e w27 ⟨rfl,hb⟩;refine ⟨_,rfl,?_⟩;have n0_ := Yd (below_step (Y3 HB.out) hb);clear HB;have HB := n0_;clear n0_;(try clear hb);(try clear hb2);(try clear hk);(try clear hi)))
  go_ret3
  exact ⟨by first | rfl | (simp [errW_none,errW_some] <;> rfl) | (simp [*,errW_none,errW_some] <;> rfl),Y3 HB.out⟩
mutual
def demand_Forecast.j0 : Nat → Int → Int → Int → Int → Bool → Option (Int × Int)
 | 0,_,_,_,_,_ => none
 | k + 1,x0,x1,x2,x3,x36 => if x36 = true then (some (0,1)) else (if x3 = 0 then (none) else (if (wrap64 (2 * (Int.tmod (wrap64 (x0 + (wrap64 (x1 * (wrap64 (x3 - x2)))))) x3))) ≥ x3 then (demand_Forecast.j1 k x3 (wrap64 ((wrap64 (Int.tdiv (wrap64 (x0 + (wrap64 (x1 * (wrap64 (x3 - x2)))))) x3)) + 1)) (Int.tmod (wrap64 (x0 + (wrap64 (x1 * (wrap64 (x3 - x2)))))) x3)) else (demand_Forecast.j1 k x3 (wrap64 (Int.tdiv (wrap64 (x0 + (wrap64 (x1 * (wrap64 (x3 - x2)))))) x3)) (Int.tmod (wrap64 (x0 + (wrap64 (x1 * (wrap64 (x3 - x2)))))) x3))))
def demand_Forecast.j1 : Nat → Int → Int → Int → Option (Int × Int)
 | 0,_,_,_ => none
 | k + 1,x11,x12,x13 => if (wrap64 ((-2) * x13)) ≥ x11 then (some (wrap64 (x12 - 1),0)) else (some (x12,0))
end
def demand_Forecast.f (k : Nat) (a0 : Int) (a1 : Int) (a2 : Int) (a3 : Int) : Option (Int × Int) := (demand_between_int.f a3 1 86400).bind fun t227 => (if t227 = true then ((demand_between_int.f a2 0 a3).bind fun t228 => (if t228 = true then ((demand_between_int64.f a1 (-1000000000000) 1000000000000).bind fun t229 => (if t229 = true then ((demand_between_int64.f a0 (wrap64 ((-1000000000000) * a2)) (wrap64 (1000000000000 * a2))).bind fun t230 => (demand_Forecast.j0 k a0 a1 a2 a3 (!t230))) else (demand_Forecast.j0 k a0 a1 a2 a3 true))) else (demand_Forecast.j0 k a0 a1 a2 a3 true))) else (demand_Forecast.j0 k a0 a1 a2 a3 true))
theorem demand_Forecast.mono_l : ∀ k,(∀ y0 y1 y2 y3 y4,LeO (demand_Forecast.j0 k y0 y1 y2 y3 y4) (demand_Forecast.j0 (k + 1) y0 y1 y2 y3 y4)) ∧ (∀ y0 y1 y2,LeO (demand_Forecast.j1 k y0 y1 y2) (demand_Forecast.j1 (k + 1) y0 y1 y2))
 | 0 => ⟨fun _ _ _ _ _ r h => by simp [demand_Forecast.j0] at h,fun _ _ _ r h => by simp [demand_Forecast.j1] at h⟩
 | k + 1 => by
  obtain ⟨ih0,ih1⟩ := demand_Forecast.mono_l k
  refine ⟨?_,?_⟩
  ·intro y0 y1 y2 y3 y4
   unfold demand_Forecast.j0
   repeat' first
   | (with_reducible exact ih0 _ _ _ _ _)
   | (with_reducible exact ih1 _ _ _)
   | (with_reducible exact LeO.refl _)
   | (with_reducible exact LeO.none _)
   | (with_reducible refine LeO.ite ?_ ?_)
   | (with_reducible refine LeO.bind ?_ (fun _ => ?_))
   | exact ih0 _ _ _ _ _
   | exact ih1 _ _ _
   | exact LeO.none _
   | refine LeO.ite ?_ ?_
   | refine LeO.bind ?_ (fun _ => ?_)
  ·intro y0 y1 y2
   unfold demand_Forecast.j1
   repeat' first
   | (with_reducible exact ih0 _ _ _ _ _)
   | (with_reducible exact ih1 _ _ _)
   | (with_reducible exact LeO.refl _)
   | (with_reducible exact LeO.none _)
   | (with_reducible refine LeO.ite ?_ ?_)
   | (with_reducible refine LeO.bind ?_ (fun _ => ?_))
   | exact ih0 _ _ _ _ _
   | exact ih1 _ _ _
   | exact LeO.none _
   | refine LeO.ite ?_ ?_
   | refine LeO.bind ?_ (fun _ => ?_)
theorem demand_Forecast.mono : ∀ a0 a1 a2 a3 k,LeO (demand_Forecast.f k a0 a1 a2 a3) (demand_Forecast.f (k + 1) a0 a1 a2 a3) := by
 intro a0 a1 a2 a3 k
 obtain ⟨ih0,ih1⟩ := demand_Forecast.mono_l k
 unfold demand_Forecast.f
 repeat' first
   | (with_reducible exact ih0 _ _ _ _ _)
   | (with_reducible exact ih1 _ _ _)
   | (with_reducible exact LeO.refl _)
   | (with_reducible exact LeO.none _)
   | (with_reducible refine LeO.ite ?_ ?_)
   | (with_reducible refine LeO.bind ?_ (fun _ => ?_))
   | exact ih0 _ _ _ _ _
   | exact ih1 _ _ _
   | exact LeO.none _
   | refine LeO.ite ?_ ?_
   | refine LeO.bind ?_ (fun _ => ?_)
set_option maxHeartbeats 100000000 in
set_option maxRecDepth 100000 in
theorem demand_Forecast.calls (k : Nat) (a0 : Int) (a1 : Int) (a2 : Int) (a3 : Int) (r1 : Int) (r2 : Int) (w : World) (h : demand_Forecast.f k a0 a1 a2 a3 = some (r1,r2)) :
  Calls Try.prog 19 #[.int .i64 a0,.int .i64 a1,.int .i64 a2,.int .i64 a3] w fun e w' => e = .returned (.tuple #[.int .i64 r1,.int .i64 r2]) ∧ Drawn0 w w' := by
 have H : ((demand_between_int.f a3 1 86400).bind fun t227 => (if t227 = true then ((demand_between_int.f a2 0 a3).bind fun t228 => (if t228 = true then ((demand_between_int64.f a1 (-1000000000000) 1000000000000).bind fun t229 => (if t229 = true then ((demand_between_int64.f a0 (wrap64 ((-1000000000000) * a2)) (wrap64 (1000000000000 * a2))).bind fun t230 => (demand_Forecast.j0 k a0 a1 a2 a3 (!t230))) else (demand_Forecast.j0 k a0 a1 a2 a3 true))) else (demand_Forecast.j0 k a0 a1 a2 a3 true))) else (demand_Forecast.j0 k a0 a1 a2 a3 true))) = some (r1,r2) := h
 clear h
 have HC5 := Yd H
 clear H
 go_enter Try.func19,Try.ntmps19
 go_upto_region 1 with (fail)
 repeat (go_quiet (fail);go_upto_region 1 with (fail))
 go_cut [36] (fun v36 wc => ∃ (kq : Nat) (x36_4 : Bool),v36 = .bool x36_4 ∧ Aside0 (demand_Forecast.j0 kq a0 a1 a2 a3 x36_4 = some (r1,r2)) ∧ Aside0 (kq ≤ k) ∧ Drawn0 w wc)
 case first =>
  have H := HC5.out
  clear HC5
  replace H := Option.bind_eq_some_iff.mp H
  obtain ⟨t227,A60,H⟩ := H
  replace H : (if t227 = true then ((demand_between_int.f a2 0 a3).bind fun t228 => (if t228 = true then ((demand_between_int64.f a1 (-1000000000000) 1000000000000).bind fun t229 => (if t229 = true then ((demand_between_int64.f a0 (wrap64 ((-1000000000000) * a2)) (wrap64 (1000000000000 * a2))).bind fun t230 => (demand_Forecast.j0 k a0 a1 a2 a3 (!t230))) else (demand_Forecast.j0 k a0 a1 a2 a3 true))) else (demand_Forecast.j0 k a0 a1 a2 a3 true))) else (demand_Forecast.j0 k a0 a1 a2 a3 true)) = some (r1,r2) := H
  have A6 := Yd A60
  clear A60
  by_cases c7 : t227 = true
  ·subst c7
   have H1 : ((demand_between_int.f a2 0 a3).bind fun t228 => (if t228 = true then ((demand_between_int64.f a1 (-1000000000000) 1000000000000).bind fun t229 => (if t229 = true then ((demand_between_int64.f a0 (wrap64 ((-1000000000000) * a2)) (wrap64 (1000000000000 * a2))).bind fun t230 => (demand_Forecast.j0 k a0 a1 a2 a3 (!t230))) else (demand_Forecast.j0 k a0 a1 a2 a3 true))) else (demand_Forecast.j0 k a0 a1 a2 a3 true))) = some (r1,r2) := by rw [if_pos rfl] at H;exact H
   clear H
   have H := H1
   clear H1
   replace H := Option.bind_eq_some_iff.mp H
   obtain ⟨t228,A80,H⟩ := H
   replace H : (if t228 = true then ((demand_between_int64.f a1 (-1000000000000) 1000000000000).bind fun t229 => (if t229 = true then ((demand_between_int64.f a0 (wrap64 ((-1000000000000) * a2)) (wrap64 (1000000000000 * a2))).bind fun t230 => (demand_Forecast.j0 k a0 a1 a2 a3 (!t230))) else (demand_Forecast.j0 k a0 a1 a2 a3 true))) else (demand_Forecast.j0 k a0 a1 a2 a3 true)) = some (r1,r2) := H
   have A8 := Yd A80
   clear A80
   by_cases c9 : t228 = true
   ·subst c9
    have H1 : ((demand_between_int64.f a1 (-1000000000000) 1000000000000).bind fun t229 => (if t229 = true then ((demand_between_int64.f a0 (wrap64 ((-1000000000000) * a2)) (wrap64 (1000000000000 * a2))).bind fun t230 => (demand_Forecast.j0 k a0 a1 a2 a3 (!t230))) else (demand_Forecast.j0 k a0 a1 a2 a3 true))) = some (r1,r2) := by rw [if_pos rfl] at H;exact H
    clear H
    have H := H1
    clear H1
    replace H := Option.bind_eq_some_iff.mp H
    obtain ⟨t229,A100,H⟩ := H
    replace H : (if t229 = true then ((demand_between_int64.f a0 (wrap64 ((-1000000000000) * a2)) (wrap64 (1000000000000 * a2))).bind fun t230 => (demand_Forecast.j0 k a0 a1 a2 a3 (!t230))) else (demand_Forecast.j0 k a0 a1 a2 a3 true)) = some (r1,r2) := H
    have A10 := Yd A100
    clear A100
    by_cases c11 : t229 = true
    ·subst c11
     have H1 : ((demand_between_int64.f a0 (wrap64 ((-1000000000000) * a2)) (wrap64 (1000000000000 * a2))).bind fun t230 => (demand_Forecast.j0 k a0 a1 a2 a3 (!t230))) = some (r1,r2) := by rw [if_pos rfl] at H;exact H
     clear H
     have H := H1
     clear H1
     replace H := Option.bind_eq_some_iff.mp H
     obtain ⟨t230,A120,H⟩ := H
     replace H : (demand_Forecast.j0 k a0 a1 a2 a3 (!t230)) = some (r1,r2) := H
     have A12 := Yd A120
     clear A120
     have H' := Yd H
     clear H
     go_wp2_with (first | (go_at_call 34;(with_reducible refine (demand_between_int.calls a3 1 86400 true _ A6.out).mono ?_);rintro e w' ⟨rfl,⟨nd,rfl⟩⟩;(try first | exact ⟨rfl,_,World.drewN_drewN _ _ _⟩ | exact ⟨rfl,_,Eq.trans (World.drewN_drewN _ _ _) (congrArg (World.drewN _) (Nat.add_assoc _ _ _))⟩)) | (go_at_call 34;(with_reducible refine (demand_between_int.calls a2 0 a3 true _ A8.out).mono ?_);rintro e w' ⟨rfl,⟨nd,rfl⟩⟩;(try first | exact ⟨rfl,_,World.drewN_drewN _ _ _⟩ | exact ⟨rfl,_,Eq.trans (World.drewN_drewN _ _ _) (congrArg (World.drewN _) (Nat.add_assoc _ _ _))⟩)) | (go_at_call 35;(with_reducible refine (demand_between_int64.calls a1 (-1000000000000) 1000000000000 true _ A10.out).mono ?_);rintro e w' ⟨rfl,⟨nd,rfl⟩⟩;(try first | exact ⟨rfl,_,World.drewN_drewN _ _ _⟩ | exact ⟨rfl,_,Eq.trans (World.drewN_drewN _ _ _) (congrArg (World.drewN _) (Nat.add_assoc _ _ _))⟩)) | (go_at_call 35;(with_reducible refine (demand_between_int64.calls a0 (wrap64 ((-1000000000000) * a2)) (wrap64 (1000000000000 * a2)) t230 _ A12.out).mono ?_);rintro e w' ⟨rfl,⟨nd,rfl⟩⟩;(try first | exact ⟨rfl,_,World.drewN_drewN _ _ _⟩ | exact ⟨rfl,_,Eq.trans (World.drewN_drewN _ _ _) (congrArg (World.drewN _) (Nat.add_assoc _ _ _))⟩)))
     repeat (go_quiet (first | (go_at_call 34;(with_reducible refine (demand_between_int.calls a3 1 86400 true _ A6.out).mono ?_);rintro e w' ⟨rfl,⟨nd,rfl⟩⟩;(try first | exact ⟨rfl,_,World.drewN_drewN _ _ _⟩ | exact ⟨rfl,_,Eq.trans (World.drewN_drewN _ _ _) (congrArg (World.drewN _) (Nat.add_assoc _ _ _))⟩)) | (go_at_call 34;(with_reducible refine (demand_between_int.calls a2 0 a3 true _ A8.out).mono ?_);rintro e w' ⟨rfl,⟨nd,rfl⟩⟩;(try first | exact ⟨rfl,_,World.drewN_drewN _ _ _⟩ | exact ⟨rfl,_,Eq.trans (World.drewN_drewN _ _ _) (congrArg (World.drewN _) (Nat.add_assoc _ _ _))⟩)) | (go_at_call 35;(with_reducible refine (demand_between_int64.calls a1 (-1000000000000) 1000000000000 true _ A10.out).mono ?_);rintro e w' ⟨rfl,⟨nd,rfl⟩⟩;(try first | exact ⟨rfl,_,World.drewN_drewN _ _ _⟩ | exact ⟨rfl,_,Eq.trans (World.drewN_drewN _ _ _) (congrArg (World.drewN _) (Nat.add_assoc _ _ _))⟩)) | (go_at_call 35;(with_reducible refine (demand_between_int64.calls a0 (wrap64 ((-1000000000000) * a2)) (wrap64 (1000000000000 * a2)) t230 _ A12.out).mono ?_);rintro e w' ⟨rfl,⟨nd,rfl⟩⟩;(try first | exact ⟨rfl,_,World.drewN_drewN _ _ _⟩ | exact ⟨rfl,_,Eq.trans (World.drewN_drewN _ _ _) (congrArg (World.drewN _) (Nat.add_assoc _ _ _))⟩)));try go_wp2_with (first | (go_at_call 34;(with_reducible refine (demand_between_int.calls a3 1 86400 true _ A6.out).mono ?_);rintro e w' ⟨rfl,⟨nd,rfl⟩⟩;(try first | exact ⟨rfl,_,World.drewN_drewN _ _ _⟩ | exact ⟨rfl,_,Eq.trans (World.drewN_drewN _ _ _) (congrArg (World.drewN _) (Nat.add_assoc _ _ _))⟩)) | (go_at_call 34;(with_reducible refine (demand_between_int.calls a2 0 a3 true _ A8.out).mono ?_);rintro e w' ⟨rfl,⟨nd,rfl⟩⟩;(try first | exact ⟨rfl,_,World.drewN_drewN _ _ _⟩ | exact ⟨rfl,_,Eq.trans (World.drewN_drewN _ _ _) (congrArg (World.drewN _) (Nat.add_assoc _ _ _))⟩)) | (go_at_call 35;(with_reducible refine (demand_between_int64.calls a1 (-1000000000000) 1000000000000 true _ A10.out).mono ?_);rintro e w' ⟨rfl,⟨nd,rfl⟩⟩;(try first | exact ⟨rfl,_,World.drewN_drewN _ _ _⟩ | exact ⟨rfl,_,Eq.trans (World.drewN_drewN _ _ _) (congrArg (World.drewN _) (Nat.add_assoc _ _ _))⟩)) | (go_at_call 35;(with_reducible refine (demand_between_int64.calls a0 (wrap64 ((-1000000000000) * a2)) (wrap64 (1000000000000 * a2)) t230 _ A12.out).mono ?_);rintro e w' ⟨rfl,⟨nd,rfl⟩⟩;(try first | exact ⟨rfl,_,World.drewN_drewN _ _ _⟩ | exact ⟨rfl,_,Eq.trans (World.drewN_drewN _ _ _) (congrArg (World.drewN _) (Nat.add_assoc _ _ _))⟩))))
     go_meet
     case rel => exact ⟨_,(!t230),Y12,H',⟨by first | omega | exact Nat.le_refl _⟩,by repeat (first | exact Drawn0.refl _ | apply Drawn0.step)⟩
    ·replace c11 := Bool.eq_false_iff.mpr c11
     subst c11
     have H1 : (demand_Forecast.j0 k a0 a1 a2 a3 true) = some (r1,r2) := by rw [if_neg (show ¬ (false = true) by decide)] at H;exact H
     clear H
     have H := H1
     clear H1
     have H' := Yd H
     clear H
     go_wp2_with (first | (go_at_call 34;(with_reducible refine (demand_between_int.calls a3 1 86400 true _ A6.out).mono ?_);rintro e w' ⟨rfl,⟨nd,rfl⟩⟩;(try first | exact ⟨rfl,_,World.drewN_drewN _ _ _⟩ | exact ⟨rfl,_,Eq.trans (World.drewN_drewN _ _ _) (congrArg (World.drewN _) (Nat.add_assoc _ _ _))⟩)) | (go_at_call 34;(with_reducible refine (demand_between_int.calls a2 0 a3 true _ A8.out).mono ?_);rintro e w' ⟨rfl,⟨nd,rfl⟩⟩;(try first | exact ⟨rfl,_,World.drewN_drewN _ _ _⟩ | exact ⟨rfl,_,Eq.trans (World.drewN_drewN _ _ _) (congrArg (World.drewN _) (Nat.add_assoc _ _ _))⟩)) | (go_at_call 35;(with_reducible refine (demand_between_int64.calls a1 (-1000000000000) 1000000000000 false _ A10.out).mono ?_);rintro e w' ⟨rfl,⟨nd,rfl⟩⟩;(try first | exact ⟨rfl,_,World.drewN_drewN _ _ _⟩ | exact ⟨rfl,_,Eq.trans (World.drewN_drewN _ _ _) (congrArg (World.drewN _) (Nat.add_assoc _ _ _))⟩)))
     repeat (go_quiet (first | (go_at_call 34;(with_reducible refine (demand_between_int.calls a3 1 86400 true _ A6.out).mono ?_);rintro e w' ⟨rfl,⟨nd,rfl⟩⟩;(try first | exact ⟨rfl,_,World.drewN_drewN _ _ _⟩ | exact ⟨rfl,_,Eq.trans (World.drewN_drewN _ _ _) (congrArg (World.drewN _) (Nat.add_assoc _ _ _))⟩)) | (go_at_call 34;(with_reducible refine (demand_between_int.calls a2 0 a3 true _ A8.out).mono ?_);rintro e w' ⟨rfl,⟨nd,rfl⟩⟩;(try first | exact ⟨rfl,_,World.drewN_drewN _ _ _⟩ | exact ⟨rfl,_,Eq.trans (World.drewN_drewN _ _ _) (congrArg (World.drewN _) (Nat.add_assoc _ _ _))⟩)) | (go_at_call 35;(with_reducible refine (demand_between_int64.calls a1 (-1000000000000) 1000000000000 false _ A10.out).mono ?_);rintro e w' ⟨rfl,⟨nd,rfl⟩⟩;(try first | exact ⟨rfl,_,World.drewN_drewN _ _ _⟩ | exact ⟨rfl,_,Eq.trans (World.drewN_drewN _ _ _) (congrArg (World.drewN _) (Nat.add_assoc _ _ _))⟩)));try go_wp2_with (first | (go_at_call 34;(with_reducible refine (demand_between_int.calls a3 1 86400 true _ A6.out).mono ?_);rintro e w' ⟨rfl,⟨nd,rfl⟩⟩;(try first | exact ⟨rfl,_,World.drewN_drewN _ _ _⟩ | exact ⟨rfl,_,Eq.trans (World.drewN_drewN _ _ _) (congrArg (World.drewN _) (Nat.add_assoc _ _ _))⟩)) | (go_at_call 34;(with_reducible refine (demand_between_int.calls a2 0 a3 true _ A8.out).mono ?_);rintro e w' ⟨rfl,⟨nd,rfl⟩⟩;(try first | exact ⟨rfl,_,World.drewN_drewN _ _ _⟩ | exact ⟨rfl,_,Eq.trans (World.drewN_drewN _ _ _) (congrArg (World.drewN _) (Nat.add_assoc _ _ _))⟩)) | (go_at_call 35;(with_reducible refine (demand_between_int64.calls a1 (-1000000000000) 1000000000000 false _ A10.out).mono ?_);rintro e w' ⟨rfl,⟨nd,rfl⟩⟩;(try first | exact ⟨rfl,_,World.drewN_drewN _ _ _⟩ | exact ⟨rfl,_,Eq.trans (World.drewN_drewN _ _ _) (congrArg (World.drewN _) (Nat.add_assoc _ _ _))⟩))))
     go_meet
     case rel => exact ⟨_,(true),Y12,H',⟨by first | omega | exact Nat.le_refl _⟩,by repeat (first | exact Drawn0.refl _ | apply Drawn0.step)⟩
   ·replace c9 := Bool.eq_false_iff.mpr c9
    subst c9
    have H1 : (demand_Forecast.j0 k a0 a1 a2 a3 true) = some (r1,r2) := by rw [if_neg (show ¬ (false = true) by decide)] at H;exact H
    clear H
    have H := H1
    clear H1
    have H' := Yd H
    clear H
    go_wp2_with (first | (go_at_call 34;(with_reducible refine (demand_between_int.calls a3 1 86400 true _ A6.out).mono ?_);rintro e w' ⟨rfl,⟨nd,rfl⟩⟩;(try first | exact ⟨rfl,_,World.drewN_drewN _ _ _⟩ | exact ⟨rfl,_,Eq.trans (World.drewN_drewN _ _ _) (congrArg (World.drewN _) (Nat.add_assoc _ _ _))⟩)) | (go_at_call 34;(with_reducible refine (demand_between_int.calls a2 0 a3 false _ A8.out).mono ?_);rintro e w' ⟨rfl,⟨nd,rfl⟩⟩;(try first | exact ⟨rfl,_,World.drewN_drewN _ _ _⟩ | exact ⟨rfl,_,Eq.trans (World.drewN_drewN _ _ _) (congrArg (World.drewN _) (Nat.add_assoc _ _ _))⟩)))
    repeat (go_quiet (first | (go_at_call 34;(with_reducible refine (demand_between_int.calls a3 1 86400 true _ A6.out).mono ?_);rintro e w' ⟨rfl,⟨nd,rfl⟩⟩;(try first | exact ⟨rfl,_,World.drewN_drewN _ _ _⟩ | exact ⟨rfl,_,Eq.trans (World.drewN_drewN _ _ _) (congrArg (World.drewN _) (Nat.add_assoc _ _ _))⟩)) | (go_at_call 34;(with_reducible refine (demand_between_int.calls a2 0 a3 false _ A8.out).mono ?_);rintro e w' ⟨rfl,⟨nd,rfl⟩⟩;(try first | exact ⟨rfl,_,World.drewN_drewN _ _ _⟩ | exact ⟨rfl,_,Eq.trans (World.drewN_drewN _ _ _) (congrArg (World.drewN _) (Nat.add_assoc _ _ _))⟩)));try go_wp2_with (first | (go_at_call 34;(with_reducible refine (demand_between_int.calls a3 1 86400 true _ A6.out).mono ?_);rintro e w' ⟨rfl,⟨nd,rfl⟩⟩;(try first | exact ⟨rfl,_,World.drewN_drewN _ _ _⟩ | exact ⟨rfl,_,Eq.trans (World.drewN_drewN _ _ _) (congrArg (World.drewN _) (Nat.add_assoc _ _ _))⟩)) | (go_at_call 34;(with_reducible refine (demand_between_int.calls a2 0 a3 false _ A8.out).mono ?_);rintro e w' ⟨rfl,⟨nd,rfl⟩⟩;(try first | exact ⟨rfl,_,World.drewN_drewN _ _ _⟩ | exact ⟨rfl,_,Eq.trans (World.drewN_drewN _ _ _) (congrArg (World.drewN _) (Nat.add_assoc _ _ _))⟩))))
    go_meet
    case rel => exact ⟨_,(true),Y12,H',⟨by first | omega | exact Nat.le_refl _⟩,by repeat (first | exact Drawn0.refl _ | apply Drawn0.step)⟩
  ·replace c7 := Bool.eq_false_iff.mpr c7
   subst c7
   have H1 : (demand_Forecast.j0 k a0 a1 a2 a3 true) = some (r1,r2) := by rw [if_neg (show ¬ (false = true) by decide)] at H;exact H
   clear H
   have H := H1
   clear H1
   have H' := Yd H
   clear H
   go_wp2_with (first | (go_at_call 34;(with_reducible refine (demand_between_int.calls a3 1 86400 false _ A6.out).mono ?_);rintro e w' ⟨rfl,⟨nd,rfl⟩⟩;(try first | exact ⟨rfl,_,World.drewN_drewN _ _ _⟩ | exact ⟨rfl,_,Eq.trans (World.drewN_drewN _ _ _) (congrArg (World.drewN _) (Nat.add_assoc _ _ _))⟩)))
   repeat (go_quiet (first | (go_at_call 34;(with_reducible refine (demand_between_int.calls a3 1 86400 false _ A6.out).mono ?_);rintro e w' ⟨rfl,⟨nd,rfl⟩⟩;(try first | exact ⟨rfl,_,World.drewN_drewN _ _ _⟩ | exact ⟨rfl,_,Eq.trans (World.drewN_drewN _ _ _) (congrArg (World.drewN _) (Nat.add_assoc _ _ _))⟩)));try go_wp2_with (first | (go_at_call 34;(with_reducible refine (demand_between_int.calls a3 1 86400 false _ A6.out).mono ?_);rintro e w' ⟨rfl,⟨nd,rfl⟩⟩;(try first | exact ⟨rfl,_,World.drewN_drewN _ _ _⟩ | exact ⟨rfl,_,Eq.trans (World.drewN_drewN _ _ _) (congrArg (World.drewN _) (Nat.add_assoc _ _ _))⟩))))
   go_meet
   case rel => exact ⟨_,(true),Y12,H',⟨by first | omega | exact Nat.le_refl _⟩,by repeat (first | exact Drawn0.refl _ | apply Drawn0.step)⟩
 case rest =>
  clear HC5
  try clear c1
  try clear p2
  try clear p6
  try clear c7
  try clear c9
  try clear c11
  obtain ⟨kq,x36_4,rfl,HA,HJ4,⟨mc4,rfl⟩⟩ := hcut
  cases kq with
  | zero => exact absurd HA.out (by simp [demand_Forecast.j0])
  | succ kj4 =>
   have H := HA.out
   clear HA
   simp only [demand_Forecast.j0] at H
   by_cases c13 : x36_4 = true
   ·subst c13
    have H1 : (some (0,1)) = some (r1,r2) := by rw [if_pos rfl] at H;exact H
    clear H
    have H := H1
    clear H1
    simp only [Option.some.injEq,Prod.mk.injEq] at H
    obtain ⟨rfl,rfl⟩ := H
    go_wp2
    repeat (go_quiet (fail);try go_wp2)
    go_ret2
    exact ⟨by first | rfl | (simp;done) | (simp [*];done),by repeat (first | exact Drawn0.refl _ | apply Drawn0.step)⟩
   ·replace c13 := Bool.eq_false_iff.mpr c13
    subst c13
    have H1 : (if a3 = 0 then (none) else (if (wrap64 (2 * (Int.tmod (wrap64 (a0 + (wrap64 (a1 * (wrap64 (a3 - a2)))))) a3))) ≥ a3 then (demand_Forecast.j1 kj4 a3 (wrap64 ((wrap64 (Int.tdiv (wrap64 (a0 + (wrap64 (a1 * (wrap64 (a3 - a2)))))) a3)) + 1)) (Int.tmod (wrap64 (a0 + (wrap64 (a1 * (wrap64 (a3 - a2)))))) a3)) else (demand_Forecast.j1 kj4 a3 (wrap64 (Int.tdiv (wrap64 (a0 + (wrap64 (a1 * (wrap64 (a3 - a2)))))) a3)) (Int.tmod (wrap64 (a0 + (wrap64 (a1 * (wrap64 (a3 - a2)))))) a3)))) = some (r1,r2) := by rw [if_neg (show ¬ (false = true) by decide)] at H;exact H
    clear H
    have H := H1
    clear H1
    by_cases c14 : a3 = 0
    case pos => rw [if_pos c14] at H;exact absurd H (by simp)
    rw [if_neg c14] at H
    have c14b0 : (a3 == 0) = false := beq_eq_false_iff_ne.mpr c14
    have c14b1 : (a3 != 0) = true := bne_iff_ne.mpr c14
    have HC15 := Yd H
    clear H
    go_upto_if 54 with (fail)
    repeat (go_quiet (fail);go_upto_if 54 with (fail))
    go_cut [12] (fun v12 wc => ∃ (kq : Nat) (x12_14 : Int),v12 = .int .i64 x12_14 ∧ Aside0 (demand_Forecast.j1 kq a3 x12_14 (Int.tmod (wrap64 (a0 + (wrap64 (a1 * (wrap64 (a3 - a2)))))) a3) = some (r1,r2)) ∧ Aside0 (kq ≤ kj4) ∧ Drawn0 w wc)
    case first =>
     have H := HC15.out
     clear HC15
     by_cases c16 : (wrap64 (2 * (Int.tmod (wrap64 (a0 + (wrap64 (a1 * (wrap64 (a3 - a2)))))) a3))) ≥ a3
     ·rw [if_pos c16] at H
      have c16b0 : decide (a3 ≤ (wrap64 (2 * (Int.tmod (wrap64 (a0 + (wrap64 (a1 * (wrap64 (a3 - a2)))))) a3)))) = true := decide_eq_true c16
      clear c16
      (first | rw [c16b0] | (simp only [i64_w,i32_w];rw [c16b0]) | skip)
      have H' := Yd H
      clear H
      go_wp2
      repeat (go_quiet (fail);try go_wp2)
      go_meet
      case rel => exact ⟨_,(wrap64 ((wrap64 (Int.tdiv (wrap64 (a0 + (wrap64 (a1 * (wrap64 (a3 - a2)))))) a3)) + 1)),Y12,H',⟨by have := HJ4.out;first | omega | exact Nat.le_refl _⟩,by repeat (first | exact Drawn0.refl _ | apply Drawn0.step)⟩
     ·rw [if_neg c16] at H
      have c16b0 : decide (a3 ≤ (wrap64 (2 * (Int.tmod (wrap64 (a0 + (wrap64 (a1 * (wrap64 (a3 - a2)))))) a3)))) = false := decide_eq_false c16
      clear c16
      (first | rw [c16b0] | (simp only [i64_w,i32_w];rw [c16b0]) | skip)
      have H' := Yd H
      clear H
      go_wp2
      repeat (go_quiet (fail);try go_wp2)
      go_meet
      case rel => exact ⟨_,(wrap64 (Int.tdiv (wrap64 (a0 + (wrap64 (a1 * (wrap64 (a3 - a2)))))) a3)),Y12,H',⟨by have := HJ4.out;first | omega | exact Nat.le_refl _⟩,by repeat (first | exact Drawn0.refl _ | apply Drawn0.step)⟩
    case rest =>
     clear HC15
     try clear c1
     try clear p2
     try clear c4
     try clear p6
     try clear c7
     try clear c9
     try clear c11
     try clear c13
     try clear c14
     try clear c14b0
     try clear c14b1
     try clear c16
     try clear c16b0
     try clear p2
     try clear p6
     obtain ⟨kq,x12_14,rfl,HA,HJ14,⟨mc14,rfl⟩⟩ := hcut
     cases kq with
     | zero => exact absurd HA.out (by simp [demand_Forecast.j1])
     | succ kj14 =>
      have H := HA.out
      clear HA
      simp only [demand_Forecast.j1] at H
      by_cases c17 : (wrap64 ((-2) * (Int.tmod (wrap64 (a0 + (wrap64 (a1 * (wrap64 (a3 - a2)))))) a3))) ≥ a3
      ·rw [if_pos c17] at H
       have c17b0 : decide (a3 ≤ (wrap64 ((-2) * (Int.tmod (wrap64 (a0 + (wrap64 (a1 * (wrap64 (a3 - a2)))))) a3)))) = true := decide_eq_true c17
       clear c17
       simp only [Option.some.injEq,Prod.mk.injEq] at H
       obtain ⟨rfl,rfl⟩ := H
       go_wp2
       repeat (go_quiet (fail);try go_wp2)
       go_ret2
       exact ⟨by first | rfl | (simp;done) | (simp [*];done),by repeat (first | exact Drawn0.refl _ | apply Drawn0.step)⟩
      ·rw [if_neg c17] at H
       have c17b0 : decide (a3 ≤ (wrap64 ((-2) * (Int.tmod (wrap64 (a0 + (wrap64 (a1 * (wrap64 (a3 - a2)))))) a3)))) = false := decide_eq_false c17
       clear c17
       simp only [Option.some.injEq,Prod.mk.injEq] at H
       obtain ⟨rfl,rfl⟩ := H
       go_wp2
       repeat (go_quiet (fail);try go_wp2)
       go_ret2
       exact ⟨by first | rfl | (simp;done) | (simp [*];done),by repeat (first | exact Drawn0.refl _ | apply Drawn0.step)⟩
def plenumref56_SameInts.l0 : Nat → List Int → List Int → Int → Option (Bool)
 | 0,_,_,_ => none
 | k + 1,x0,x1,x5 => if x5 < (x0.length : Int) then (if 0 ≤ x5 then (if x5 < (x1.length : Int) then (if (rd x0 x5) = (rd x1 x5) then (plenumref56_SameInts.l0 k x0 x1 (wrap64 (x5 + 1))) else (some false)) else (none)) else (none)) else (some true)
def plenumref56_SameInts.f (k : Nat) (l0 : List Int) (l1 : List Int) : Option (Bool) := if (l0.length : Int) = (l1.length : Int) then (plenumref56_SameInts.l0 k l0 l1 0) else (some false)
theorem plenumref56_SameInts.mono_l : ∀ k,(∀ y0 y1 y2,LeO (plenumref56_SameInts.l0 k y0 y1 y2) (plenumref56_SameInts.l0 (k + 1) y0 y1 y2))
 | 0 => fun _ _ _ r h => by simp [plenumref56_SameInts.l0] at h
 | k + 1 => by
  have ih0 := plenumref56_SameInts.mono_l k
  ·intro y0 y1 y2
   unfold plenumref56_SameInts.l0
   repeat' first
   | (with_reducible exact ih0 _ _ _)
   | (with_reducible exact LeO.refl _)
   | (with_reducible exact LeO.none _)
   | (with_reducible refine LeO.ite ?_ ?_)
   | (with_reducible refine LeO.bind ?_ (fun _ => ?_))
   | exact ih0 _ _ _
   | exact LeO.none _
   | refine LeO.ite ?_ ?_
   | refine LeO.bind ?_ (fun _ => ?_)
theorem plenumref56_SameInts.mono : ∀ a0 a1 k,LeO (plenumref56_SameInts.f k a0 a1) (plenumref56_SameInts.f (k + 1) a0 a1) := by
 intro a0 a1 k
 have ih0 := plenumref56_SameInts.mono_l k
 unfold plenumref56_SameInts.f
 repeat' first
   | (with_reducible exact ih0 _ _ _)
   | (with_reducible exact LeO.refl _)
   | (with_reducible exact LeO.none _)
   | (with_reducible refine LeO.ite ?_ ?_)
   | (with_reducible refine LeO.bind ?_ (fun _ => ?_))
   | exact ih0 _ _ _
   | exact LeO.none _
   | refine LeO.ite ?_ ?_
   | refine LeO.bind ?_ (fun _ => ?_)
set_option maxHeartbeats 100000000 in
set_option maxRecDepth 100000 in
theorem plenumref56_SameInts.calls (k : Nat) (A0 : Option Addr) (c0 : Nat) (l0 : List Int) (A1 : Option Addr) (c1 : Nat) (l1 : List Int) (r : Bool) (w : World) (hr0 : Kd.C (Kd.int .i64) w A0 l0.length l0) (hc0 : l0.length ≤ c0) (hr1 : Kd.C (Kd.int .i64) w A1 l1.length l1) (hc1 : l1.length ≤ c1) (h : plenumref56_SameInts.f k l0 l1 = some r) :
  Calls Try.prog 20 #[.slice A0 l0.length c0,.slice A1 l1.length c1] w fun e w' => e = .returned (.bool r) ∧ Drawn0 w w' := by
 have HR0 := Yd hr0
 have HC0 := Yd hc0
 clear hr0 hc0
 have HR1 := Yd hr1
 have HC1 := Yd hc1
 clear hr1 hc1
 have H : (if (l0.length : Int) = (l1.length : Int) then (plenumref56_SameInts.l0 k l0 l1 0) else (some false)) = some r := h
 clear h
 by_cases c3 : (l0.length : Int) = (l1.length : Int)
 ·rw [if_pos c3] at H
  have c3b0 : ((l0.length : Int) == (l1.length : Int)) = true := beq_iff_eq.mpr c3
  have c3b1 : ((l0.length : Int) != (l1.length : Int)) = false := bne_eq_false_iff_eq.mpr c3
  have c3b2 : (l0.length == l1.length) = true := by first | simpa using c3 | (simp at c3 ⊢;omega)
  clear c3
  have H' := Yd H
  clear H
  go_enter Try.func20,Try.ntmps20
  go_wp2
  repeat (go_quiet (fail);try go_wp2)
  go_loopg [5] k (fun kq v5 w' => ∃ (x5_1 : Int),v5 = .int .i64 x5_1 ∧ Aside0 (plenumref56_SameInts.l0 kq l0 l1 x5_1 = some r) ∧ Aside0 (kq ≤ k) ∧ Drawn0 w w')
  case atStart => exact ⟨(0),Y12,H',⟨Nat.le_refl _⟩,by repeat (first | exact Drawn0.refl _ | apply Drawn0.step)⟩
  case round =>
   clear H'
   try clear c1
   try clear c2
   try clear p2
   try clear c3
   try clear c3b0
   try clear c3b1
   try clear c3b2
   obtain ⟨x5_1,rfl,HA,HK1,⟨m1,rfl⟩⟩ := hrel
   cases gk with
   | zero => exact absurd HA.out (by simp [plenumref56_SameInts.l0])
   | succ k1 =>
    have H := HA.out
    clear HA
    simp only [plenumref56_SameInts.l0] at H
    by_cases c4 : x5_1 < (l0.length : Int)
    ·rw [if_pos c4] at H
     have c4b0 : decide (x5_1 < (l0.length : Int)) = true := decide_eq_true c4
     clear c4
     by_cases c5 : 0 ≤ x5_1
     case neg => rw [if_neg c5] at H;exact absurd H (by simp)
     rw [if_pos c5] at H
     have c5b0 : decide (0 ≤ x5_1) = true := decide_eq_true c5
     clear c5
     by_cases c6 : x5_1 < (l1.length : Int)
     case neg => rw [if_neg c6] at H;exact absurd H (by simp)
     rw [if_pos c6] at H
     have c6b0 : decide (x5_1 < (l1.length : Int)) = true := decide_eq_true c6
     clear c6
     by_cases c7 : (rd l0 x5_1) = (rd l1 x5_1)
     ·rw [if_pos c7] at H
      have c7b0 : ((rd l0 x5_1) == (rd l1 x5_1)) = true := beq_iff_eq.mpr c7
      have c7b1 : ((rd l0 x5_1) != (rd l1 x5_1)) = false := bne_eq_false_iff_eq.mpr c7
      clear c7
      have H' := Yd H
      clear H
      have p231 : 0 ≤ (x5_1 : Int) := Y9
      have q231 : x5_1 < (l0.length : Int) := Y9
      obtain ⟨ad231,e231,hx231_0⟩ := Kd.at_int HR0.out x5_1 p231 q231
      cases e231
      replace p231 := eq_true p231
      replace q231 := eq_true q231
      have p232 : 0 ≤ (x5_1 : Int) := Y9
      have q232 : x5_1 < (l1.length : Int) := Y9
      obtain ⟨ad232,e232,hx232_0⟩ := Kd.at_int HR1.out x5_1 p232 q232
      cases e232
      replace p232 := eq_true p232
      replace q232 := eq_true q232
      go_wp2
      repeat (go_quiet (fail);try go_wp2)
      go_roundg k1
      case measure => have := HK1.out;omega
      case rel => exact ⟨(wrap64 (x5_1 + 1)),Y12,H',⟨by have := HK1.out;omega⟩,by repeat (first | exact Drawn0.refl _ | apply Drawn0.step)⟩
     ·rw [if_neg c7] at H
      have c7b0 : ((rd l0 x5_1) == (rd l1 x5_1)) = false := beq_eq_false_iff_ne.mpr c7
      have c7b1 : ((rd l0 x5_1) != (rd l1 x5_1)) = true := bne_iff_ne.mpr c7
      obtain rfl := Option.some.inj H
      have p231 : 0 ≤ (x5_1 : Int) := Y9
      have q231 : x5_1 < (l0.length : Int) := Y9
      obtain ⟨ad231,e231,hx231_0⟩ := Kd.at_int HR0.out x5_1 p231 q231
      cases e231
      replace p231 := eq_true p231
      replace q231 := eq_true q231
      have p232 : 0 ≤ (x5_1 : Int) := Y9
      have q232 : x5_1 < (l1.length : Int) := Y9
      obtain ⟨ad232,e232,hx232_0⟩ := Kd.at_int HR1.out x5_1 p232 q232
      cases e232
      replace p232 := eq_true p232
      replace q232 := eq_true q232
      go_wp2
      repeat (go_quiet (fail);try go_wp2)
      go_ret
      exact ⟨by first | rfl | (simp;done) | (simp [*];done),by repeat (first | exact Drawn0.refl _ | apply Drawn0.step)⟩
    ·rw [if_neg c4] at H
     have c4b0 : decide (x5_1 < (l0.length : Int)) = false := decide_eq_false c4
     clear c4
     obtain rfl := Option.some.inj H
     go_wp2
     repeat (go_quiet (fail);try go_wp2)
     go_ret
     exact ⟨by first | rfl | (simp;done) | (simp [*];done),by repeat (first | exact Drawn0.refl _ | apply Drawn0.step)⟩
 ·rw [if_neg c3] at H
  have c3b0 : ((l0.length : Int) == (l1.length : Int)) = false := beq_eq_false_iff_ne.mpr c3
  have c3b1 : ((l0.length : Int) != (l1.length : Int)) = true := bne_iff_ne.mpr c3
  have c3b2 : (l0.length == l1.length) = false := by first | simpa using c3 | (simp at c3 ⊢;omega)
  obtain rfl := Option.some.inj H
  go_enter Try.func20,Try.ntmps20
  go_wp2
  repeat (go_quiet (fail);try go_wp2)
  go_ret
  exact ⟨by first | rfl | (simp;done) | (simp [*];done),by repeat (first | exact Drawn0.refl _ | apply Drawn0.step)⟩
def demand_Proves.f (k : Nat) (l0 : List (S43)) (a1 : Int) (a2 : Int) (a3 : Int) : Option (Bool) := (demand_Shed.f k l0 a1 a2).bind fun bt233 => (if bt233.2.2 = 0 then (some (bt233.1 == a3)) else (some false))
theorem demand_Proves.mono : ∀ a0 a1 a2 a3 k,LeO (demand_Proves.f k a0 a1 a2 a3) (demand_Proves.f (k + 1) a0 a1 a2 a3) := by
 intro a0 a1 a2 a3 k
 unfold demand_Proves.f
 repeat' first
   | (with_reducible exact demand_Shed.mono _ _ _ _)
   | (with_reducible exact LeO.refl _)
   | (with_reducible exact LeO.none _)
   | (with_reducible refine LeO.ite ?_ ?_)
   | (with_reducible refine LeO.bind ?_ (fun _ => ?_))
   | exact demand_Shed.mono _ _ _ _
   | exact LeO.none _
   | refine LeO.ite ?_ ?_
   | refine LeO.bind ?_ (fun _ => ?_)
set_option maxHeartbeats 100000000 in
set_option maxRecDepth 100000 in
theorem demand_Proves.calls (k : Nat) (A0 : Option Addr) (c0 : Nat) (l0 : List (S43)) (a1 : Int) (a2 : Int) (a3 : Int) (r : Bool) (w : World) (hr0 : Kd.C k43 w A0 l0.length l0) (hc0 : l0.length ≤ c0) (h : demand_Proves.f k l0 a1 a2 a3 = some r) :
  Calls Try.prog 21 #[.slice A0 l0.length c0,.int .i64 a1,.int .i64 a2,.int .i64 a3] w fun e w' => e = .returned (.bool r) ∧ Below w.heap.size w w' := by
 have HR0 := Yd hr0
 have HC0 := Yd hc0
 clear hr0 hc0
 have HB := Yd (Below.refl w.heap.size w)
 have H : ((demand_Shed.f k l0 a1 a2).bind fun bt233 => (if bt233.2.2 = 0 then (some (bt233.1 == a3)) else (some false))) = some r := h
 clear h
 replace H := Option.bind_eq_some_iff.mp H
 obtain ⟨⟨t233,t234,t235⟩,A50,H⟩ := H
 replace H : (if t235 = 0 then (some (t233 == a3)) else (some false)) = some r := H
 have A5 := Yd A50
 clear A50
 by_cases c6 : t235 = 0
 ·rw [if_pos c6] at H
  have c6b0 : (t235 == 0) = true := beq_iff_eq.mpr c6
  have c6b1 : (t235 != 0) = false := bne_eq_false_iff_eq.mpr c6
  clear c6
  obtain rfl := Option.some.inj H
  go_enter Try.func21,Try.ntmps21
  go_wp2_with (first | ((with_reducible refine gate_callee (f := 18) rfl ?_);refine goesL_ (some 16) rfl rfl Try.func18 (by kernel_rfl) rfl #[.slice A0 l0.length c0,.int .i64 a1,.int .i64 a2] rfl Y8 ?_;(with_reducible refine (demand_Shed.calls k _ _ l0 a1 a2 t233 t234 t235 _ ?side1 ?side2 A5.out).mono ?_);(case side1 => repeat (first | exact HR0.out | (with_reducible refine Kd.C_alloc ?_ _) | (with_reducible refine Kd.C_drewN ?_ _) | (with_reducible refine Kd.C_drew ?_)));(case side2 => exact HC0.out);rintro e w7 ⟨rfl,hb⟩;refine ⟨_,rfl,?_⟩;have n0_ := Yd (below_step (Y3 HB.out) hb);clear HB;have HB := n0_;clear n0_;(try clear hb);(try clear hb2);(try clear hk);(try clear hi)))
  go_ret
  exact ⟨by first | rfl | (simp [errW_none,errW_some] <;> rfl) | (simp [*,errW_none,errW_some] <;> rfl),Y3 HB.out⟩
 ·rw [if_neg c6] at H
  have c6b0 : (t235 == 0) = false := beq_eq_false_iff_ne.mpr c6
  have c6b1 : (t235 != 0) = true := bne_iff_ne.mpr c6
  obtain rfl := Option.some.inj H
  go_enter Try.func21,Try.ntmps21
  go_wp2_with (first | ((with_reducible refine gate_callee (f := 18) rfl ?_);refine goesL_ (some 16) rfl rfl Try.func18 (by kernel_rfl) rfl #[.slice A0 l0.length c0,.int .i64 a1,.int .i64 a2] rfl Y8 ?_;(with_reducible refine (demand_Shed.calls k _ _ l0 a1 a2 t233 t234 t235 _ ?side1 ?side2 A5.out).mono ?_);(case side1 => repeat (first | exact HR0.out | (with_reducible refine Kd.C_alloc ?_ _) | (with_reducible refine Kd.C_drewN ?_ _) | (with_reducible refine Kd.C_drew ?_)));(case side2 => exact HC0.out);rintro e w8 ⟨rfl,hb⟩;refine ⟨_,rfl,?_⟩;have n0_ := Yd (below_step (Y3 HB.out) hb);clear HB;have HB := n0_;clear n0_;(try clear hb);(try clear hb2);(try clear hk);(try clear hi)))
  go_ret
  exact ⟨by first | rfl | (simp [errW_none,errW_some] <;> rfl) | (simp [*,errW_none,errW_some] <;> rfl),Y3 HB.out⟩
end Go.Proofs.Ytcdjhdfjkfbgdaa.PD56
namespace Go.Proofs.Ytcdjhdfjkfbgdaa.PD56
open Go.RowKit Go.Proofs.YtcdjhdfjkfbgdaaW.PrintWords Go.Proofs.YtcdjhdfjkfbgdaaW.PrintLast Go.Proofs.YtcdjhdfjkfbgdaaW.PrintMore
attribute [local go_sem] max2_int min2_int max_two min_two max_three min_three max_four min_four
attribute [local go_sem high] eqA51
def plenumlaw56_awake.f (k : Nat)  : Option (Bool) := (some (([(⟨(⟨#[108,105,103,104,116,115]⟩ : ByteArray),1,10000,0,0⟩ : S43),(⟨(⟨#[102,97,110,115]⟩ : ByteArray),5,20000,0,0⟩ : S43),(⟨(⟨#[112,117,109,112,115]⟩ : ByteArray),5,30000,0,0⟩ : S43)] : List (S43)) : List (S43))).bind fun y236 => ((demand_Order.f k y236).bind fun bt239 => ((demand_Shed.f k y236 50000 100000).bind fun bt243 => ((demand_Shed.f k y236 50000 45000).bind fun bt246 => ((demand_Forecast.f k 30000000 60000 600 900).bind fun bt249 => ((demand_Step.f k y236 (([(⟨false,0⟩ : S51),(⟨true,0⟩ : S51),(⟨true,0⟩ : S51)] : List (S51))) 50000 85000 10).bind fun bt254 => (if bt239.2 = 0 then ((plenumref56_SameInts.f k bt239.1 (([2,1,0] : List Int))).bind fun t261 => (if t261 = true then (if bt243.2.2 = 0 then (if bt243.1 = 1 then (if bt243.2.1 = 80000 then (if bt246.2.2 = 9 then (if bt249.2 = 0 then (if bt249.1 = 53333 then (if bt254.2 = 0 then (if (bt254.1.length : Int) = 3 then (if 1 < (bt254.1.length : Int) then (if (!((rd_T51 bt254.1 1).f0) && (((rd_T51 bt254.1 1).f1) == 10)) = true then (if 2 < (bt254.1.length : Int) then (if (rd_T51 bt254.1 2).f0 = true then ((demand_Proves.f k y236 50000 70000 2).bind fun t264 => (some t264)) else (none)) else (none)) else (none)) else (none)) else (none)) else (none)) else (none)) else (none)) else (none)) else (none)) else (none)) else (none)) else (none))) else (none)))))))
theorem plenumlaw56_awake.mono : ∀ k,LeO (plenumlaw56_awake.f k ) (plenumlaw56_awake.f (k + 1) ) := by
 intro  k
 unfold plenumlaw56_awake.f
 repeat' first
   | (with_reducible exact demand_Forecast.mono _ _ _ _ _)
   | (with_reducible exact demand_Order.mono _ _)
   | (with_reducible exact demand_Proves.mono _ _ _ _ _)
   | (with_reducible exact demand_Shed.mono _ _ _ _)
   | (with_reducible exact demand_Step.mono _ _ _ _ _ _)
   | (with_reducible exact plenumref56_SameInts.mono _ _ _)
   | (with_reducible exact LeO.refl _)
   | (with_reducible exact LeO.none _)
   | (with_reducible refine LeO.ite ?_ ?_)
   | (with_reducible refine LeO.bind ?_ (fun _ => ?_))
   | exact demand_Forecast.mono _ _ _ _ _
   | exact demand_Order.mono _ _
   | exact demand_Proves.mono _ _ _ _ _
   | exact demand_Shed.mono _ _ _ _
   | exact demand_Step.mono _ _ _ _ _ _
   | exact plenumref56_SameInts.mono _ _ _
   | exact LeO.none _
   | refine LeO.ite ?_ ?_
   | refine LeO.bind ?_ (fun _ => ?_)
set_option maxHeartbeats 100000000 in
set_option maxRecDepth 100000 in
theorem plenumlaw56_awake.calls (k : Nat)  (r : Bool) (w : World) (h : plenumlaw56_awake.f k  = some r) :
  Calls Try.prog 4 #[] w fun e w' => e = .returned (.bool r) ∧ Below w.heap.size w w' := by
 have hu43 := Try.underlying43
 have hu51 := Try.underlying51
 have HB := Yd (Below.refl w.heap.size w)
 have H : ((some (([(⟨(⟨#[108,105,103,104,116,115]⟩ : ByteArray),1,10000,0,0⟩ : S43),(⟨(⟨#[102,97,110,115]⟩ : ByteArray),5,20000,0,0⟩ : S43),(⟨(⟨#[112,117,109,112,115]⟩ : ByteArray),5,30000,0,0⟩ : S43)] : List (S43)) : List (S43))).bind fun y236 => ((demand_Order.f k y236).bind fun bt239 => ((demand_Shed.f k y236 50000 100000).bind fun bt243 => ((demand_Shed.f k y236 50000 45000).bind fun bt246 => ((demand_Forecast.f k 30000000 60000 600 900).bind fun bt249 => ((demand_Step.f k y236 (([(⟨false,0⟩ : S51),(⟨true,0⟩ : S51),(⟨true,0⟩ : S51)] : List (S51))) 50000 85000 10).bind fun bt254 => (if bt239.2 = 0 then ((plenumref56_SameInts.f k bt239.1 (([2,1,0] : List Int))).bind fun t261 => (if t261 = true then (if bt243.2.2 = 0 then (if bt243.1 = 1 then (if bt243.2.1 = 80000 then (if bt246.2.2 = 9 then (if bt249.2 = 0 then (if bt249.1 = 53333 then (if bt254.2 = 0 then (if (bt254.1.length : Int) = 3 then (if 1 < (bt254.1.length : Int) then (if (!((rd_T51 bt254.1 1).f0) && (((rd_T51 bt254.1 1).f1) == 10)) = true then (if 2 < (bt254.1.length : Int) then (if (rd_T51 bt254.1 2).f0 = true then ((demand_Proves.f k y236 50000 70000 2).bind fun t264 => (some t264)) else (none)) else (none)) else (none)) else (none)) else (none)) else (none)) else (none)) else (none)) else (none)) else (none)) else (none)) else (none)) else (none))) else (none)))))))) = some r := h
 clear h
 obtain ⟨y236,hy236⟩ : ∃ y_ : List (S43),y_ = (([(⟨(⟨#[108,105,103,104,116,115]⟩ : ByteArray),1,10000,0,0⟩ : S43),(⟨(⟨#[102,97,110,115]⟩ : ByteArray),5,20000,0,0⟩ : S43),(⟨(⟨#[112,117,109,112,115]⟩ : ByteArray),5,30000,0,0⟩ : S43)] : List (S43))) := ⟨_,rfl⟩
 replace H : ((demand_Order.f k y236).bind fun bt239 => ((demand_Shed.f k y236 50000 100000).bind fun bt243 => ((demand_Shed.f k y236 50000 45000).bind fun bt246 => ((demand_Forecast.f k 30000000 60000 600 900).bind fun bt249 => ((demand_Step.f k y236 (([(⟨false,0⟩ : S51),(⟨true,0⟩ : S51),(⟨true,0⟩ : S51)] : List (S51))) 50000 85000 10).bind fun bt254 => (if bt239.2 = 0 then ((plenumref56_SameInts.f k bt239.1 (([2,1,0] : List Int))).bind fun t261 => (if t261 = true then (if bt243.2.2 = 0 then (if bt243.1 = 1 then (if bt243.2.1 = 80000 then (if bt246.2.2 = 9 then (if bt249.2 = 0 then (if bt249.1 = 53333 then (if bt254.2 = 0 then (if (bt254.1.length : Int) = 3 then (if 1 < (bt254.1.length : Int) then (if (!((rd_T51 bt254.1 1).f0) && (((rd_T51 bt254.1 1).f1) == 10)) = true then (if 2 < (bt254.1.length : Int) then (if (rd_T51 bt254.1 2).f0 = true then ((demand_Proves.f k y236 50000 70000 2).bind fun t264 => (some t264)) else (none)) else (none)) else (none)) else (none)) else (none)) else (none)) else (none)) else (none)) else (none)) else (none)) else (none)) else (none)) else (none))) else (none))))))) = some r := by first | (rw [hy236];with_reducible exact H) | (have H2_ := (Option.bind_some _ _).symm.trans H;rw [hy236];with_reducible exact H2_) | (have H2_ := (Option.bind_some _ _).symm.trans H;with_reducible exact H2_) | with_reducible exact H | (rw [hy236];exact H) | exact H
 have Ny236 := Yd hy236
 clear hy236
 replace H := Option.bind_eq_some_iff.mp H
 obtain ⟨⟨t239,t240⟩,A10,H⟩ := H
 replace H : ((demand_Shed.f k y236 50000 100000).bind fun bt243 => ((demand_Shed.f k y236 50000 45000).bind fun bt246 => ((demand_Forecast.f k 30000000 60000 600 900).bind fun bt249 => ((demand_Step.f k y236 (([(⟨false,0⟩ : S51),(⟨true,0⟩ : S51),(⟨true,0⟩ : S51)] : List (S51))) 50000 85000 10).bind fun bt254 => (if t240 = 0 then ((plenumref56_SameInts.f k t239 (([2,1,0] : List Int))).bind fun t261 => (if t261 = true then (if bt243.2.2 = 0 then (if bt243.1 = 1 then (if bt243.2.1 = 80000 then (if bt246.2.2 = 9 then (if bt249.2 = 0 then (if bt249.1 = 53333 then (if bt254.2 = 0 then (if (bt254.1.length : Int) = 3 then (if 1 < (bt254.1.length : Int) then (if (!((rd_T51 bt254.1 1).f0) && (((rd_T51 bt254.1 1).f1) == 10)) = true then (if 2 < (bt254.1.length : Int) then (if (rd_T51 bt254.1 2).f0 = true then ((demand_Proves.f k y236 50000 70000 2).bind fun t264 => (some t264)) else (none)) else (none)) else (none)) else (none)) else (none)) else (none)) else (none)) else (none)) else (none)) else (none)) else (none)) else (none)) else (none))) else (none)))))) = some r := H
 have A1 := Yd A10
 clear A10
 replace H := Option.bind_eq_some_iff.mp H
 obtain ⟨⟨t243,t244,t245⟩,A20,H⟩ := H
 replace H : ((demand_Shed.f k y236 50000 45000).bind fun bt246 => ((demand_Forecast.f k 30000000 60000 600 900).bind fun bt249 => ((demand_Step.f k y236 (([(⟨false,0⟩ : S51),(⟨true,0⟩ : S51),(⟨true,0⟩ : S51)] : List (S51))) 50000 85000 10).bind fun bt254 => (if t240 = 0 then ((plenumref56_SameInts.f k t239 (([2,1,0] : List Int))).bind fun t261 => (if t261 = true then (if t245 = 0 then (if t243 = 1 then (if t244 = 80000 then (if bt246.2.2 = 9 then (if bt249.2 = 0 then (if bt249.1 = 53333 then (if bt254.2 = 0 then (if (bt254.1.length : Int) = 3 then (if 1 < (bt254.1.length : Int) then (if (!((rd_T51 bt254.1 1).f0) && (((rd_T51 bt254.1 1).f1) == 10)) = true then (if 2 < (bt254.1.length : Int) then (if (rd_T51 bt254.1 2).f0 = true then ((demand_Proves.f k y236 50000 70000 2).bind fun t264 => (some t264)) else (none)) else (none)) else (none)) else (none)) else (none)) else (none)) else (none)) else (none)) else (none)) else (none)) else (none)) else (none)) else (none))) else (none))))) = some r := H
 have A2 := Yd A20
 clear A20
 replace H := Option.bind_eq_some_iff.mp H
 obtain ⟨⟨t246,t247,t248⟩,A30,H⟩ := H
 replace H : ((demand_Forecast.f k 30000000 60000 600 900).bind fun bt249 => ((demand_Step.f k y236 (([(⟨false,0⟩ : S51),(⟨true,0⟩ : S51),(⟨true,0⟩ : S51)] : List (S51))) 50000 85000 10).bind fun bt254 => (if t240 = 0 then ((plenumref56_SameInts.f k t239 (([2,1,0] : List Int))).bind fun t261 => (if t261 = true then (if t245 = 0 then (if t243 = 1 then (if t244 = 80000 then (if t248 = 9 then (if bt249.2 = 0 then (if bt249.1 = 53333 then (if bt254.2 = 0 then (if (bt254.1.length : Int) = 3 then (if 1 < (bt254.1.length : Int) then (if (!((rd_T51 bt254.1 1).f0) && (((rd_T51 bt254.1 1).f1) == 10)) = true then (if 2 < (bt254.1.length : Int) then (if (rd_T51 bt254.1 2).f0 = true then ((demand_Proves.f k y236 50000 70000 2).bind fun t264 => (some t264)) else (none)) else (none)) else (none)) else (none)) else (none)) else (none)) else (none)) else (none)) else (none)) else (none)) else (none)) else (none)) else (none))) else (none)))) = some r := H
 have A3 := Yd A30
 clear A30
 replace H := Option.bind_eq_some_iff.mp H
 obtain ⟨⟨t249,t250⟩,A40,H⟩ := H
 replace H : ((demand_Step.f k y236 (([(⟨false,0⟩ : S51),(⟨true,0⟩ : S51),(⟨true,0⟩ : S51)] : List (S51))) 50000 85000 10).bind fun bt254 => (if t240 = 0 then ((plenumref56_SameInts.f k t239 (([2,1,0] : List Int))).bind fun t261 => (if t261 = true then (if t245 = 0 then (if t243 = 1 then (if t244 = 80000 then (if t248 = 9 then (if t250 = 0 then (if t249 = 53333 then (if bt254.2 = 0 then (if (bt254.1.length : Int) = 3 then (if 1 < (bt254.1.length : Int) then (if (!((rd_T51 bt254.1 1).f0) && (((rd_T51 bt254.1 1).f1) == 10)) = true then (if 2 < (bt254.1.length : Int) then (if (rd_T51 bt254.1 2).f0 = true then ((demand_Proves.f k y236 50000 70000 2).bind fun t264 => (some t264)) else (none)) else (none)) else (none)) else (none)) else (none)) else (none)) else (none)) else (none)) else (none)) else (none)) else (none)) else (none)) else (none))) else (none))) = some r := H
 have A4 := Yd A40
 clear A40
 obtain ⟨y251,hy251⟩ : ∃ y_ : List (S51),y_ = (([(⟨false,0⟩ : S51),(⟨true,0⟩ : S51),(⟨true,0⟩ : S51)] : List (S51))) := ⟨_,rfl⟩
 replace H : ((demand_Step.f k y236 y251 50000 85000 10).bind fun bt254 => (if t240 = 0 then ((plenumref56_SameInts.f k t239 (([2,1,0] : List Int))).bind fun t261 => (if t261 = true then (if t245 = 0 then (if t243 = 1 then (if t244 = 80000 then (if t248 = 9 then (if t250 = 0 then (if t249 = 53333 then (if bt254.2 = 0 then (if (bt254.1.length : Int) = 3 then (if 1 < (bt254.1.length : Int) then (if (!((rd_T51 bt254.1 1).f0) && (((rd_T51 bt254.1 1).f1) == 10)) = true then (if 2 < (bt254.1.length : Int) then (if (rd_T51 bt254.1 2).f0 = true then ((demand_Proves.f k y236 50000 70000 2).bind fun t264 => (some t264)) else (none)) else (none)) else (none)) else (none)) else (none)) else (none)) else (none)) else (none)) else (none)) else (none)) else (none)) else (none)) else (none))) else (none))) = some r := by first | (rw [hy251];with_reducible exact H) | (have H2_ := (Option.bind_some _ _).symm.trans H;rw [hy251];with_reducible exact H2_) | (have H2_ := (Option.bind_some _ _).symm.trans H;with_reducible exact H2_) | with_reducible exact H | (rw [hy251];exact H) | exact H
 have Ny251 := Yd hy251
 clear hy251
 replace H := Option.bind_eq_some_iff.mp H
 obtain ⟨⟨t254,t255⟩,A50,H⟩ := H
 replace H : (if t240 = 0 then ((plenumref56_SameInts.f k t239 (([2,1,0] : List Int))).bind fun t261 => (if t261 = true then (if t245 = 0 then (if t243 = 1 then (if t244 = 80000 then (if t248 = 9 then (if t250 = 0 then (if t249 = 53333 then (if t255 = 0 then (if (t254.length : Int) = 3 then (if 1 < (t254.length : Int) then (if (!((rd_T51 t254 1).f0) && (((rd_T51 t254 1).f1) == 10)) = true then (if 2 < (t254.length : Int) then (if (rd_T51 t254 2).f0 = true then ((demand_Proves.f k y236 50000 70000 2).bind fun t264 => (some t264)) else (none)) else (none)) else (none)) else (none)) else (none)) else (none)) else (none)) else (none)) else (none)) else (none)) else (none)) else (none)) else (none))) else (none)) = some r := H
 have A5 := Yd A50
 clear A50
 by_cases c6 : t240 = 0
 case neg => rw [if_neg c6] at H;exact absurd H (by simp)
 rw [if_pos c6] at H
 have c6b0 : (t240 == 0) = true := beq_iff_eq.mpr c6
 have c6b1 : (t240 != 0) = false := bne_eq_false_iff_eq.mpr c6
 clear c6
 obtain ⟨y258,hy258⟩ : ∃ y_ : List Int,y_ = (([2,1,0] : List Int)) := ⟨_,rfl⟩
 replace H : ((plenumref56_SameInts.f k t239 y258).bind fun t261 => (if t261 = true then (if t245 = 0 then (if t243 = 1 then (if t244 = 80000 then (if t248 = 9 then (if t250 = 0 then (if t249 = 53333 then (if t255 = 0 then (if (t254.length : Int) = 3 then (if 1 < (t254.length : Int) then (if (!((rd_T51 t254 1).f0) && (((rd_T51 t254 1).f1) == 10)) = true then (if 2 < (t254.length : Int) then (if (rd_T51 t254 2).f0 = true then ((demand_Proves.f k y236 50000 70000 2).bind fun t264 => (some t264)) else (none)) else (none)) else (none)) else (none)) else (none)) else (none)) else (none)) else (none)) else (none)) else (none)) else (none)) else (none)) else (none))) = some r := by first | (rw [hy258];with_reducible exact H) | (have H2_ := (Option.bind_some _ _).symm.trans H;rw [hy258];with_reducible exact H2_) | (have H2_ := (Option.bind_some _ _).symm.trans H;with_reducible exact H2_) | with_reducible exact H | (rw [hy258];exact H) | exact H
 have Ny258 := Yd hy258
 clear hy258
 replace H := Option.bind_eq_some_iff.mp H
 obtain ⟨t261,A70,H⟩ := H
 replace H : (if t261 = true then (if t245 = 0 then (if t243 = 1 then (if t244 = 80000 then (if t248 = 9 then (if t250 = 0 then (if t249 = 53333 then (if t255 = 0 then (if (t254.length : Int) = 3 then (if 1 < (t254.length : Int) then (if (!((rd_T51 t254 1).f0) && (((rd_T51 t254 1).f1) == 10)) = true then (if 2 < (t254.length : Int) then (if (rd_T51 t254 2).f0 = true then ((demand_Proves.f k y236 50000 70000 2).bind fun t264 => (some t264)) else (none)) else (none)) else (none)) else (none)) else (none)) else (none)) else (none)) else (none)) else (none)) else (none)) else (none)) else (none)) else (none)) = some r := H
 have A7 := Yd A70
 clear A70
 by_cases c8 : t261 = true
 ·subst c8
  have H1 : (if t245 = 0 then (if t243 = 1 then (if t244 = 80000 then (if t248 = 9 then (if t250 = 0 then (if t249 = 53333 then (if t255 = 0 then (if (t254.length : Int) = 3 then (if 1 < (t254.length : Int) then (if (!((rd_T51 t254 1).f0) && (((rd_T51 t254 1).f1) == 10)) = true then (if 2 < (t254.length : Int) then (if (rd_T51 t254 2).f0 = true then ((demand_Proves.f k y236 50000 70000 2).bind fun t264 => (some t264)) else (none)) else (none)) else (none)) else (none)) else (none)) else (none)) else (none)) else (none)) else (none)) else (none)) else (none)) else (none)) = some r := by rw [if_pos rfl] at H;exact H
  clear H
  have H := H1
  clear H1
  by_cases c9 : t245 = 0
  case neg => rw [if_neg c9] at H;exact absurd H (by simp)
  rw [if_pos c9] at H
  have c9b0 : (t245 == 0) = true := beq_iff_eq.mpr c9
  have c9b1 : (t245 != 0) = false := bne_eq_false_iff_eq.mpr c9
  clear c9
  by_cases c10 : t243 = 1
  case neg => rw [if_neg c10] at H;exact absurd H (by simp)
  rw [if_pos c10] at H
  have c10b0 : (t243 == 1) = true := beq_iff_eq.mpr c10
  have c10b1 : (t243 != 1) = false := bne_eq_false_iff_eq.mpr c10
  clear c10
  by_cases c11 : t244 = 80000
  case neg => rw [if_neg c11] at H;exact absurd H (by simp)
  rw [if_pos c11] at H
  have c11b0 : (t244 == 80000) = true := beq_iff_eq.mpr c11
  have c11b1 : (t244 != 80000) = false := bne_eq_false_iff_eq.mpr c11
  clear c11
  by_cases c12 : t248 = 9
  case neg => rw [if_neg c12] at H;exact absurd H (by simp)
  rw [if_pos c12] at H
  have c12b0 : (t248 == 9) = true := beq_iff_eq.mpr c12
  have c12b1 : (t248 != 9) = false := bne_eq_false_iff_eq.mpr c12
  clear c12
  by_cases c13 : t250 = 0
  case neg => rw [if_neg c13] at H;exact absurd H (by simp)
  rw [if_pos c13] at H
  have c13b0 : (t250 == 0) = true := beq_iff_eq.mpr c13
  have c13b1 : (t250 != 0) = false := bne_eq_false_iff_eq.mpr c13
  clear c13
  by_cases c14 : t249 = 53333
  case neg => rw [if_neg c14] at H;exact absurd H (by simp)
  rw [if_pos c14] at H
  have c14b0 : (t249 == 53333) = true := beq_iff_eq.mpr c14
  have c14b1 : (t249 != 53333) = false := bne_eq_false_iff_eq.mpr c14
  clear c14
  by_cases c15 : t255 = 0
  case neg => rw [if_neg c15] at H;exact absurd H (by simp)
  rw [if_pos c15] at H
  have c15b0 : (t255 == 0) = true := beq_iff_eq.mpr c15
  have c15b1 : (t255 != 0) = false := bne_eq_false_iff_eq.mpr c15
  clear c15
  by_cases c16 : (t254.length : Int) = 3
  case neg => rw [if_neg c16] at H;exact absurd H (by simp)
  rw [if_pos c16] at H
  have c16b0 : ((t254.length : Int) == 3) = true := beq_iff_eq.mpr c16
  have c16b1 : ((t254.length : Int) != 3) = false := bne_eq_false_iff_eq.mpr c16
  clear c16
  by_cases c17 : 1 < (t254.length : Int)
  case neg => rw [if_neg c17] at H;exact absurd H (by simp)
  rw [if_pos c17] at H
  have c17b0 : decide (1 < (t254.length : Int)) = true := decide_eq_true c17
  have c17b1 : decide (1 < t254.length) = true := decide_eq_true (by omega)
  clear c17
  by_cases c18 : (!((rd_T51 t254 1).f0) && (((rd_T51 t254 1).f1) == 10)) = true
  case neg => rw [if_neg c18] at H;exact absurd H (by simp)
  rw [if_pos c18] at H
  have c18b0 : (!((rd_T51 t254 1).f0) && (((rd_T51 t254 1).f1) == 10)) = true := c18
  clear c18
  by_cases c19 : 2 < (t254.length : Int)
  case neg => rw [if_neg c19] at H;exact absurd H (by simp)
  rw [if_pos c19] at H
  have c19b0 : decide (2 < (t254.length : Int)) = true := decide_eq_true c19
  have c19b1 : decide (2 < t254.length) = true := decide_eq_true (by omega)
  clear c19
  obtain ⟨bq20,hbq20⟩ : ∃ b_ : Bool,b_ = ((rd_T51 t254 2).f0) := ⟨_,rfl⟩
  replace H : (if bq20 = true then ((demand_Proves.f k y236 50000 70000 2).bind fun t264 => (some t264)) else (none)) = some r := by rw [← hbq20] at H;exact H
  have Nbq20 := Yd hbq20
  clear hbq20
  (try rw [← Nbq20.out])
  by_cases c21 : bq20 = true
  ·subst c21
   have H1 : ((demand_Proves.f k y236 50000 70000 2).bind fun t264 => (some t264)) = some r := by rw [if_pos rfl] at H;exact H
   clear H
   have H := H1
   clear H1
   replace H := Option.bind_eq_some_iff.mp H
   obtain ⟨t264,A220,H⟩ := H
   replace H : (some t264) = some r := H
   have A22 := Yd A220
   clear A220
   obtain rfl := Option.some.inj H
   go_enter Try.func4,Try.ntmps4
   go_wp2_with (first | ((with_reducible refine gate_dst (N := 17) rfl ?_);(try (refine gate_guard (by rfl) ?_;dsimp only));refine Kd.R_lit k43 _ 43 ?hg (N := 17) ?hd (xs := ([(⟨(⟨#[108,105,103,104,116,115]⟩ : ByteArray),1,10000,0,0⟩ : S43),(⟨(⟨#[102,97,110,115]⟩ : ByteArray),5,20000,0,0⟩ : S43),(⟨(⟨#[112,117,109,112,115]⟩ : ByteArray),5,30000,0,0⟩ : S43)] : List (S43))) (inner := [.string (⟨#[108,105,103,104,116,115]⟩ : ByteArray),.int .i64 1,.int .i64 10000,.int .i64 0,.int .i64 0,.string (⟨#[102,97,110,115]⟩ : ByteArray),.int .i64 5,.int .i64 20000,.int .i64 0,.int .i64 0,.string (⟨#[112,117,109,112,115]⟩ : ByteArray),.int .i64 5,.int .i64 30000,.int .i64 0,.int .i64 0]) (ok := fun _ => True) (okp := fun _ => True) ?hr ?hp (fun _ hk => hk) trivial (Below.refl _ _) (Nat.le_refl _) (by simp) ?_;(case hd => rfl);(case hg => rfl);(case hr => first | (go_simp;done) | (go_simp;rfl));(case hp => exact (Reps.c5 (show Kd.M k43 _ _ _ (⟨(⟨#[108,105,103,104,116,115]⟩ : ByteArray),1,10000,0,0⟩ : S43) [.string (⟨#[108,105,103,104,116,115]⟩ : ByteArray),.int .i64 1,.int .i64 10000,.int .i64 0,.int .i64 0] from (k43_mkM _ _ _ (⟨(⟨#[108,105,103,104,116,115]⟩ : ByteArray),1,10000,0,0⟩ : S43) )) (Reps.c5 (show Kd.M k43 _ _ _ (⟨(⟨#[102,97,110,115]⟩ : ByteArray),5,20000,0,0⟩ : S43) [.string (⟨#[102,97,110,115]⟩ : ByteArray),.int .i64 5,.int .i64 20000,.int .i64 0,.int .i64 0] from (k43_mkM _ _ _ (⟨(⟨#[102,97,110,115]⟩ : ByteArray),5,20000,0,0⟩ : S43) )) (Reps.c5 (show Kd.M k43 _ _ _ (⟨(⟨#[112,117,109,112,115]⟩ : ByteArray),5,30000,0,0⟩ : S43) [.string (⟨#[112,117,109,112,115]⟩ : ByteArray),.int .i64 5,.int .i64 30000,.int .i64 0,.int .i64 0] from (k43_mkM _ _ _ (⟨(⟨#[112,117,109,112,115]⟩ : ByteArray),5,30000,0,0⟩ : S43) )) (Reps.none _ _)))));intro v237 w23 ho24 hb hg_ hnew_;clear hg_ hnew_;(first | rw [← Ny236.out] at ho24 | (simp only [Int.reduceToNat] at ho24;rw [← Ny236.out] at ho24));have n0_ := Yd (Kd.R_lower ho24 (below_size (Y3 HB.out)));have n1_ := Yd (below_step (Y3 HB.out) hb);clear HB;have HO238 := n0_;have HB := n1_;clear n0_ n1_;clear hb ho24;obtain ⟨Ao25,co25,eo25⟩ := Kd.R_slice HO238.out;subst eo25) | ((with_reducible refine gate_callee (f := 17) rfl ?_);refine goesL_ (some 20) rfl rfl Try.func17 (by kernel_rfl) rfl #[.slice Ao25 y236.length co25] rfl Y8 ?_;(with_reducible refine (demand_Order.calls k _ _ y236 t239 t240 _ ?side1 ?side2 A1.out).mono ?_);(case side1 => repeat (first | exact (Kd.R_reads' HO238.out).2.2 | (with_reducible refine Kd.C_alloc ?_ _) | (with_reducible refine Kd.C_drewN ?_ _) | (with_reducible refine Kd.C_drew ?_)));(case side2 => exact (Kd.R_reads' HO238.out).2.1);rintro e w26 ⟨v241,rfl,ho0,hb⟩;refine ⟨_,rfl,?_⟩;have n0_ := Yd (Kd.R_below (Y5 HO238.out) hb);have n1_ := Yd (Kd.R_lower ho0 (below_size (Y3 HB.out)));have n2_ := Yd (below_step (Y3 HB.out) hb);clear HO238;clear HB;have HO238 := n0_;have HO242 := n1_;have HB := n2_;clear n0_ n1_ n2_;(try clear hb);(try clear hb2);(try clear hk);(try clear hi);(try clear ho0)) | ((with_reducible refine gate_callee (f := 18) rfl ?_);refine goesL_ (some 25) rfl rfl Try.func18 (by kernel_rfl) rfl #[.slice Ao25 y236.length co25,.int .i64 50000,.int .i64 100000] rfl Y8 ?_;(with_reducible refine (demand_Shed.calls k _ _ y236 50000 100000 t243 t244 t245 _ ?side1 ?side2 A2.out).mono ?_);(case side1 => repeat (first | exact (Kd.R_reads' HO238.out).2.2 | (with_reducible refine Kd.C_alloc ?_ _) | (with_reducible refine Kd.C_drewN ?_ _) | (with_reducible refine Kd.C_drew ?_)));(case side2 => exact (Kd.R_reads' HO238.out).2.1);rintro e w27 ⟨rfl,hb⟩;refine ⟨_,rfl,?_⟩;have n0_ := Yd (Kd.R_below (Y5 HO238.out) hb);have n1_ := Yd (Kd.R_below (Y5 HO242.out) hb);have n2_ := Yd (below_step (Y3 HB.out) hb);clear HO238;clear HO242;clear HB;have HO238 := n0_;have HO242 := n1_;have HB := n2_;clear n0_ n1_ n2_;(try clear hb);(try clear hb2);(try clear hk);(try clear hi)) | ((with_reducible refine gate_callee (f := 18) rfl ?_);refine goesL_ (some 31) rfl rfl Try.func18 (by kernel_rfl) rfl #[.slice Ao25 y236.length co25,.int .i64 50000,.int .i64 45000] rfl Y8 ?_;(with_reducible refine (demand_Shed.calls k _ _ y236 50000 45000 t246 t247 t248 _ ?side1 ?side2 A3.out).mono ?_);(case side1 => repeat (first | exact (Kd.R_reads' HO238.out).2.2 | (with_reducible refine Kd.C_alloc ?_ _) | (with_reducible refine Kd.C_drewN ?_ _) | (with_reducible refine Kd.C_drew ?_)));(case side2 => exact (Kd.R_reads' HO238.out).2.1);rintro e w28 ⟨rfl,hb⟩;refine ⟨_,rfl,?_⟩;have n0_ := Yd (Kd.R_below (Y5 HO238.out) hb);have n1_ := Yd (Kd.R_below (Y5 HO242.out) hb);have n2_ := Yd (below_step (Y3 HB.out) hb);clear HO238;clear HO242;clear HB;have HO238 := n0_;have HO242 := n1_;have HB := n2_;clear n0_ n1_ n2_;(try clear hb);(try clear hb2);(try clear hk);(try clear hi)) | ((with_reducible refine gate_callee (f := 19) rfl ?_);refine goesL_ (some 36) rfl rfl Try.func19 (by kernel_rfl) rfl #[.int .i64 30000000,.int .i64 60000,.int .i64 600,.int .i64 900] rfl Y8 ?_;(with_reducible refine (demand_Forecast.calls k 30000000 60000 600 900 t249 t250 _ A4.out).mono ?_);rintro e w' ⟨rfl,⟨nd,rfl⟩⟩;refine ⟨_,rfl,?_⟩) | ((with_reducible refine gate_dst (N := 44) rfl ?_);(try (refine gate_guard (by rfl) ?_;dsimp only));refine Kd.R_lit k51 _ 51 ?hg (N := 44) ?hd (xs := ([(⟨false,0⟩ : S51),(⟨true,0⟩ : S51),(⟨true,0⟩ : S51)] : List (S51))) (inner := [.bool false,.int .i64 0,.bool true,.int .i64 0,.bool true,.int .i64 0]) (ok := fun _ => True) (okp := fun _ => True) ?hr ?hp (fun _ hk => hk) trivial (Below.refl _ _) (Nat.le_refl _) (by simp) ?_;(case hd => rfl);(case hg => rfl);(case hr => first | (go_simp;done) | (go_simp;rfl));(case hp => exact (Reps.c2 (show Kd.M k51 _ _ _ (⟨false,0⟩ : S51) [.bool false,.int .i64 0] from (k51_mkM _ _ _ (⟨false,0⟩ : S51) )) (Reps.c2 (show Kd.M k51 _ _ _ (⟨true,0⟩ : S51) [.bool true,.int .i64 0] from (k51_mkM _ _ _ (⟨true,0⟩ : S51) )) (Reps.c2 (show Kd.M k51 _ _ _ (⟨true,0⟩ : S51) [.bool true,.int .i64 0] from (k51_mkM _ _ _ (⟨true,0⟩ : S51) )) (Reps.none _ _)))));intro v252 w29 ho30 hb hg_ hnew_;clear hg_ hnew_;(first | rw [← Ny251.out] at ho30 | (simp only [Int.reduceToNat] at ho30;rw [← Ny251.out] at ho30));have n0_ := Yd (Kd.R_below (Y5 HO238.out) hb);have n1_ := Yd (Kd.R_below (Y5 HO242.out) hb);have n2_ := Yd (Kd.R_lower ho30 (below_size (Y3 HB.out)));have n3_ := Yd (below_step (Y3 HB.out) hb);clear HO238;clear HO242;clear HB;have HO238 := n0_;have HO242 := n1_;have HO253 := n2_;have HB := n3_;clear n0_ n1_ n2_ n3_;clear hb ho30;obtain ⟨Ao31,co31,eo31⟩ := Kd.R_slice HO253.out;subst eo31) | ((with_reducible refine gate_callee (f := 5) rfl ?_);refine goesL_ (some 45) rfl rfl Try.func5 (by kernel_rfl) rfl #[.slice Ao25 y236.length co25,.slice Ao31 y251.length co31,.int .i64 50000,.int .i64 85000,.int .i64 10] rfl Y8 ?_;(with_reducible refine (demand_Step.calls k _ _ y236 _ _ y251 50000 85000 10 t254 t255 _ ?side1 ?side2 ?side3 ?side4 A5.out).mono ?_);(case side1 => repeat (first | exact (Kd.R_reads' HO238.out).2.2 | (with_reducible refine Kd.C_alloc ?_ _) | (with_reducible refine Kd.C_drewN ?_ _) | (with_reducible refine Kd.C_drew ?_)));(case side2 => exact (Kd.R_reads' HO238.out).2.1);(case side3 => repeat (first | exact (Kd.R_reads' HO253.out).2.2 | (with_reducible refine Kd.C_alloc ?_ _) | (with_reducible refine Kd.C_drewN ?_ _) | (with_reducible refine Kd.C_drew ?_)));(case side4 => exact (Kd.R_reads' HO253.out).2.1);rintro e w32 ⟨v256,rfl,ho0,hb⟩;refine ⟨_,rfl,?_⟩;have n0_ := Yd (Kd.R_below (Y5 HO238.out) hb);have n1_ := Yd (Kd.R_below (Y5 HO242.out) hb);have n2_ := Yd (Kd.R_elder' (Y5 HO253.out) (Kd.R_base ho0) hb);have n3_ := Yd (Kd.R_lower (Kd.R_new' ho0 (Kd.R_lt (Y5 HO253.out))) (below_size (Y3 HB.out)));have n4_ := Yd (below_step (Y3 HB.out) hb);clear HO238;clear HO242;clear HO253;clear HB;have HO238 := n0_;have HO242 := n1_;have HO253 := n2_;have HO257 := n3_;have HB := n4_;clear n0_ n1_ n2_ n3_ n4_;(try clear hb);(try clear hb2);(try clear hk);(try clear hi);(try clear ho0)) | ((with_reducible refine gate_dst (N := 52) rfl ?_);(try (refine gate_guard (by rfl) ?_;dsimp only));refine Kd.R_lit (Kd.int .i64) _ 3 ?hg (N := 52) ?hd (xs := ([2,1,0] : List Int)) (inner := [.int .i64 2,.int .i64 1,.int .i64 0]) (ok := fun _ => True) (okp := fun _ => True) ?hr ?hp (fun _ hk => hk) trivial (Below.refl _ _) (Nat.le_refl _) (by simp) ?_;(case hd => rfl);(case hg => rfl);(case hr => first | (go_simp;done) | (go_simp;rfl));(case hp => exact (Reps.one (show Kd.M (Kd.int .i64) _ _ _ 2 [.int .i64 2] from rfl) (Reps.one (show Kd.M (Kd.int .i64) _ _ _ 1 [.int .i64 1] from rfl) (Reps.one (show Kd.M (Kd.int .i64) _ _ _ 0 [.int .i64 0] from rfl) (Reps.none _ _)))));intro v259 w33 ho34 hb hg_ hnew_;clear hg_ hnew_;(first | rw [← Ny258.out] at ho34 | (simp only [Int.reduceToNat] at ho34;rw [← Ny258.out] at ho34));have n0_ := Yd (Kd.R_below (Y5 HO238.out) hb);have n1_ := Yd (Kd.R_elder' (Y5 HO242.out) (Kd.R_base ho34) hb);have n2_ := Yd (Kd.R_below (Y5 HO253.out) hb);have n3_ := Yd (Kd.R_below (Y5 HO257.out) hb);have n4_ := Yd (Kd.R_lower (Kd.R_new' ho34 (Kd.R_lt (Y5 HO242.out))) (below_size (Y3 HB.out)));have n5_ := Yd (below_step (Y3 HB.out) hb);clear HO238;clear HO242;clear HO253;clear HO257;clear HB;have HO238 := n0_;have HO242 := n1_;have HO253 := n2_;have HO257 := n3_;have HO260 := n4_;have HB := n5_;clear n0_ n1_ n2_ n3_ n4_ n5_;clear hb ho34;obtain ⟨Ao35,co35,eo35⟩ := Kd.R_slice HO242.out;subst eo35;obtain ⟨Ao36,co36,eo36⟩ := Kd.R_slice HO260.out;subst eo36) | (go_at_call 20;(with_reducible refine (plenumref56_SameInts.calls k _ _ t239 _ _ y258 true _ ?side1 ?side2 ?side3 ?side4 A7.out).mono ?_);(case side1 => repeat (first | exact (Kd.R_reads' HO242.out).2.2 | (with_reducible refine Kd.C_alloc ?_ _) | (with_reducible refine Kd.C_drewN ?_ _) | (with_reducible refine Kd.C_drew ?_)));(case side2 => exact (Kd.R_reads' HO242.out).2.1);(case side3 => repeat (first | exact (Kd.R_reads' HO260.out).2.2 | (with_reducible refine Kd.C_alloc ?_ _) | (with_reducible refine Kd.C_drewN ?_ _) | (with_reducible refine Kd.C_drew ?_)));(case side4 => exact (Kd.R_reads' HO260.out).2.1);rintro e w' ⟨rfl,⟨nd,rfl⟩⟩;obtain ⟨Ao37,co37,eo37⟩ := Kd.R_slice HO257.out;subst eo37;have p262 : 0 ≤ (1 : Int) := (by omega);have q262 : 1 < (t254.length : Int) := Y9;obtain ⟨ad262,e262,hx262_0,hx262_1⟩ := at_T51 (Kd.R_reads' HO257.out).2.2 1 p262 q262;(try rw [← Nbq20.out] at hx262_0);(try rw [← Nbq20.out] at hw262_0);cases e262;(try simp only [show (1 : Int).toNat = 1 from rfl,Nat.reduceMul,Nat.reduceEqDiff,Go.Addr.add,↓reduceIte] at hx262_0);(try simp only [show (1 : Int).toNat = 1 from rfl,Nat.reduceMul,Nat.reduceEqDiff,Go.Addr.add,↓reduceIte] at hx262_1);have qi262 : (1 < t254.length) = True := eq_true (by omega);(try rw [show ((1 : Int)).toNat = 1 from rfl] at hx262_0);(try rw [show 1 * 2 = 2 from rfl] at hx262_0);(try rw [show ((1 : Int)).toNat = 1 from rfl] at hx262_1);(try rw [show 1 * 2 = 2 from rfl] at hx262_1);replace p262 := eq_true p262;replace q262 := eq_true q262;have p263 : 0 ≤ (2 : Int) := (by omega);have q263 : 2 < (t254.length : Int) := Y9;obtain ⟨ad263,e263,hx263_0,hx263_1⟩ := at_T51 (Kd.R_reads' HO257.out).2.2 2 p263 q263;(try rw [← Nbq20.out] at hx263_0);(try rw [← Nbq20.out] at hw263_0);obtain rfl : ad262 = ad263 := (by injection e263);(try simp only [show (2 : Int).toNat = 2 from rfl,Nat.reduceMul,Nat.reduceEqDiff,Go.Addr.add,↓reduceIte] at hx263_0);(try simp only [show (2 : Int).toNat = 2 from rfl,Nat.reduceMul,Nat.reduceEqDiff,Go.Addr.add,↓reduceIte] at hx263_1);have qi263 : (2 < t254.length) = True := eq_true (by omega);(try rw [show ((2 : Int)).toNat = 2 from rfl] at hx263_0);(try rw [show 2 * 2 = 4 from rfl] at hx263_0);(try rw [show ((2 : Int)).toNat = 2 from rfl] at hx263_1);(try rw [show 2 * 2 = 4 from rfl] at hx263_1);replace p263 := eq_true p263;replace q263 := eq_true q263) | (go_at_call 21;(with_reducible refine (demand_Proves.calls k _ _ y236 50000 70000 2 t264 _ ?side1 ?side2 A22.out).mono ?_);(case side1 => repeat (first | exact (Kd.R_reads' HO238.out).2.2 | (with_reducible refine Kd.C_alloc ?_ _) | (with_reducible refine Kd.C_drewN ?_ _) | (with_reducible refine Kd.C_drew ?_)));(case side2 => exact (Kd.R_reads' HO238.out).2.1);rintro e w38 ⟨rfl,hb⟩;have n0_ := Yd (Kd.R_below (Y5 HO238.out) hb);have n1_ := Yd (Kd.R_below (Y5 HO242.out) hb);have n2_ := Yd (Kd.R_below (Y5 HO253.out) hb);have n3_ := Yd (Kd.R_below (Y5 HO257.out) hb);have n4_ := Yd (Kd.R_below (Y5 HO260.out) hb);have n5_ := Yd (below_step (Y3 HB.out) hb);clear HO238;clear HO242;clear HO253;clear HO257;clear HO260;clear HB;have HO238 := n0_;have HO242 := n1_;have HO253 := n2_;have HO257 := n3_;have HO260 := n4_;have HB := n5_;clear n0_ n1_ n2_ n3_ n4_ n5_;(try clear hb);(try clear hb2);(try clear hk);(try clear hi)))
   go_ret
   exact ⟨by first | rfl | (simp [errW_none,errW_some] <;> rfl) | (simp [*,errW_none,errW_some] <;> rfl),Y3 HB.out⟩
  ·replace c21 := Bool.eq_false_iff.mpr c21
   subst c21
   have H1 : (none) = some r := by rw [if_neg (show ¬ (false = true) by decide)] at H;exact H
   clear H
   have H := H1
   clear H1
   exact absurd H (by simp)
 ·replace c8 := Bool.eq_false_iff.mpr c8
  subst c8
  have H1 : (none) = some r := by rw [if_neg (show ¬ (false = true) by decide)] at H;exact H
  clear H
  have H := H1
  clear H1
  exact absurd H (by simp)
def plenumlaw56_ours.l0 : Nat → List (S59) → List (S51) → Int → Option ((List (S51)))
 | 0,_,_,_ => none
 | k + 1,x0,x3,x4 => if x4 < (x0.length : Int) then (if 0 ≤ x4 then (if x3.length < 8796093022208 then (plenumlaw56_ours.l0 k x0 (x3 ++ [(⟨(rd_T59 x0 x4).f0,(rd_T59 x0 x4).f1⟩ : S51)]) (wrap64 (x4 + 1))) else (none)) else (none)) else (some x3)
def plenumlaw56_ours.f (k : Nat) (l0 : List (S59)) : Option ((List (S51))) := plenumlaw56_ours.l0 k l0 (([] : List (S51))) 0
theorem plenumlaw56_ours.mono_l : ∀ k,(∀ y0 y1 y2,LeO (plenumlaw56_ours.l0 k y0 y1 y2) (plenumlaw56_ours.l0 (k + 1) y0 y1 y2))
 | 0 => fun _ _ _ r h => by simp [plenumlaw56_ours.l0] at h
 | k + 1 => by
  have ih0 := plenumlaw56_ours.mono_l k
  ·intro y0 y1 y2
   unfold plenumlaw56_ours.l0
   repeat' first
   | (with_reducible exact ih0 _ _ _)
   | (with_reducible exact LeO.refl _)
   | (with_reducible exact LeO.none _)
   | (with_reducible refine LeO.ite ?_ ?_)
   | (with_reducible refine LeO.bind ?_ (fun _ => ?_))
   | exact ih0 _ _ _
   | exact LeO.none _
   | refine LeO.ite ?_ ?_
   | refine LeO.bind ?_ (fun _ => ?_)
theorem plenumlaw56_ours.mono : ∀ a0 k,LeO (plenumlaw56_ours.f k a0) (plenumlaw56_ours.f (k + 1) a0) := by
 intro a0 k
 have ih0 := plenumlaw56_ours.mono_l k
 unfold plenumlaw56_ours.f
 repeat' first
   | (with_reducible exact ih0 _ _ _)
   | (with_reducible exact LeO.refl _)
   | (with_reducible exact LeO.none _)
   | (with_reducible refine LeO.ite ?_ ?_)
   | (with_reducible refine LeO.bind ?_ (fun _ => ?_))
   | exact ih0 _ _ _
   | exact LeO.none _
   | refine LeO.ite ?_ ?_
   | refine LeO.bind ?_ (fun _ => ?_)
set_option maxHeartbeats 100000000 in
set_option maxRecDepth 100000 in
theorem plenumlaw56_ours.calls (k : Nat) (A0 : Option Addr) (c0 : Nat) (l0 : List (S59)) (r : List (S51)) (w : World) (hr0 : Kd.C k59 w A0 l0.length l0) (hc0 : l0.length ≤ c0) (h : plenumlaw56_ours.f k l0 = some r) :
  Calls Try.prog 6 #[.slice A0 l0.length c0] w fun e w' => ∃ v0_ : Value,e = .returned (v0_) ∧ Kd.R k51 51 w' w.heap.size (fun _ => True) v0_ r ∧ Below w.heap.size w w' := by
 have hu59 := Try.underlying59
 have HR0 := Yd hr0
 have HC0 := Yd hc0
 clear hr0 hc0
 have HB := Yd (Below.refl w.heap.size w)
 have H : (plenumlaw56_ours.l0 k l0 (([] : List (S51))) 0) = some r := h
 clear h
 obtain ⟨y265,hy265⟩ : ∃ y_ : List (S51),y_ = (([] : List (S51))) := ⟨_,rfl⟩
 replace H : (plenumlaw56_ours.l0 k l0 y265 0) = some r := by first | (rw [hy265];with_reducible exact H) | (have H2_ := (Option.bind_some _ _).symm.trans H;rw [hy265];with_reducible exact H2_) | (have H2_ := (Option.bind_some _ _).symm.trans H;with_reducible exact H2_) | with_reducible exact H | (rw [hy265];exact H) | exact H
 have Ny265 := Yd hy265
 clear hy265
 have H' := Yd H
 clear H
 go_enter Try.func6,Try.ntmps6
 go_wp2_with (first | ((with_reducible refine gate_dst (N := 5) rfl ?_);refine Kd.R_lit k51 _ 51 ?hg (N := 5) ?hd (xs := ([] : List (S51))) (inner := []) (ok := fun _ => True) (okp := fun _ => True) ?hr ?hp (fun _ hk => hk) trivial (Below.refl _ _) (Nat.le_refl _) (by simp) ?_;(case hd => rfl);(case hg => rfl);(case hr => first | (go_simp;done) | (go_simp;rfl));(case hp => exact (Reps.none _ _));intro v266 w2 ho3 hb hg_ hnew_;clear hg_ hnew_;(first | rw [← Ny265.out] at ho3 | (simp only [Int.reduceToNat] at ho3;rw [← Ny265.out] at ho3));have n0_ := Yd (Kd.R_lower ho3 (below_size (Y3 HB.out)));have n1_ := Yd (below_step (Y3 HB.out) hb);clear HB;have HO267 := n0_;have HB := n1_;clear n0_ n1_;clear hb ho3))
 go_loopg [3,4] k (fun kq v3 v4 w' => ∃ (x3_1 : List (S51)) (x4_1 : Int),v4 = .int .i64 x4_1 ∧ Aside0 (plenumlaw56_ours.l0 kq l0 x3_1 x4_1 = some r) ∧ Aside0 (kq ≤ k) ∧ Aside0 (Kd.R k51 51 w' w.heap.size (fun _ => True) v3 x3_1) ∧ Aside0 (Below w.heap.size w w'))
 case atStart => exact ⟨(y265),(0),Y12,H',⟨Nat.le_refl _⟩,⟨Y5 HO267.out⟩,⟨Y3 HB.out⟩⟩
 case round =>
  clear H'
  try clear p2
  obtain ⟨x3_1,x4_1,rfl,HA,HK1,HO_3,HB⟩ := hrel
  cases gk with
  | zero => exact absurd HA.out (by simp [plenumlaw56_ours.l0])
  | succ k1 =>
   have H := HA.out
   clear HA
   simp only [plenumlaw56_ours.l0] at H
   by_cases c4 : x4_1 < (l0.length : Int)
   ·rw [if_pos c4] at H
    have c4b0 : decide (x4_1 < (l0.length : Int)) = true := decide_eq_true c4
    clear c4
    by_cases c5 : 0 ≤ x4_1
    case neg => rw [if_neg c5] at H;exact absurd H (by simp)
    rw [if_pos c5] at H
    have c5b0 : decide (0 ≤ x4_1) = true := decide_eq_true c5
    clear c5
    by_cases c6 : x3_1.length < 8796093022208
    case neg => rw [if_neg c6] at H;exact absurd H (by simp)
    rw [if_pos c6] at H
    have LMc6 := Yd c6
    clear c6
    obtain ⟨y269,hy269⟩ : ∃ y_ : List (S51),y_ = (x3_1 ++ [(⟨(rd_T59 l0 x4_1).f0,(rd_T59 l0 x4_1).f1⟩ : S51)]) := ⟨_,rfl⟩
    replace H : (plenumlaw56_ours.l0 k1 l0 y269 (wrap64 (x4_1 + 1))) = some r := by first | (rw [hy269];with_reducible exact H) | (have H2_ := (Option.bind_some _ _).symm.trans H;rw [hy269];with_reducible exact H2_) | (have H2_ := (Option.bind_some _ _).symm.trans H;with_reducible exact H2_) | with_reducible exact H | (rw [hy269];exact H) | exact H
    have Ny269 := Yd hy269
    clear hy269
    have H' := Yd H
    clear H
    have p268 : 0 ≤ (x4_1 : Int) := Y9
    have q268 : x4_1 < (l0.length : Int) := Y9
    obtain ⟨ad268,e268,hx268_0,hx268_1⟩ := at_T59 HR0.out x4_1 p268 q268
    cases e268
    replace hx268_0 := Y10 HB.out hx268_0
    replace hx268_1 := Y10 HB.out hx268_1
    replace p268 := eq_true p268
    replace q268 := eq_true q268
    go_wp2_with (first | ((with_reducible refine gate_builtin (b := .append) (xs := #[.tmp 12,.tmp 17]) rfl ?_);at_builtin;refine Kd.R_append k51 (w0 := w) w.heap.size rfl (.tmp 12) (.tmp 17) 25 51 (.agg #[(.bool false),(.int .i64 0)]) 16 rfl Try.underlying25 info51 rfl (by decide) (by omega) u3 x3_1 (⟨(rd_T59 l0 x4_1).f0,(rd_T59 l0 x4_1).f1⟩ : S51) [.bool ((rd_T59 l0 x4_1).f0),.int .i64 ((rd_T59 l0 x4_1).f1)] (fun _ => True) (fun _ => False) rfl rfl ?aP (fun _ hk => hk.elim) ?aF ?aO ?aB ?aS ?aL ?_;(case aP => exact k51_mkM _ _ _ (⟨(rd_T59 l0 x4_1).f0,(rd_T59 l0 x4_1).f1⟩ : S51));(case aB => exact (Y3 HB.out));(case aF => exact (fun _ _ => trivial));(case aO => exact (Y5 HO_3.out));(case aS => exact (below_size (Y3 HB.out)));(case aL => have := LMc6.out;omega);intro v270 w7 ho hb hg hat;rw [← Ny269.out] at ho;have n0_ := Yd (hb);have n1_ := Yd (ho);clear HB;clear HO_3;have HB := n0_;have HO271 := n1_;clear n0_ n1_;clear ho hb hg hat))
    go_roundg k1
    case measure => have := HK1.out;omega
    case rel => exact ⟨(y269),(wrap64 (x4_1 + 1)),Y12,H',⟨by have := HK1.out;omega⟩,⟨Y5 HO271.out⟩,⟨Y3 HB.out⟩⟩
   ·rw [if_neg c4] at H
    have c4b0 : decide (x4_1 < (l0.length : Int)) = false := decide_eq_false c4
    clear c4
    obtain rfl := Option.some.inj H
    go_wp2
    go_ret
    exact ⟨_,by first | rfl | (simp [errW_none,errW_some] <;> rfl) | (simp [*,errW_none,errW_some] <;> rfl),by (with_reducible repeat (first | apply Kd.R_alloc | apply Kd.R_drewN | apply Kd.R_drew));exact HO_3.out,Y3 HB.out⟩
def demand_Power.f (k : Nat) (l0 : List (S43)) (l1 : List (S51)) : Option (Int × Int) := (demand_Check.f k l0).bind fun t272 => (if t272 = 0 then (if (l1.length : Int) = (l0.length : Int) then ((demand_power.f k l0 l1).bind fun t273 => (some (t273,0))) else (some (0,1))) else (some (0,t272)))
theorem demand_Power.mono : ∀ a0 a1 k,LeO (demand_Power.f k a0 a1) (demand_Power.f (k + 1) a0 a1) := by
 intro a0 a1 k
 unfold demand_Power.f
 repeat' first
   | (with_reducible exact demand_Check.mono _ _)
   | (with_reducible exact demand_power.mono _ _ _)
   | (with_reducible exact LeO.refl _)
   | (with_reducible exact LeO.none _)
   | (with_reducible refine LeO.ite ?_ ?_)
   | (with_reducible refine LeO.bind ?_ (fun _ => ?_))
   | exact demand_Check.mono _ _
   | exact demand_power.mono _ _ _
   | exact LeO.none _
   | refine LeO.ite ?_ ?_
   | refine LeO.bind ?_ (fun _ => ?_)
set_option maxHeartbeats 100000000 in
set_option maxRecDepth 100000 in
theorem demand_Power.calls (k : Nat) (A0 : Option Addr) (c0 : Nat) (l0 : List (S43)) (A1 : Option Addr) (c1 : Nat) (l1 : List (S51)) (r1 : Int) (r2 : Int) (w : World) (hr0 : Kd.C k43 w A0 l0.length l0) (hc0 : l0.length ≤ c0) (hr1 : Kd.C k51 w A1 l1.length l1) (hc1 : l1.length ≤ c1) (h : demand_Power.f k l0 l1 = some (r1,r2)) :
  Calls Try.prog 7 #[.slice A0 l0.length c0,.slice A1 l1.length c1] w fun e w' => e = .returned (.tuple #[.int .i64 r1,.int .i64 r2]) ∧ Below w.heap.size w w' := by
 have HR0 := Yd hr0
 have HC0 := Yd hc0
 clear hr0 hc0
 have HR1 := Yd hr1
 have HC1 := Yd hc1
 clear hr1 hc1
 have HB := Yd (Below.refl w.heap.size w)
 have H : ((demand_Check.f k l0).bind fun t272 => (if t272 = 0 then (if (l1.length : Int) = (l0.length : Int) then ((demand_power.f k l0 l1).bind fun t273 => (some (t273,0))) else (some (0,1))) else (some (0,t272)))) = some (r1,r2) := h
 clear h
 replace H := Option.bind_eq_some_iff.mp H
 obtain ⟨t272,A30,H⟩ := H
 replace H : (if t272 = 0 then (if (l1.length : Int) = (l0.length : Int) then ((demand_power.f k l0 l1).bind fun t273 => (some (t273,0))) else (some (0,1))) else (some (0,t272))) = some (r1,r2) := H
 have A3 := Yd A30
 clear A30
 by_cases c4 : t272 = 0
 ·rw [if_pos c4] at H
  have c4b0 : (t272 == 0) = true := beq_iff_eq.mpr c4
  have c4b1 : (t272 != 0) = false := bne_eq_false_iff_eq.mpr c4
  clear c4
  by_cases c5 : (l1.length : Int) = (l0.length : Int)
  ·rw [if_pos c5] at H
   have c5b0 : ((l1.length : Int) == (l0.length : Int)) = true := beq_iff_eq.mpr c5
   have c5b1 : ((l1.length : Int) != (l0.length : Int)) = false := bne_eq_false_iff_eq.mpr c5
   have c5b2 : (l1.length == l0.length) = true := by first | simpa using c5 | (simp at c5 ⊢;omega)
   clear c5
   replace H := Option.bind_eq_some_iff.mp H
   obtain ⟨t273,A60,H⟩ := H
   replace H : (some (t273,0)) = some (r1,r2) := H
   have A6 := Yd A60
   clear A60
   simp only [Option.some.injEq,Prod.mk.injEq] at H
   obtain ⟨rfl,rfl⟩ := H
   go_enter Try.func7,Try.ntmps7
   go_wp2_with (first | ((with_reducible refine gate_callee (f := 27) rfl ?_);refine goesL_ (some 8) rfl rfl Try.func27 (by kernel_rfl) rfl #[.slice A0 l0.length c0] rfl Y8 ?_;(with_reducible refine (demand_Check.calls k _ _ l0 t272 _ ?side1 ?side2 A3.out).mono ?_);(case side1 => repeat (first | exact HR0.out | (with_reducible refine Kd.C_alloc ?_ _) | (with_reducible refine Kd.C_drewN ?_ _) | (with_reducible refine Kd.C_drew ?_)));(case side2 => exact HC0.out);rintro e w7 ⟨rfl,hb⟩;refine ⟨_,rfl,?_⟩;have n0_ := Yd (below_step (Y3 HB.out) hb);clear HB;have HB := n0_;clear n0_;(try clear hb);(try clear hb2);(try clear hk);(try clear hi)) | ((with_reducible refine gate_callee (f := 25) rfl ?_);refine goesL_ (some 19) rfl rfl Try.func25 (by kernel_rfl) rfl #[.slice A0 l0.length c0,.slice A1 l1.length c1] rfl Y8 ?_;(with_reducible refine (demand_power.calls k _ _ l0 _ _ l1 t273 _ ?side1 ?side2 ?side3 ?side4 A6.out).mono ?_);(case side1 => exact Y11 (Kd.C_below HR0.out HB.out));(case side2 => exact HC0.out);(case side3 => exact Y11 (Kd.C_below HR1.out HB.out));(case side4 => exact HC1.out);rintro e w8 ⟨rfl,hb⟩;refine ⟨_,rfl,?_⟩;have n0_ := Yd (below_step (Y3 HB.out) hb);clear HB;have HB := n0_;clear n0_;(try clear hb);(try clear hb2);(try clear hk);(try clear hi)))
   go_ret2
   exact ⟨by first | rfl | (simp [errW_none,errW_some] <;> rfl) | (simp [*,errW_none,errW_some] <;> rfl),Y3 HB.out⟩
  ·rw [if_neg c5] at H
   have c5b0 : ((l1.length : Int) == (l0.length : Int)) = false := beq_eq_false_iff_ne.mpr c5
   have c5b1 : ((l1.length : Int) != (l0.length : Int)) = true := bne_iff_ne.mpr c5
   have c5b2 : (l1.length == l0.length) = false := by first | simpa using c5 | (simp at c5 ⊢;omega)
   simp only [Option.some.injEq,Prod.mk.injEq] at H
   obtain ⟨rfl,rfl⟩ := H
   go_enter Try.func7,Try.ntmps7
   go_wp2_with (first | ((with_reducible refine gate_callee (f := 27) rfl ?_);refine goesL_ (some 8) rfl rfl Try.func27 (by kernel_rfl) rfl #[.slice A0 l0.length c0] rfl Y8 ?_;(with_reducible refine (demand_Check.calls k _ _ l0 t272 _ ?side1 ?side2 A3.out).mono ?_);(case side1 => repeat (first | exact HR0.out | (with_reducible refine Kd.C_alloc ?_ _) | (with_reducible refine Kd.C_drewN ?_ _) | (with_reducible refine Kd.C_drew ?_)));(case side2 => exact HC0.out);rintro e w9 ⟨rfl,hb⟩;refine ⟨_,rfl,?_⟩;have n0_ := Yd (below_step (Y3 HB.out) hb);clear HB;have HB := n0_;clear n0_;(try clear hb);(try clear hb2);(try clear hk);(try clear hi)))
   go_ret2
   exact ⟨by first | rfl | (simp [errW_none,errW_some] <;> rfl) | (simp [*,errW_none,errW_some] <;> rfl),Y3 HB.out⟩
 ·rw [if_neg c4] at H
  have c4b0 : (t272 == 0) = false := beq_eq_false_iff_ne.mpr c4
  have c4b1 : (t272 != 0) = true := bne_iff_ne.mpr c4
  simp only [Option.some.injEq,Prod.mk.injEq] at H
  obtain ⟨rfl,rfl⟩ := H
  go_enter Try.func7,Try.ntmps7
  go_wp2_with (first | ((with_reducible refine gate_callee (f := 27) rfl ?_);refine goesL_ (some 8) rfl rfl Try.func27 (by kernel_rfl) rfl #[.slice A0 l0.length c0] rfl Y8 ?_;(with_reducible refine (demand_Check.calls k _ _ l0 t272 _ ?side1 ?side2 A3.out).mono ?_);(case side1 => repeat (first | exact HR0.out | (with_reducible refine Kd.C_alloc ?_ _) | (with_reducible refine Kd.C_drewN ?_ _) | (with_reducible refine Kd.C_drew ?_)));(case side2 => exact HC0.out);rintro e w10 ⟨rfl,hb⟩;refine ⟨_,rfl,?_⟩;have n0_ := Yd (below_step (Y3 HB.out) hb);clear HB;have HB := n0_;clear n0_;(try clear hb);(try clear hb2);(try clear hk);(try clear hi)))
  go_ret2
  exact ⟨by first | rfl | (simp [errW_none,errW_some] <;> rfl) | (simp [*,errW_none,errW_some] <;> rfl),Y3 HB.out⟩
def demand_Level.l0 : Nat → List (S51) → Int → Int → List (S43) → Int → Int → Option (Int × Int)
 | 0,_,_,_,_,_,_ => none
 | k + 1,x1,x2,x3,x23,x24,x25 => if x25 < x24 then (if 0 ≤ x25 then (if x25 < (x23.length : Int) then (if x25 < (x1.length : Int) then (if ((rd_T51 x1 x25).f0 = true) then (demand_Level.l0 k x1 x2 x3 x23 x24 (wrap64 (x25 + 1))) else (if (wrap64 (x3 - ((rd_T51 x1 x25).f1))) < ((rd_T43 x23 x25).f3) then (demand_Level.l0 k x1 (wrap64 (x2 + ((rd_T43 x23 x25).f2))) x3 x23 x24 (wrap64 (x25 + 1))) else (demand_Level.l0 k x1 x2 x3 x23 x24 (wrap64 (x25 + 1))))) else (none)) else (none)) else (none)) else (some (x2,0))
def demand_Level.f (k : Nat) (l0 : List (S43)) (l1 : List (S51)) (a2 : Int) (a3 : Int) : Option (Int × Int) := (demand_check.f k l0 l1 a3 (([a2] : List Int))).bind fun t277 => (if t277 = 0 then (demand_Level.l0 k l1 a2 a3 l0 (l0.length : Int) 0) else (some (0,t277)))
theorem demand_Level.mono_l : ∀ k,(∀ y0 y1 y2 y3 y4 y5,LeO (demand_Level.l0 k y0 y1 y2 y3 y4 y5) (demand_Level.l0 (k + 1) y0 y1 y2 y3 y4 y5))
 | 0 => fun _ _ _ _ _ _ r h => by simp [demand_Level.l0] at h
 | k + 1 => by
  have ih0 := demand_Level.mono_l k
  ·intro y0 y1 y2 y3 y4 y5
   unfold demand_Level.l0
   repeat' first
   | (with_reducible exact ih0 _ _ _ _ _ _)
   | (with_reducible exact demand_check.mono _ _ _ _ _)
   | (with_reducible exact LeO.refl _)
   | (with_reducible exact LeO.none _)
   | (with_reducible refine LeO.ite ?_ ?_)
   | (with_reducible refine LeO.bind ?_ (fun _ => ?_))
   | exact ih0 _ _ _ _ _ _
   | exact demand_check.mono _ _ _ _ _
   | exact LeO.none _
   | refine LeO.ite ?_ ?_
   | refine LeO.bind ?_ (fun _ => ?_)
theorem demand_Level.mono : ∀ a0 a1 a2 a3 k,LeO (demand_Level.f k a0 a1 a2 a3) (demand_Level.f (k + 1) a0 a1 a2 a3) := by
 intro a0 a1 a2 a3 k
 have ih0 := demand_Level.mono_l k
 unfold demand_Level.f
 repeat' first
   | (with_reducible exact ih0 _ _ _ _ _ _)
   | (with_reducible exact demand_check.mono _ _ _ _ _)
   | (with_reducible exact LeO.refl _)
   | (with_reducible exact LeO.none _)
   | (with_reducible refine LeO.ite ?_ ?_)
   | (with_reducible refine LeO.bind ?_ (fun _ => ?_))
   | exact ih0 _ _ _ _ _ _
   | exact demand_check.mono _ _ _ _ _
   | exact LeO.none _
   | refine LeO.ite ?_ ?_
   | refine LeO.bind ?_ (fun _ => ?_)
set_option maxHeartbeats 100000000 in
set_option maxRecDepth 100000 in
theorem demand_Level.calls (k : Nat) (A0 : Option Addr) (c0 : Nat) (l0 : List (S43)) (A1 : Option Addr) (c1 : Nat) (l1 : List (S51)) (a2 : Int) (a3 : Int) (r1 : Int) (r2 : Int) (w : World) (hr0 : Kd.C k43 w A0 l0.length l0) (hc0 : l0.length ≤ c0) (hr1 : Kd.C k51 w A1 l1.length l1) (hc1 : l1.length ≤ c1) (h : demand_Level.f k l0 l1 a2 a3 = some (r1,r2)) :
  Calls Try.prog 8 #[.slice A0 l0.length c0,.slice A1 l1.length c1,.int .i64 a2,.int .i64 a3] w fun e w' => e = .returned (.tuple #[.int .i64 r1,.int .i64 r2]) ∧ Below w.heap.size w w' := by
 have hu43 := Try.underlying43
 have hu51 := Try.underlying51
 have HR0 := Yd hr0
 have HC0 := Yd hc0
 clear hr0 hc0
 have HR1 := Yd hr1
 have HC1 := Yd hc1
 clear hr1 hc1
 have HB := Yd (Below.refl w.heap.size w)
 have H : ((demand_check.f k l0 l1 a3 (([a2] : List Int))).bind fun t277 => (if t277 = 0 then (demand_Level.l0 k l1 a2 a3 l0 (l0.length : Int) 0) else (some (0,t277)))) = some (r1,r2) := h
 clear h
 obtain ⟨y274,hy274⟩ : ∃ y_ : List Int,y_ = (([a2] : List Int)) := ⟨_,rfl⟩
 replace H : ((demand_check.f k l0 l1 a3 y274).bind fun t277 => (if t277 = 0 then (demand_Level.l0 k l1 a2 a3 l0 (l0.length : Int) 0) else (some (0,t277)))) = some (r1,r2) := by first | (rw [hy274];with_reducible exact H) | (have H2_ := (Option.bind_some _ _).symm.trans H;rw [hy274];with_reducible exact H2_) | (have H2_ := (Option.bind_some _ _).symm.trans H;with_reducible exact H2_) | with_reducible exact H | (rw [hy274];exact H) | exact H
 have Ny274 := Yd hy274
 clear hy274
 replace H := Option.bind_eq_some_iff.mp H
 obtain ⟨t277,A50,H⟩ := H
 replace H : (if t277 = 0 then (demand_Level.l0 k l1 a2 a3 l0 (l0.length : Int) 0) else (some (0,t277))) = some (r1,r2) := H
 have A5 := Yd A50
 clear A50
 by_cases c6 : t277 = 0
 ·rw [if_pos c6] at H
  have c6b0 : (t277 == 0) = true := beq_iff_eq.mpr c6
  have c6b1 : (t277 != 0) = false := bne_eq_false_iff_eq.mpr c6
  clear c6
  have H' := Yd H
  clear H
  go_enter Try.func8,Try.ntmps8
  go_wp2_with (first | ((with_reducible refine gate_dst (N := 18) rfl ?_);refine Kd.R_lit (Kd.int .i64) _ 2 ?hg (N := 18) ?hd (xs := ([a2] : List Int)) (inner := [.int .i64 a2]) (ok := fun _ => True) (okp := fun _ => True) ?hr ?hp (fun _ hk => hk) trivial (Below.refl _ _) (Nat.le_refl _) (by simp) ?_;(case hd => rfl);(case hg => rfl);(case hr => first | (go_simp;done) | (go_simp;rfl));(case hp => exact (Reps.one (show Kd.M (Kd.int .i64) _ _ _ a2 [.int .i64 a2] from rfl) (Reps.none _ _)));intro v275 w7 ho8 hb hg_ hnew_;clear hg_ hnew_;(first | rw [← Ny274.out] at ho8 | (simp only [Int.reduceToNat] at ho8;rw [← Ny274.out] at ho8));have n0_ := Yd (Kd.R_lower ho8 (below_size (Y3 HB.out)));have n1_ := Yd (below_step (Y3 HB.out) hb);clear HB;have HO276 := n0_;have HB := n1_;clear n0_ n1_;clear hb ho8;obtain ⟨Ao9,co9,eo9⟩ := Kd.R_slice HO276.out;subst eo9) | ((with_reducible refine gate_callee (f := 22) rfl ?_);refine goesL_ (some 19) rfl rfl Try.func22 (by kernel_rfl) rfl #[.slice A0 l0.length c0,.slice A1 l1.length c1,.int .i64 a3,.slice Ao9 y274.length co9] rfl Y8 ?_;(with_reducible refine (demand_check.calls k _ _ l0 _ _ l1 a3 _ _ y274 t277 _ ?side1 ?side2 ?side3 ?side4 ?side5 ?side6 A5.out).mono ?_);(case side1 => exact Y11 (Kd.C_below HR0.out HB.out));(case side2 => exact HC0.out);(case side3 => exact Y11 (Kd.C_below HR1.out HB.out));(case side4 => exact HC1.out);(case side5 => repeat (first | exact (Kd.R_reads' HO276.out).2.2 | (with_reducible refine Kd.C_alloc ?_ _) | (with_reducible refine Kd.C_drewN ?_ _) | (with_reducible refine Kd.C_drew ?_)));(case side6 => exact (Kd.R_reads' HO276.out).2.1);rintro e w10 ⟨rfl,hb⟩;refine ⟨_,rfl,?_⟩;have n0_ := Yd (Kd.R_below (Y5 HO276.out) hb);have n1_ := Yd (below_step (Y3 HB.out) hb);clear HO276;clear HB;have HO276 := n0_;have HB := n1_;clear n0_ n1_;(try clear hb);(try clear hb2);(try clear hk);(try clear hi)))
  go_loopg [2,25] k (fun kq v2 v25 w' => ∃ (x2_1 : Int) (x25_1 : Int),v2 = .int .i64 x2_1 ∧ v25 = .int .i64 x25_1 ∧ Aside0 (demand_Level.l0 kq l1 x2_1 a3 l0 (l0.length : Int) x25_1 = some (r1,r2)) ∧ Aside0 (kq ≤ k) ∧ Aside0 (Below w.heap.size w w'))
  case atStart => exact ⟨(a2),(0),Y12,Y12,H',⟨Nat.le_refl _⟩,⟨Y3 HB.out⟩⟩
  case round =>
   clear H'
   try clear c1
   try clear c2
   try clear p2
   try clear c6
   try clear c6b0
   try clear c6b1
   try clear c8
   obtain ⟨x2_1,x25_1,rfl,rfl,HA,HK1,HB⟩ := hrel
   cases gk with
   | zero => exact absurd HA.out (by simp [demand_Level.l0])
   | succ k1 =>
    have H := HA.out
    clear HA
    simp only [demand_Level.l0] at H
    by_cases c11 : x25_1 < (l0.length : Int)
    ·rw [if_pos c11] at H
     have c11b0 : decide (x25_1 < (l0.length : Int)) = true := decide_eq_true c11
     clear c11
     by_cases c12 : 0 ≤ x25_1
     case neg => rw [if_neg c12] at H;exact absurd H (by simp)
     rw [if_pos c12] at H
     have c12b0 : decide (0 ≤ x25_1) = true := decide_eq_true c12
     clear c12
     by_cases c13 : x25_1 < (l0.length : Int)
     case neg => rw [if_neg c13] at H;exact absurd H (by simp)
     rw [if_pos c13] at H
     have c13b0 : decide (x25_1 < (l0.length : Int)) = true := decide_eq_true c13
     clear c13
     by_cases c14 : x25_1 < (l1.length : Int)
     case neg => rw [if_neg c14] at H;exact absurd H (by simp)
     rw [if_pos c14] at H
     have c14b0 : decide (x25_1 < (l1.length : Int)) = true := decide_eq_true c14
     clear c14
     obtain ⟨bq15,hbq15⟩ : ∃ b_ : Bool,b_ = ((rd_T51 l1 x25_1).f0) := ⟨_,rfl⟩
     replace H : (if (bq15 = true) then (demand_Level.l0 k1 l1 x2_1 a3 l0 (l0.length : Int) (wrap64 (x25_1 + 1))) else (if (wrap64 (a3 - ((rd_T51 l1 x25_1).f1))) < ((rd_T43 l0 x25_1).f3) then (demand_Level.l0 k1 l1 (wrap64 (x2_1 + ((rd_T43 l0 x25_1).f2))) a3 l0 (l0.length : Int) (wrap64 (x25_1 + 1))) else (demand_Level.l0 k1 l1 x2_1 a3 l0 (l0.length : Int) (wrap64 (x25_1 + 1))))) = some (r1,r2) := by rw [← hbq15] at H;exact H
     have Nbq15 := Yd hbq15
     clear hbq15
     (try rw [← Nbq15.out])
     by_cases c16 : (bq15 = true)
     ·subst c16
      have H1 : (demand_Level.l0 k1 l1 x2_1 a3 l0 (l0.length : Int) (wrap64 (x25_1 + 1))) = some (r1,r2) := by rw [if_pos rfl] at H;exact H
      clear H
      have H := H1
      clear H1
      have H' := Yd H
      clear H
      have p278 : 0 ≤ (x25_1 : Int) := Y9
      have q278 : x25_1 < (l0.length : Int) := Y9
      obtain ⟨ad278,e278,hx278_0,hx278_1,hx278_2,hx278_3,hx278_4⟩ := at_T43 HR0.out x25_1 p278 q278
      cases e278
      replace hx278_0 := Y10 HB.out hx278_0
      replace hx278_1 := Y10 HB.out hx278_1
      replace hx278_2 := Y10 HB.out hx278_2
      replace hx278_3 := Y10 HB.out hx278_3
      replace hx278_4 := Y10 HB.out hx278_4
      replace p278 := eq_true p278
      replace q278 := eq_true q278
      go_wp2_with (first | ((with_reducible refine gate_dst (N := 12) rfl ?_);refine box_event ?hg (N := 12) ?hd (cs := #[.string (⟨#[]⟩ : ByteArray),.int .i64 0,.int .i64 0,.int .i64 0,.int .i64 0]) (t := 43) ?hr ?_;(case hd => rfl);(case hg => rfl);(case hr => first | (go_simp;done) | (go_simp;rfl));intro gb279 hg w17 hbox hb;have n0_ := Yd (below_step (Y3 HB.out) hb);have n1_ := Yd (hbox);have n2_ := Yd ((by rw [hg];exact (below_size (Y3 HB.out)) : w.heap.size ≤ gb279));have n3_ := Yd ((by rw [hg];exact (below_size (Y3 HB.out)) : w.heap.size ≤ gb279));clear HB;have HB := n0_;have BK279 := n1_;have GW279 := n2_;have GE279 := n3_;clear n0_ n1_ n2_ n3_;clear hb hbox hg;have hcz18_0 : w17.cell? ⟨gb279,0,none⟩ = some (.string (⟨#[]⟩ : ByteArray)) := (blk_cell BK279.out 0).trans rfl;have hcz18_1 : w17.cell? ⟨gb279,1,none⟩ = some (.int .i64 0) := (blk_cell BK279.out 1).trans rfl;have hcz18_2 : w17.cell? ⟨gb279,2,none⟩ = some (.int .i64 0) := (blk_cell BK279.out 2).trans rfl;have hcz18_3 : w17.cell? ⟨gb279,3,none⟩ = some (.int .i64 0) := (blk_cell BK279.out 3).trans rfl;have hcz18_4 : w17.cell? ⟨gb279,4,none⟩ = some (.int .i64 0) := (blk_cell BK279.out 4).trans rfl;have hfz18_0 := blk_frozen BK279.out 0;have hfz18_1 := blk_frozen BK279.out 1;have hfz18_2 := blk_frozen BK279.out 2;have hfz18_3 := blk_frozen BK279.out 3;have hfz18_4 := blk_frozen BK279.out 4;have p280 : 0 ≤ (x25_1 : Int) := Y9;have q280 : x25_1 < (l1.length : Int) := Y9;obtain ⟨ad280,e280,hx280_0,hx280_1⟩ := at_T51 HR1.out x25_1 p280 q280;(try rw [← Nbq15.out] at hx280_0);(try rw [← Nbq15.out] at hw280_0);cases e280;have hn280_0 : ad280.block ≠ gb279 := Y1 (Y2 hx280_0 GW279.out);have hn280_1 : ad280.block ≠ gb279 := Y1 (Y2 hx280_0 GW279.out);have hn280_2 : ad280.block ≠ gb279 := Y1 (Y2 hx280_0 GW279.out);have hn280_3 : ad280.block ≠ gb279 := Y1 (Y2 hx280_0 GW279.out);have hn280_4 : ad280.block ≠ gb279 := Y1 (Y2 hx280_0 GW279.out);replace hx280_0 := Y10 HB.out hx280_0;replace hx280_1 := Y10 HB.out hx280_1;replace hx280_0 := (cell_far (p := ⟨gb279,0,none⟩) (by first | (rw [add_block];exact hn280_0) | (show (Addr.add _ _).block ≠ _;rw [add_block];exact hn280_0) | exact hn280_0) (.string ((rd_T43 l0 x25_1).f0))).trans hx280_0;replace hx280_1 := (cell_far (p := ⟨gb279,0,none⟩) (by first | (rw [add_block];exact hn280_0) | (show (Addr.add _ _).block ≠ _;rw [add_block];exact hn280_0) | exact hn280_0) (.string ((rd_T43 l0 x25_1).f0))).trans hx280_1;replace hx280_0 := (cell_far (p := ⟨gb279,1,none⟩) (by first | (rw [add_block];exact hn280_1) | (show (Addr.add _ _).block ≠ _;rw [add_block];exact hn280_1) | exact hn280_1) (.int .i64 ((rd_T43 l0 x25_1).f1))).trans hx280_0;replace hx280_1 := (cell_far (p := ⟨gb279,1,none⟩) (by first | (rw [add_block];exact hn280_1) | (show (Addr.add _ _).block ≠ _;rw [add_block];exact hn280_1) | exact hn280_1) (.int .i64 ((rd_T43 l0 x25_1).f1))).trans hx280_1;replace hx280_0 := (cell_far (p := ⟨gb279,2,none⟩) (by first | (rw [add_block];exact hn280_2) | (show (Addr.add _ _).block ≠ _;rw [add_block];exact hn280_2) | exact hn280_2) (.int .i64 ((rd_T43 l0 x25_1).f2))).trans hx280_0;replace hx280_1 := (cell_far (p := ⟨gb279,2,none⟩) (by first | (rw [add_block];exact hn280_2) | (show (Addr.add _ _).block ≠ _;rw [add_block];exact hn280_2) | exact hn280_2) (.int .i64 ((rd_T43 l0 x25_1).f2))).trans hx280_1;replace hx280_0 := (cell_far (p := ⟨gb279,3,none⟩) (by first | (rw [add_block];exact hn280_3) | (show (Addr.add _ _).block ≠ _;rw [add_block];exact hn280_3) | exact hn280_3) (.int .i64 ((rd_T43 l0 x25_1).f3))).trans hx280_0;replace hx280_1 := (cell_far (p := ⟨gb279,3,none⟩) (by first | (rw [add_block];exact hn280_3) | (show (Addr.add _ _).block ≠ _;rw [add_block];exact hn280_3) | exact hn280_3) (.int .i64 ((rd_T43 l0 x25_1).f3))).trans hx280_1;replace hx280_0 := (cell_far (p := ⟨gb279,4,none⟩) (by first | (rw [add_block];exact hn280_4) | (show (Addr.add _ _).block ≠ _;rw [add_block];exact hn280_4) | exact hn280_4) (.int .i64 ((rd_T43 l0 x25_1).f4))).trans hx280_0;replace hx280_1 := (cell_far (p := ⟨gb279,4,none⟩) (by first | (rw [add_block];exact hn280_4) | (show (Addr.add _ _).block ≠ _;rw [add_block];exact hn280_4) | exact hn280_4) (.int .i64 ((rd_T43 l0 x25_1).f4))).trans hx280_1;clear hn280_0;clear hn280_1;clear hn280_2;clear hn280_3;clear hn280_4;replace p280 := eq_true p280;replace q280 := eq_true q280) | ((with_reducible refine gate_dst (N := 13) rfl ?_);refine box_event ?hg (N := 13) ?hd (cs := #[.bool false,.int .i64 0]) (t := 51) ?hr ?_;(case hd => rfl);(case hg => rfl);(case hr => first | (go_simp;done) | (go_simp;rfl));intro gb281 hg w19 hbox hb;have n0_ := Yd (blk_below (g := gb279) (o := .cells #[.string ((rd_T43 l0 x25_1).f0),.int .i64 ((rd_T43 l0 x25_1).f1),.int .i64 ((rd_T43 l0 x25_1).f2),.int .i64 ((rd_T43 l0 x25_1).f3),.int .i64 ((rd_T43 l0 x25_1).f4)] 43 (0,0)) (by (with_reducible repeat (first | refine blk_drewN ?_ _ | refine blk_drew ?_ | refine blk_alloc ?_ _));refine blk_put (cs := #[.string ((rd_T43 l0 x25_1).f0),.int .i64 ((rd_T43 l0 x25_1).f1),.int .i64 ((rd_T43 l0 x25_1).f2),.int .i64 ((rd_T43 l0 x25_1).f3),.int .i64 0]) ?_ 4 _ rfl;(with_reducible repeat (first | refine blk_drewN ?_ _ | refine blk_drew ?_ | refine blk_alloc ?_ _));refine blk_put (cs := #[.string ((rd_T43 l0 x25_1).f0),.int .i64 ((rd_T43 l0 x25_1).f1),.int .i64 ((rd_T43 l0 x25_1).f2),.int .i64 0,.int .i64 0]) ?_ 3 _ rfl;(with_reducible repeat (first | refine blk_drewN ?_ _ | refine blk_drew ?_ | refine blk_alloc ?_ _));refine blk_put (cs := #[.string ((rd_T43 l0 x25_1).f0),.int .i64 ((rd_T43 l0 x25_1).f1),.int .i64 0,.int .i64 0,.int .i64 0]) ?_ 2 _ rfl;(with_reducible repeat (first | refine blk_drewN ?_ _ | refine blk_drew ?_ | refine blk_alloc ?_ _));refine blk_put (cs := #[.string ((rd_T43 l0 x25_1).f0),.int .i64 0,.int .i64 0,.int .i64 0,.int .i64 0]) ?_ 1 _ rfl;(with_reducible repeat (first | refine blk_drewN ?_ _ | refine blk_drew ?_ | refine blk_alloc ?_ _));refine blk_put (cs := #[.string (⟨#[]⟩ : ByteArray),.int .i64 0,.int .i64 0,.int .i64 0,.int .i64 0]) ?_ 0 _ rfl;(with_reducible repeat (first | refine blk_drewN ?_ _ | refine blk_drew ?_ | refine blk_alloc ?_ _));exact BK279.out) hb);have n1_ := Yd (below_step (by first | exact Y4 HB.out GE279.out | exact Y3 HB.out) hb);have n2_ := Yd (hbox);have n3_ := Yd ((by rw [hg];exact (below_size (by first | exact Y4 HB.out GE279.out | exact Y3 HB.out)) : w.heap.size ≤ gb281));have n4_ := Yd ((by rw [hg];exact (below_size (by first | exact Y4 HB.out GE279.out | exact Y3 HB.out)) : w.heap.size ≤ gb281));have n5_ := Yd ((by rw [hg];exact Nat.ne_of_lt (blk_lt (g := gb279) (o := .cells #[.string ((rd_T43 l0 x25_1).f0),.int .i64 ((rd_T43 l0 x25_1).f1),.int .i64 ((rd_T43 l0 x25_1).f2),.int .i64 ((rd_T43 l0 x25_1).f3),.int .i64 ((rd_T43 l0 x25_1).f4)] 43 (0,0)) (by (with_reducible repeat (first | refine blk_drewN ?_ _ | refine blk_drew ?_ | refine blk_alloc ?_ _));refine blk_put (cs := #[.string ((rd_T43 l0 x25_1).f0),.int .i64 ((rd_T43 l0 x25_1).f1),.int .i64 ((rd_T43 l0 x25_1).f2),.int .i64 ((rd_T43 l0 x25_1).f3),.int .i64 0]) ?_ 4 _ rfl;(with_reducible repeat (first | refine blk_drewN ?_ _ | refine blk_drew ?_ | refine blk_alloc ?_ _));refine blk_put (cs := #[.string ((rd_T43 l0 x25_1).f0),.int .i64 ((rd_T43 l0 x25_1).f1),.int .i64 ((rd_T43 l0 x25_1).f2),.int .i64 0,.int .i64 0]) ?_ 3 _ rfl;(with_reducible repeat (first | refine blk_drewN ?_ _ | refine blk_drew ?_ | refine blk_alloc ?_ _));refine blk_put (cs := #[.string ((rd_T43 l0 x25_1).f0),.int .i64 ((rd_T43 l0 x25_1).f1),.int .i64 0,.int .i64 0,.int .i64 0]) ?_ 2 _ rfl;(with_reducible repeat (first | refine blk_drewN ?_ _ | refine blk_drew ?_ | refine blk_alloc ?_ _));refine blk_put (cs := #[.string ((rd_T43 l0 x25_1).f0),.int .i64 0,.int .i64 0,.int .i64 0,.int .i64 0]) ?_ 1 _ rfl;(with_reducible repeat (first | refine blk_drewN ?_ _ | refine blk_drew ?_ | refine blk_alloc ?_ _));refine blk_put (cs := #[.string (⟨#[]⟩ : ByteArray),.int .i64 0,.int .i64 0,.int .i64 0,.int .i64 0]) ?_ 0 _ rfl;(with_reducible repeat (first | refine blk_drewN ?_ _ | refine blk_drew ?_ | refine blk_alloc ?_ _));exact BK279.out)) : gb279 ≠ gb281));have n6_ := Yd ((by rw [hg];exact Nat.ne_of_gt (blk_lt (g := gb279) (o := .cells #[.string ((rd_T43 l0 x25_1).f0),.int .i64 ((rd_T43 l0 x25_1).f1),.int .i64 ((rd_T43 l0 x25_1).f2),.int .i64 ((rd_T43 l0 x25_1).f3),.int .i64 ((rd_T43 l0 x25_1).f4)] 43 (0,0)) (by (with_reducible repeat (first | refine blk_drewN ?_ _ | refine blk_drew ?_ | refine blk_alloc ?_ _));refine blk_put (cs := #[.string ((rd_T43 l0 x25_1).f0),.int .i64 ((rd_T43 l0 x25_1).f1),.int .i64 ((rd_T43 l0 x25_1).f2),.int .i64 ((rd_T43 l0 x25_1).f3),.int .i64 0]) ?_ 4 _ rfl;(with_reducible repeat (first | refine blk_drewN ?_ _ | refine blk_drew ?_ | refine blk_alloc ?_ _));refine blk_put (cs := #[.string ((rd_T43 l0 x25_1).f0),.int .i64 ((rd_T43 l0 x25_1).f1),.int .i64 ((rd_T43 l0 x25_1).f2),.int .i64 0,.int .i64 0]) ?_ 3 _ rfl;(with_reducible repeat (first | refine blk_drewN ?_ _ | refine blk_drew ?_ | refine blk_alloc ?_ _));refine blk_put (cs := #[.string ((rd_T43 l0 x25_1).f0),.int .i64 ((rd_T43 l0 x25_1).f1),.int .i64 0,.int .i64 0,.int .i64 0]) ?_ 2 _ rfl;(with_reducible repeat (first | refine blk_drewN ?_ _ | refine blk_drew ?_ | refine blk_alloc ?_ _));refine blk_put (cs := #[.string ((rd_T43 l0 x25_1).f0),.int .i64 0,.int .i64 0,.int .i64 0,.int .i64 0]) ?_ 1 _ rfl;(with_reducible repeat (first | refine blk_drewN ?_ _ | refine blk_drew ?_ | refine blk_alloc ?_ _));refine blk_put (cs := #[.string (⟨#[]⟩ : ByteArray),.int .i64 0,.int .i64 0,.int .i64 0,.int .i64 0]) ?_ 0 _ rfl;(with_reducible repeat (first | refine blk_drewN ?_ _ | refine blk_drew ?_ | refine blk_alloc ?_ _));exact BK279.out)) : gb281 ≠ gb279));clear BK279;clear HB;have BK279 := n0_;have HB := n1_;have BK281 := n2_;have GW281 := n3_;have GE281 := n4_;have NB279_281 := n5_;have NB281_279 := n6_;clear n0_ n1_ n2_ n3_ n4_ n5_ n6_;clear hb hbox hg;have hnb20 := NB281_279.out;have hnc20 := NB279_281.out;have hcz21_0 : w19.cell? ⟨gb281,0,none⟩ = some (.bool false) := (blk_cell BK281.out 0).trans rfl;have hcz21_1 : w19.cell? ⟨gb281,1,none⟩ = some (.int .i64 0) := (blk_cell BK281.out 1).trans rfl;have hfz21_0 := blk_frozen BK281.out 0;have hfz21_1 := blk_frozen BK281.out 1))
      go_roundg k1
      case measure => have := HK1.out;omega
      case rel => (try rw [← Nbq15.out]);exact ⟨(x2_1),(wrap64 (x25_1 + 1)),Y12,Y12,H',⟨by have := HK1.out;omega⟩,⟨by repeat (first | (with_reducible first | exact HB.out | apply below_alloc | apply Y15 | apply below_drew1 | refine below_set ?_ GE279.out | refine below_set ?_ GE281.out) | exact HB.out)⟩⟩
     ·replace c16 := Bool.eq_false_iff.mpr c16
      subst c16
      have H1 : (if (wrap64 (a3 - ((rd_T51 l1 x25_1).f1))) < ((rd_T43 l0 x25_1).f3) then (demand_Level.l0 k1 l1 (wrap64 (x2_1 + ((rd_T43 l0 x25_1).f2))) a3 l0 (l0.length : Int) (wrap64 (x25_1 + 1))) else (demand_Level.l0 k1 l1 x2_1 a3 l0 (l0.length : Int) (wrap64 (x25_1 + 1)))) = some (r1,r2) := by rw [if_neg (show ¬ (false = true) by decide)] at H;exact H
      clear H
      have H := H1
      clear H1
      by_cases c22 : (wrap64 (a3 - ((rd_T51 l1 x25_1).f1))) < ((rd_T43 l0 x25_1).f3)
      ·rw [if_pos c22] at H
       have c22b0 : decide ((wrap64 (a3 - ((rd_T51 l1 x25_1).f1))) < ((rd_T43 l0 x25_1).f3)) = true := decide_eq_true c22
       clear c22
       have H' := Yd H
       clear H
       have p278 : 0 ≤ (x25_1 : Int) := Y9
       have q278 : x25_1 < (l0.length : Int) := Y9
       obtain ⟨ad278,e278,hx278_0,hx278_1,hx278_2,hx278_3,hx278_4⟩ := at_T43 HR0.out x25_1 p278 q278
       cases e278
       replace hx278_0 := Y10 HB.out hx278_0
       replace hx278_1 := Y10 HB.out hx278_1
       replace hx278_2 := Y10 HB.out hx278_2
       replace hx278_3 := Y10 HB.out hx278_3
       replace hx278_4 := Y10 HB.out hx278_4
       replace p278 := eq_true p278
       replace q278 := eq_true q278
       go_wp2_with (first | ((with_reducible refine gate_dst (N := 12) rfl ?_);refine box_event ?hg (N := 12) ?hd (cs := #[.string (⟨#[]⟩ : ByteArray),.int .i64 0,.int .i64 0,.int .i64 0,.int .i64 0]) (t := 43) ?hr ?_;(case hd => rfl);(case hg => rfl);(case hr => first | (go_simp;done) | (go_simp;rfl));intro gb279 hg w23 hbox hb;have n0_ := Yd (below_step (Y3 HB.out) hb);have n1_ := Yd (hbox);have n2_ := Yd ((by rw [hg];exact (below_size (Y3 HB.out)) : w.heap.size ≤ gb279));have n3_ := Yd ((by rw [hg];exact (below_size (Y3 HB.out)) : w.heap.size ≤ gb279));clear HB;have HB := n0_;have BK279 := n1_;have GW279 := n2_;have GE279 := n3_;clear n0_ n1_ n2_ n3_;clear hb hbox hg;have hcz24_0 : w23.cell? ⟨gb279,0,none⟩ = some (.string (⟨#[]⟩ : ByteArray)) := (blk_cell BK279.out 0).trans rfl;have hcz24_1 : w23.cell? ⟨gb279,1,none⟩ = some (.int .i64 0) := (blk_cell BK279.out 1).trans rfl;have hcz24_2 : w23.cell? ⟨gb279,2,none⟩ = some (.int .i64 0) := (blk_cell BK279.out 2).trans rfl;have hcz24_3 : w23.cell? ⟨gb279,3,none⟩ = some (.int .i64 0) := (blk_cell BK279.out 3).trans rfl;have hcz24_4 : w23.cell? ⟨gb279,4,none⟩ = some (.int .i64 0) := (blk_cell BK279.out 4).trans rfl;have hfz24_0 := blk_frozen BK279.out 0;have hfz24_1 := blk_frozen BK279.out 1;have hfz24_2 := blk_frozen BK279.out 2;have hfz24_3 := blk_frozen BK279.out 3;have hfz24_4 := blk_frozen BK279.out 4;have p280 : 0 ≤ (x25_1 : Int) := Y9;have q280 : x25_1 < (l1.length : Int) := Y9;obtain ⟨ad280,e280,hx280_0,hx280_1⟩ := at_T51 HR1.out x25_1 p280 q280;(try rw [← Nbq15.out] at hx280_0);(try rw [← Nbq15.out] at hw280_0);cases e280;have hn280_0 : ad280.block ≠ gb279 := Y1 (Y2 hx280_0 GW279.out);have hn280_1 : ad280.block ≠ gb279 := Y1 (Y2 hx280_0 GW279.out);have hn280_2 : ad280.block ≠ gb279 := Y1 (Y2 hx280_0 GW279.out);have hn280_3 : ad280.block ≠ gb279 := Y1 (Y2 hx280_0 GW279.out);have hn280_4 : ad280.block ≠ gb279 := Y1 (Y2 hx280_0 GW279.out);replace hx280_0 := Y10 HB.out hx280_0;replace hx280_1 := Y10 HB.out hx280_1;replace hx280_0 := (cell_far (p := ⟨gb279,0,none⟩) (by first | (rw [add_block];exact hn280_0) | (show (Addr.add _ _).block ≠ _;rw [add_block];exact hn280_0) | exact hn280_0) (.string ((rd_T43 l0 x25_1).f0))).trans hx280_0;replace hx280_1 := (cell_far (p := ⟨gb279,0,none⟩) (by first | (rw [add_block];exact hn280_0) | (show (Addr.add _ _).block ≠ _;rw [add_block];exact hn280_0) | exact hn280_0) (.string ((rd_T43 l0 x25_1).f0))).trans hx280_1;replace hx280_0 := (cell_far (p := ⟨gb279,1,none⟩) (by first | (rw [add_block];exact hn280_1) | (show (Addr.add _ _).block ≠ _;rw [add_block];exact hn280_1) | exact hn280_1) (.int .i64 ((rd_T43 l0 x25_1).f1))).trans hx280_0;replace hx280_1 := (cell_far (p := ⟨gb279,1,none⟩) (by first | (rw [add_block];exact hn280_1) | (show (Addr.add _ _).block ≠ _;rw [add_block];exact hn280_1) | exact hn280_1) (.int .i64 ((rd_T43 l0 x25_1).f1))).trans hx280_1;replace hx280_0 := (cell_far (p := ⟨gb279,2,none⟩) (by first | (rw [add_block];exact hn280_2) | (show (Addr.add _ _).block ≠ _;rw [add_block];exact hn280_2) | exact hn280_2) (.int .i64 ((rd_T43 l0 x25_1).f2))).trans hx280_0;replace hx280_1 := (cell_far (p := ⟨gb279,2,none⟩) (by first | (rw [add_block];exact hn280_2) | (show (Addr.add _ _).block ≠ _;rw [add_block];exact hn280_2) | exact hn280_2) (.int .i64 ((rd_T43 l0 x25_1).f2))).trans hx280_1;replace hx280_0 := (cell_far (p := ⟨gb279,3,none⟩) (by first | (rw [add_block];exact hn280_3) | (show (Addr.add _ _).block ≠ _;rw [add_block];exact hn280_3) | exact hn280_3) (.int .i64 ((rd_T43 l0 x25_1).f3))).trans hx280_0;replace hx280_1 := (cell_far (p := ⟨gb279,3,none⟩) (by first | (rw [add_block];exact hn280_3) | (show (Addr.add _ _).block ≠ _;rw [add_block];exact hn280_3) | exact hn280_3) (.int .i64 ((rd_T43 l0 x25_1).f3))).trans hx280_1;replace hx280_0 := (cell_far (p := ⟨gb279,4,none⟩) (by first | (rw [add_block];exact hn280_4) | (show (Addr.add _ _).block ≠ _;rw [add_block];exact hn280_4) | exact hn280_4) (.int .i64 ((rd_T43 l0 x25_1).f4))).trans hx280_0;replace hx280_1 := (cell_far (p := ⟨gb279,4,none⟩) (by first | (rw [add_block];exact hn280_4) | (show (Addr.add _ _).block ≠ _;rw [add_block];exact hn280_4) | exact hn280_4) (.int .i64 ((rd_T43 l0 x25_1).f4))).trans hx280_1;clear hn280_0;clear hn280_1;clear hn280_2;clear hn280_3;clear hn280_4;replace p280 := eq_true p280;replace q280 := eq_true q280) | ((with_reducible refine gate_dst (N := 13) rfl ?_);refine box_event ?hg (N := 13) ?hd (cs := #[.bool false,.int .i64 0]) (t := 51) ?hr ?_;(case hd => rfl);(case hg => rfl);(case hr => first | (go_simp;done) | (go_simp;rfl));intro gb281 hg w25 hbox hb;have n0_ := Yd (blk_below (g := gb279) (o := .cells #[.string ((rd_T43 l0 x25_1).f0),.int .i64 ((rd_T43 l0 x25_1).f1),.int .i64 ((rd_T43 l0 x25_1).f2),.int .i64 ((rd_T43 l0 x25_1).f3),.int .i64 ((rd_T43 l0 x25_1).f4)] 43 (0,0)) (by (with_reducible repeat (first | refine blk_drewN ?_ _ | refine blk_drew ?_ | refine blk_alloc ?_ _));refine blk_put (cs := #[.string ((rd_T43 l0 x25_1).f0),.int .i64 ((rd_T43 l0 x25_1).f1),.int .i64 ((rd_T43 l0 x25_1).f2),.int .i64 ((rd_T43 l0 x25_1).f3),.int .i64 0]) ?_ 4 _ rfl;(with_reducible repeat (first | refine blk_drewN ?_ _ | refine blk_drew ?_ | refine blk_alloc ?_ _));refine blk_put (cs := #[.string ((rd_T43 l0 x25_1).f0),.int .i64 ((rd_T43 l0 x25_1).f1),.int .i64 ((rd_T43 l0 x25_1).f2),.int .i64 0,.int .i64 0]) ?_ 3 _ rfl;(with_reducible repeat (first | refine blk_drewN ?_ _ | refine blk_drew ?_ | refine blk_alloc ?_ _));refine blk_put (cs := #[.string ((rd_T43 l0 x25_1).f0),.int .i64 ((rd_T43 l0 x25_1).f1),.int .i64 0,.int .i64 0,.int .i64 0]) ?_ 2 _ rfl;(with_reducible repeat (first | refine blk_drewN ?_ _ | refine blk_drew ?_ | refine blk_alloc ?_ _));refine blk_put (cs := #[.string ((rd_T43 l0 x25_1).f0),.int .i64 0,.int .i64 0,.int .i64 0,.int .i64 0]) ?_ 1 _ rfl;(with_reducible repeat (first | refine blk_drewN ?_ _ | refine blk_drew ?_ | refine blk_alloc ?_ _));refine blk_put (cs := #[.string (⟨#[]⟩ : ByteArray),.int .i64 0,.int .i64 0,.int .i64 0,.int .i64 0]) ?_ 0 _ rfl;(with_reducible repeat (first | refine blk_drewN ?_ _ | refine blk_drew ?_ | refine blk_alloc ?_ _));exact BK279.out) hb);have n1_ := Yd (below_step (by first | exact Y4 HB.out GE279.out | exact Y3 HB.out) hb);have n2_ := Yd (hbox);have n3_ := Yd ((by rw [hg];exact (below_size (by first | exact Y4 HB.out GE279.out | exact Y3 HB.out)) : w.heap.size ≤ gb281));have n4_ := Yd ((by rw [hg];exact (below_size (by first | exact Y4 HB.out GE279.out | exact Y3 HB.out)) : w.heap.size ≤ gb281));have n5_ := Yd ((by rw [hg];exact Nat.ne_of_lt (blk_lt (g := gb279) (o := .cells #[.string ((rd_T43 l0 x25_1).f0),.int .i64 ((rd_T43 l0 x25_1).f1),.int .i64 ((rd_T43 l0 x25_1).f2),.int .i64 ((rd_T43 l0 x25_1).f3),.int .i64 ((rd_T43 l0 x25_1).f4)] 43 (0,0)) (by (with_reducible repeat (first | refine blk_drewN ?_ _ | refine blk_drew ?_ | refine blk_alloc ?_ _));refine blk_put (cs := #[.string ((rd_T43 l0 x25_1).f0),.int .i64 ((rd_T43 l0 x25_1).f1),.int .i64 ((rd_T43 l0 x25_1).f2),.int .i64 ((rd_T43 l0 x25_1).f3),.int .i64 0]) ?_ 4 _ rfl;(with_reducible repeat (first | refine blk_drewN ?_ _ | refine blk_drew ?_ | refine blk_alloc ?_ _));refine blk_put (cs := #[.string ((rd_T43 l0 x25_1).f0),.int .i64 ((rd_T43 l0 x25_1).f1),.int .i64 ((rd_T43 l0 x25_1).f2),.int .i64 0,.int .i64 0]) ?_ 3 _ rfl;(with_reducible repeat (first | refine blk_drewN ?_ _ | refine blk_drew ?_ | refine blk_alloc ?_ _));refine blk_put (cs := #[.string ((rd_T43 l0 x25_1).f0),.int .i64 ((rd_T43 l0 x25_1).f1),.int .i64 0,.int .i64 0,.int .i64 0]) ?_ 2 _ rfl;(with_reducible repeat (first | refine blk_drewN ?_ _ | refine blk_drew ?_ | refine blk_alloc ?_ _));refine blk_put (cs := #[.string ((rd_T43 l0 x25_1).f0),.int .i64 0,.int .i64 0,.int .i64 0,.int .i64 0]) ?_ 1 _ rfl;(with_reducible repeat (first | refine blk_drewN ?_ _ | refine blk_drew ?_ | refine blk_alloc ?_ _));refine blk_put (cs := #[.string (⟨#[]⟩ : ByteArray),.int .i64 0,.int .i64 0,.int .i64 0,.int .i64 0]) ?_ 0 _ rfl;(with_reducible repeat (first | refine blk_drewN ?_ _ | refine blk_drew ?_ | refine blk_alloc ?_ _));exact BK279.out)) : gb279 ≠ gb281));have n6_ := Yd ((by rw [hg];exact Nat.ne_of_gt (blk_lt (g := gb279) (o := .cells #[.string ((rd_T43 l0 x25_1).f0),.int .i64 ((rd_T43 l0 x25_1).f1),.int .i64 ((rd_T43 l0 x25_1).f2),.int .i64 ((rd_T43 l0 x25_1).f3),.int .i64 ((rd_T43 l0 x25_1).f4)] 43 (0,0)) (by (with_reducible repeat (first | refine blk_drewN ?_ _ | refine blk_drew ?_ | refine blk_alloc ?_ _));refine blk_put (cs := #[.string ((rd_T43 l0 x25_1).f0),.int .i64 ((rd_T43 l0 x25_1).f1),.int .i64 ((rd_T43 l0 x25_1).f2),.int .i64 ((rd_T43 l0 x25_1).f3),.int .i64 0]) ?_ 4 _ rfl;(with_reducible repeat (first | refine blk_drewN ?_ _ | refine blk_drew ?_ | refine blk_alloc ?_ _));refine blk_put (cs := #[.string ((rd_T43 l0 x25_1).f0),.int .i64 ((rd_T43 l0 x25_1).f1),.int .i64 ((rd_T43 l0 x25_1).f2),.int .i64 0,.int .i64 0]) ?_ 3 _ rfl;(with_reducible repeat (first | refine blk_drewN ?_ _ | refine blk_drew ?_ | refine blk_alloc ?_ _));refine blk_put (cs := #[.string ((rd_T43 l0 x25_1).f0),.int .i64 ((rd_T43 l0 x25_1).f1),.int .i64 0,.int .i64 0,.int .i64 0]) ?_ 2 _ rfl;(with_reducible repeat (first | refine blk_drewN ?_ _ | refine blk_drew ?_ | refine blk_alloc ?_ _));refine blk_put (cs := #[.string ((rd_T43 l0 x25_1).f0),.int .i64 0,.int .i64 0,.int .i64 0,.int .i64 0]) ?_ 1 _ rfl;(with_reducible repeat (first | refine blk_drewN ?_ _ | refine blk_drew ?_ | refine blk_alloc ?_ _));refine blk_put (cs := #[.string (⟨#[]⟩ : ByteArray),.int .i64 0,.int .i64 0,.int .i64 0,.int .i64 0]) ?_ 0 _ rfl;(with_reducible repeat (first | refine blk_drewN ?_ _ | refine blk_drew ?_ | refine blk_alloc ?_ _));exact BK279.out)) : gb281 ≠ gb279));clear BK279;clear HB;have BK279 := n0_;have HB := n1_;have BK281 := n2_;have GW281 := n3_;have GE281 := n4_;have NB279_281 := n5_;have NB281_279 := n6_;clear n0_ n1_ n2_ n3_ n4_ n5_ n6_;clear hb hbox hg;have hnb26 := NB281_279.out;have hnc26 := NB279_281.out;have hcz27_0 : w25.cell? ⟨gb281,0,none⟩ = some (.bool false) := (blk_cell BK281.out 0).trans rfl;have hcz27_1 : w25.cell? ⟨gb281,1,none⟩ = some (.int .i64 0) := (blk_cell BK281.out 1).trans rfl;have hfz27_0 := blk_frozen BK281.out 0;have hfz27_1 := blk_frozen BK281.out 1;have hcz28_0 : w25.cell? ⟨gb279,0,none⟩ = some (.string ((rd_T43 l0 x25_1).f0)) := (blk_cell BK279.out 0).trans rfl;have hcz28_1 : w25.cell? ⟨gb279,1,none⟩ = some (.int .i64 ((rd_T43 l0 x25_1).f1)) := (blk_cell BK279.out 1).trans rfl;have hcz28_2 : w25.cell? ⟨gb279,2,none⟩ = some (.int .i64 ((rd_T43 l0 x25_1).f2)) := (blk_cell BK279.out 2).trans rfl;have hcz28_3 : w25.cell? ⟨gb279,3,none⟩ = some (.int .i64 ((rd_T43 l0 x25_1).f3)) := (blk_cell BK279.out 3).trans rfl;have hcz28_4 : w25.cell? ⟨gb279,4,none⟩ = some (.int .i64 ((rd_T43 l0 x25_1).f4)) := (blk_cell BK279.out 4).trans rfl;have hfz28_0 := blk_frozen BK279.out 0;have hfz28_1 := blk_frozen BK279.out 1;have hfz28_2 := blk_frozen BK279.out 2;have hfz28_3 := blk_frozen BK279.out 3;have hfz28_4 := blk_frozen BK279.out 4))
       go_roundg k1
       case measure => have := HK1.out;omega
       case rel => (try rw [← Nbq15.out]);exact ⟨(wrap64 (x2_1 + ((rd_T43 l0 x25_1).f2))),(wrap64 (x25_1 + 1)),Y12,Y12,H',⟨by have := HK1.out;omega⟩,⟨by repeat (first | (with_reducible first | exact HB.out | apply below_alloc | apply Y15 | apply below_drew1 | refine below_set ?_ GE279.out | refine below_set ?_ GE281.out) | exact HB.out)⟩⟩
      ·rw [if_neg c22] at H
       have c22b0 : decide ((wrap64 (a3 - ((rd_T51 l1 x25_1).f1))) < ((rd_T43 l0 x25_1).f3)) = false := decide_eq_false c22
       clear c22
       have H' := Yd H
       clear H
       have p278 : 0 ≤ (x25_1 : Int) := Y9
       have q278 : x25_1 < (l0.length : Int) := Y9
       obtain ⟨ad278,e278,hx278_0,hx278_1,hx278_2,hx278_3,hx278_4⟩ := at_T43 HR0.out x25_1 p278 q278
       cases e278
       replace hx278_0 := Y10 HB.out hx278_0
       replace hx278_1 := Y10 HB.out hx278_1
       replace hx278_2 := Y10 HB.out hx278_2
       replace hx278_3 := Y10 HB.out hx278_3
       replace hx278_4 := Y10 HB.out hx278_4
       replace p278 := eq_true p278
       replace q278 := eq_true q278
       go_wp2_with (first | ((with_reducible refine gate_dst (N := 12) rfl ?_);refine box_event ?hg (N := 12) ?hd (cs := #[.string (⟨#[]⟩ : ByteArray),.int .i64 0,.int .i64 0,.int .i64 0,.int .i64 0]) (t := 43) ?hr ?_;(case hd => rfl);(case hg => rfl);(case hr => first | (go_simp;done) | (go_simp;rfl));intro gb279 hg w29 hbox hb;have n0_ := Yd (below_step (Y3 HB.out) hb);have n1_ := Yd (hbox);have n2_ := Yd ((by rw [hg];exact (below_size (Y3 HB.out)) : w.heap.size ≤ gb279));have n3_ := Yd ((by rw [hg];exact (below_size (Y3 HB.out)) : w.heap.size ≤ gb279));clear HB;have HB := n0_;have BK279 := n1_;have GW279 := n2_;have GE279 := n3_;clear n0_ n1_ n2_ n3_;clear hb hbox hg;have hcz30_0 : w29.cell? ⟨gb279,0,none⟩ = some (.string (⟨#[]⟩ : ByteArray)) := (blk_cell BK279.out 0).trans rfl;have hcz30_1 : w29.cell? ⟨gb279,1,none⟩ = some (.int .i64 0) := (blk_cell BK279.out 1).trans rfl;have hcz30_2 : w29.cell? ⟨gb279,2,none⟩ = some (.int .i64 0) := (blk_cell BK279.out 2).trans rfl;have hcz30_3 : w29.cell? ⟨gb279,3,none⟩ = some (.int .i64 0) := (blk_cell BK279.out 3).trans rfl;have hcz30_4 : w29.cell? ⟨gb279,4,none⟩ = some (.int .i64 0) := (blk_cell BK279.out 4).trans rfl;have hfz30_0 := blk_frozen BK279.out 0;have hfz30_1 := blk_frozen BK279.out 1;have hfz30_2 := blk_frozen BK279.out 2;have hfz30_3 := blk_frozen BK279.out 3;have hfz30_4 := blk_frozen BK279.out 4;have p280 : 0 ≤ (x25_1 : Int) := Y9;have q280 : x25_1 < (l1.length : Int) := Y9;obtain ⟨ad280,e280,hx280_0,hx280_1⟩ := at_T51 HR1.out x25_1 p280 q280;(try rw [← Nbq15.out] at hx280_0);(try rw [← Nbq15.out] at hw280_0);cases e280;have hn280_0 : ad280.block ≠ gb279 := Y1 (Y2 hx280_0 GW279.out);have hn280_1 : ad280.block ≠ gb279 := Y1 (Y2 hx280_0 GW279.out);have hn280_2 : ad280.block ≠ gb279 := Y1 (Y2 hx280_0 GW279.out);have hn280_3 : ad280.block ≠ gb279 := Y1 (Y2 hx280_0 GW279.out);have hn280_4 : ad280.block ≠ gb279 := Y1 (Y2 hx280_0 GW279.out);replace hx280_0 := Y10 HB.out hx280_0;replace hx280_1 := Y10 HB.out hx280_1;replace hx280_0 := (cell_far (p := ⟨gb279,0,none⟩) (by first | (rw [add_block];exact hn280_0) | (show (Addr.add _ _).block ≠ _;rw [add_block];exact hn280_0) | exact hn280_0) (.string ((rd_T43 l0 x25_1).f0))).trans hx280_0;replace hx280_1 := (cell_far (p := ⟨gb279,0,none⟩) (by first | (rw [add_block];exact hn280_0) | (show (Addr.add _ _).block ≠ _;rw [add_block];exact hn280_0) | exact hn280_0) (.string ((rd_T43 l0 x25_1).f0))).trans hx280_1;replace hx280_0 := (cell_far (p := ⟨gb279,1,none⟩) (by first | (rw [add_block];exact hn280_1) | (show (Addr.add _ _).block ≠ _;rw [add_block];exact hn280_1) | exact hn280_1) (.int .i64 ((rd_T43 l0 x25_1).f1))).trans hx280_0;replace hx280_1 := (cell_far (p := ⟨gb279,1,none⟩) (by first | (rw [add_block];exact hn280_1) | (show (Addr.add _ _).block ≠ _;rw [add_block];exact hn280_1) | exact hn280_1) (.int .i64 ((rd_T43 l0 x25_1).f1))).trans hx280_1;replace hx280_0 := (cell_far (p := ⟨gb279,2,none⟩) (by first | (rw [add_block];exact hn280_2) | (show (Addr.add _ _).block ≠ _;rw [add_block];exact hn280_2) | exact hn280_2) (.int .i64 ((rd_T43 l0 x25_1).f2))).trans hx280_0;replace hx280_1 := (cell_far (p := ⟨gb279,2,none⟩) (by first | (rw [add_block];exact hn280_2) | (show (Addr.add _ _).block ≠ _;rw [add_block];exact hn280_2) | exact hn280_2) (.int .i64 ((rd_T43 l0 x25_1).f2))).trans hx280_1;replace hx280_0 := (cell_far (p := ⟨gb279,3,none⟩) (by first | (rw [add_block];exact hn280_3) | (show (Addr.add _ _).block ≠ _;rw [add_block];exact hn280_3) | exact hn280_3) (.int .i64 ((rd_T43 l0 x25_1).f3))).trans hx280_0;replace hx280_1 := (cell_far (p := ⟨gb279,3,none⟩) (by first | (rw [add_block];exact hn280_3) | (show (Addr.add _ _).block ≠ _;rw [add_block];exact hn280_3) | exact hn280_3) (.int .i64 ((rd_T43 l0 x25_1).f3))).trans hx280_1;replace hx280_0 := (cell_far (p := ⟨gb279,4,none⟩) (by first | (rw [add_block];exact hn280_4) | (show (Addr.add _ _).block ≠ _;rw [add_block];exact hn280_4) | exact hn280_4) (.int .i64 ((rd_T43 l0 x25_1).f4))).trans hx280_0;replace hx280_1 := (cell_far (p := ⟨gb279,4,none⟩) (by first | (rw [add_block];exact hn280_4) | (show (Addr.add _ _).block ≠ _;rw [add_block];exact hn280_4) | exact hn280_4) (.int .i64 ((rd_T43 l0 x25_1).f4))).trans hx280_1;clear hn280_0;clear hn280_1;clear hn280_2;clear hn280_3;clear hn280_4;replace p280 := eq_true p280;replace q280 := eq_true q280) | ((with_reducible refine gate_dst (N := 13) rfl ?_);refine box_event ?hg (N := 13) ?hd (cs := #[.bool false,.int .i64 0]) (t := 51) ?hr ?_;(case hd => rfl);(case hg => rfl);(case hr => first | (go_simp;done) | (go_simp;rfl));intro gb281 hg w31 hbox hb;have n0_ := Yd (blk_below (g := gb279) (o := .cells #[.string ((rd_T43 l0 x25_1).f0),.int .i64 ((rd_T43 l0 x25_1).f1),.int .i64 ((rd_T43 l0 x25_1).f2),.int .i64 ((rd_T43 l0 x25_1).f3),.int .i64 ((rd_T43 l0 x25_1).f4)] 43 (0,0)) (by (with_reducible repeat (first | refine blk_drewN ?_ _ | refine blk_drew ?_ | refine blk_alloc ?_ _));refine blk_put (cs := #[.string ((rd_T43 l0 x25_1).f0),.int .i64 ((rd_T43 l0 x25_1).f1),.int .i64 ((rd_T43 l0 x25_1).f2),.int .i64 ((rd_T43 l0 x25_1).f3),.int .i64 0]) ?_ 4 _ rfl;(with_reducible repeat (first | refine blk_drewN ?_ _ | refine blk_drew ?_ | refine blk_alloc ?_ _));refine blk_put (cs := #[.string ((rd_T43 l0 x25_1).f0),.int .i64 ((rd_T43 l0 x25_1).f1),.int .i64 ((rd_T43 l0 x25_1).f2),.int .i64 0,.int .i64 0]) ?_ 3 _ rfl;(with_reducible repeat (first | refine blk_drewN ?_ _ | refine blk_drew ?_ | refine blk_alloc ?_ _));refine blk_put (cs := #[.string ((rd_T43 l0 x25_1).f0),.int .i64 ((rd_T43 l0 x25_1).f1),.int .i64 0,.int .i64 0,.int .i64 0]) ?_ 2 _ rfl;(with_reducible repeat (first | refine blk_drewN ?_ _ | refine blk_drew ?_ | refine blk_alloc ?_ _));refine blk_put (cs := #[.string ((rd_T43 l0 x25_1).f0),.int .i64 0,.int .i64 0,.int .i64 0,.int .i64 0]) ?_ 1 _ rfl;(with_reducible repeat (first | refine blk_drewN ?_ _ | refine blk_drew ?_ | refine blk_alloc ?_ _));refine blk_put (cs := #[.string (⟨#[]⟩ : ByteArray),.int .i64 0,.int .i64 0,.int .i64 0,.int .i64 0]) ?_ 0 _ rfl;(with_reducible repeat (first | refine blk_drewN ?_ _ | refine blk_drew ?_ | refine blk_alloc ?_ _));exact BK279.out) hb);have n1_ := Yd (below_step (by first | exact Y4 HB.out GE279.out | exact Y3 HB.out) hb);have n2_ := Yd (hbox);have n3_ := Yd ((by rw [hg];exact (below_size (by first | exact Y4 HB.out GE279.out | exact Y3 HB.out)) : w.heap.size ≤ gb281));have n4_ := Yd ((by rw [hg];exact (below_size (by first | exact Y4 HB.out GE279.out | exact Y3 HB.out)) : w.heap.size ≤ gb281));have n5_ := Yd ((by rw [hg];exact Nat.ne_of_lt (blk_lt (g := gb279) (o := .cells #[.string ((rd_T43 l0 x25_1).f0),.int .i64 ((rd_T43 l0 x25_1).f1),.int .i64 ((rd_T43 l0 x25_1).f2),.int .i64 ((rd_T43 l0 x25_1).f3),.int .i64 ((rd_T43 l0 x25_1).f4)] 43 (0,0)) (by (with_reducible repeat (first | refine blk_drewN ?_ _ | refine blk_drew ?_ | refine blk_alloc ?_ _));refine blk_put (cs := #[.string ((rd_T43 l0 x25_1).f0),.int .i64 ((rd_T43 l0 x25_1).f1),.int .i64 ((rd_T43 l0 x25_1).f2),.int .i64 ((rd_T43 l0 x25_1).f3),.int .i64 0]) ?_ 4 _ rfl;(with_reducible repeat (first | refine blk_drewN ?_ _ | refine blk_drew ?_ | refine blk_alloc ?_ _));refine blk_put (cs := #[.string ((rd_T43 l0 x25_1).f0),.int .i64 ((rd_T43 l0 x25_1).f1),.int .i64 ((rd_T43 l0 x25_1).f2),.int .i64 0,.int .i64 0]) ?_ 3 _ rfl;(with_reducible repeat (first | refine blk_drewN ?_ _ | refine blk_drew ?_ | refine blk_alloc ?_ _));refine blk_put (cs := #[.string ((rd_T43 l0 x25_1).f0),.int .i64 ((rd_T43 l0 x25_1).f1),.int .i64 0,.int .i64 0,.int .i64 0]) ?_ 2 _ rfl;(with_reducible repeat (first | refine blk_drewN ?_ _ | refine blk_drew ?_ | refine blk_alloc ?_ _));refine blk_put (cs := #[.string ((rd_T43 l0 x25_1).f0),.int .i64 0,.int .i64 0,.int .i64 0,.int .i64 0]) ?_ 1 _ rfl;(with_reducible repeat (first | refine blk_drewN ?_ _ | refine blk_drew ?_ | refine blk_alloc ?_ _));refine blk_put (cs := #[.string (⟨#[]⟩ : ByteArray),.int .i64 0,.int .i64 0,.int .i64 0,.int .i64 0]) ?_ 0 _ rfl;(with_reducible repeat (first | refine blk_drewN ?_ _ | refine blk_drew ?_ | refine blk_alloc ?_ _));exact BK279.out)) : gb279 ≠ gb281));have n6_ := Yd ((by rw [hg];exact Nat.ne_of_gt (blk_lt (g := gb279) (o := .cells #[.string ((rd_T43 l0 x25_1).f0),.int .i64 ((rd_T43 l0 x25_1).f1),.int .i64 ((rd_T43 l0 x25_1).f2),.int .i64 ((rd_T43 l0 x25_1).f3),.int .i64 ((rd_T43 l0 x25_1).f4)] 43 (0,0)) (by (with_reducible repeat (first | refine blk_drewN ?_ _ | refine blk_drew ?_ | refine blk_alloc ?_ _));refine blk_put (cs := #[.string ((rd_T43 l0 x25_1).f0),.int .i64 ((rd_T43 l0 x25_1).f1),.int .i64 ((rd_T43 l0 x25_1).f2),.int .i64 ((rd_T43 l0 x25_1).f3),.int .i64 0]) ?_ 4 _ rfl;(with_reducible repeat (first | refine blk_drewN ?_ _ | refine blk_drew ?_ | refine blk_alloc ?_ _));refine blk_put (cs := #[.string ((rd_T43 l0 x25_1).f0),.int .i64 ((rd_T43 l0 x25_1).f1),.int .i64 ((rd_T43 l0 x25_1).f2),.int .i64 0,.int .i64 0]) ?_ 3 _ rfl;(with_reducible repeat (first | refine blk_drewN ?_ _ | refine blk_drew ?_ | refine blk_alloc ?_ _));refine blk_put (cs := #[.string ((rd_T43 l0 x25_1).f0),.int .i64 ((rd_T43 l0 x25_1).f1),.int .i64 0,.int .i64 0,.int .i64 0]) ?_ 2 _ rfl;(with_reducible repeat (first | refine blk_drewN ?_ _ | refine blk_drew ?_ | refine blk_alloc ?_ _));refine blk_put (cs := #[.string ((rd_T43 l0 x25_1).f0),.int .i64 0,.int .i64 0,.int .i64 0,.int .i64 0]) ?_ 1 _ rfl;(with_reducible repeat (first | refine blk_drewN ?_ _ | refine blk_drew ?_ | refine blk_alloc ?_ _));refine blk_put (cs := #[.string (⟨#[]⟩ : ByteArray),.int .i64 0,.int .i64 0,.int .i64 0,.int .i64 0]) ?_ 0 _ rfl;(with_reducible repeat (first | refine blk_drewN ?_ _ | refine blk_drew ?_ | refine blk_alloc ?_ _));exact BK279.out)) : gb281 ≠ gb279));clear BK279;clear HB;have BK279 := n0_;have HB := n1_;have BK281 := n2_;have GW281 := n3_;have GE281 := n4_;have NB279_281 := n5_;have NB281_279 := n6_;clear n0_ n1_ n2_ n3_ n4_ n5_ n6_;clear hb hbox hg;have hnb32 := NB281_279.out;have hnc32 := NB279_281.out;have hcz33_0 : w31.cell? ⟨gb281,0,none⟩ = some (.bool false) := (blk_cell BK281.out 0).trans rfl;have hcz33_1 : w31.cell? ⟨gb281,1,none⟩ = some (.int .i64 0) := (blk_cell BK281.out 1).trans rfl;have hfz33_0 := blk_frozen BK281.out 0;have hfz33_1 := blk_frozen BK281.out 1;have hcz34_0 : w31.cell? ⟨gb279,0,none⟩ = some (.string ((rd_T43 l0 x25_1).f0)) := (blk_cell BK279.out 0).trans rfl;have hcz34_1 : w31.cell? ⟨gb279,1,none⟩ = some (.int .i64 ((rd_T43 l0 x25_1).f1)) := (blk_cell BK279.out 1).trans rfl;have hcz34_2 : w31.cell? ⟨gb279,2,none⟩ = some (.int .i64 ((rd_T43 l0 x25_1).f2)) := (blk_cell BK279.out 2).trans rfl;have hcz34_3 : w31.cell? ⟨gb279,3,none⟩ = some (.int .i64 ((rd_T43 l0 x25_1).f3)) := (blk_cell BK279.out 3).trans rfl;have hcz34_4 : w31.cell? ⟨gb279,4,none⟩ = some (.int .i64 ((rd_T43 l0 x25_1).f4)) := (blk_cell BK279.out 4).trans rfl;have hfz34_0 := blk_frozen BK279.out 0;have hfz34_1 := blk_frozen BK279.out 1;have hfz34_2 := blk_frozen BK279.out 2;have hfz34_3 := blk_frozen BK279.out 3;have hfz34_4 := blk_frozen BK279.out 4))
       go_roundg k1
       case measure => have := HK1.out;omega
       case rel => (try rw [← Nbq15.out]);exact ⟨(x2_1),(wrap64 (x25_1 + 1)),Y12,Y12,H',⟨by have := HK1.out;omega⟩,⟨by repeat (first | (with_reducible first | exact HB.out | apply below_alloc | apply Y15 | apply below_drew1 | refine below_set ?_ GE279.out | refine below_set ?_ GE281.out) | exact HB.out)⟩⟩
    ·rw [if_neg c11] at H
     have c11b0 : decide (x25_1 < (l0.length : Int)) = false := decide_eq_false c11
     clear c11
     simp only [Option.some.injEq,Prod.mk.injEq] at H
     obtain ⟨rfl,rfl⟩ := H
     go_wp2
     go_ret2
     exact ⟨by first | rfl | (simp [errW_none,errW_some] <;> rfl) | (simp [*,errW_none,errW_some] <;> rfl),Y3 HB.out⟩
 ·rw [if_neg c6] at H
  have c6b0 : (t277 == 0) = false := beq_eq_false_iff_ne.mpr c6
  have c6b1 : (t277 != 0) = true := bne_iff_ne.mpr c6
  simp only [Option.some.injEq,Prod.mk.injEq] at H
  obtain ⟨rfl,rfl⟩ := H
  go_enter Try.func8,Try.ntmps8
  go_wp2_with (first | ((with_reducible refine gate_dst (N := 18) rfl ?_);refine Kd.R_lit (Kd.int .i64) _ 2 ?hg (N := 18) ?hd (xs := ([a2] : List Int)) (inner := [.int .i64 a2]) (ok := fun _ => True) (okp := fun _ => True) ?hr ?hp (fun _ hk => hk) trivial (Below.refl _ _) (Nat.le_refl _) (by simp) ?_;(case hd => rfl);(case hg => rfl);(case hr => first | (go_simp;done) | (go_simp;rfl));(case hp => exact (Reps.one (show Kd.M (Kd.int .i64) _ _ _ a2 [.int .i64 a2] from rfl) (Reps.none _ _)));intro v275 w35 ho36 hb hg_ hnew_;clear hg_ hnew_;(first | rw [← Ny274.out] at ho36 | (simp only [Int.reduceToNat] at ho36;rw [← Ny274.out] at ho36));have n0_ := Yd (Kd.R_lower ho36 (below_size (Y3 HB.out)));have n1_ := Yd (below_step (Y3 HB.out) hb);clear HB;have HO276 := n0_;have HB := n1_;clear n0_ n1_;clear hb ho36;obtain ⟨Ao37,co37,eo37⟩ := Kd.R_slice HO276.out;subst eo37) | ((with_reducible refine gate_callee (f := 22) rfl ?_);refine goesL_ (some 19) rfl rfl Try.func22 (by kernel_rfl) rfl #[.slice A0 l0.length c0,.slice A1 l1.length c1,.int .i64 a3,.slice Ao37 y274.length co37] rfl Y8 ?_;(with_reducible refine (demand_check.calls k _ _ l0 _ _ l1 a3 _ _ y274 t277 _ ?side1 ?side2 ?side3 ?side4 ?side5 ?side6 A5.out).mono ?_);(case side1 => exact Y11 (Kd.C_below HR0.out HB.out));(case side2 => exact HC0.out);(case side3 => exact Y11 (Kd.C_below HR1.out HB.out));(case side4 => exact HC1.out);(case side5 => repeat (first | exact (Kd.R_reads' HO276.out).2.2 | (with_reducible refine Kd.C_alloc ?_ _) | (with_reducible refine Kd.C_drewN ?_ _) | (with_reducible refine Kd.C_drew ?_)));(case side6 => exact (Kd.R_reads' HO276.out).2.1);rintro e w38 ⟨rfl,hb⟩;refine ⟨_,rfl,?_⟩;have n0_ := Yd (Kd.R_below (Y5 HO276.out) hb);have n1_ := Yd (below_step (Y3 HB.out) hb);clear HO276;clear HB;have HO276 := n0_;have HB := n1_;clear n0_ n1_;(try clear hb);(try clear hb2);(try clear hk);(try clear hi)))
  go_ret2
  exact ⟨by first | rfl | (simp [errW_none,errW_some] <;> rfl) | (simp [*,errW_none,errW_some] <;> rfl),Y3 HB.out⟩
def plenumref07_Lower.f (a0 : Int) : Option (Bool) := if a0 ≥ 97 then (some (decide (a0 ≤ 122))) else (some false)
set_option maxHeartbeats 100000000 in
set_option maxRecDepth 100000 in
theorem plenumref07_Lower.calls (a0 : Int) (r : Bool) (w : World) (h : plenumref07_Lower.f a0 = some r) :
  Calls Try.prog 48 #[.int .u8 a0] w fun e w' => e = .returned (.bool r) ∧ Drawn0 w w' := by
 have H : (if a0 ≥ 97 then (some (decide (a0 ≤ 122))) else (some false)) = some r := h
 clear h
 by_cases c2 : a0 ≥ 97
 ·rw [if_pos c2] at H
  have c2b0 : decide (97 ≤ a0) = true := decide_eq_true c2
  clear c2
  obtain rfl := Option.some.inj H
  go_enter Try.func48,Try.ntmps48
  go_wp2
  go_ret
  exact ⟨by first | rfl | (simp;done) | (simp [*];done),by repeat (first | exact Drawn0.refl _ | apply Drawn0.step)⟩
 ·rw [if_neg c2] at H
  have c2b0 : decide (97 ≤ a0) = false := decide_eq_false c2
  clear c2
  obtain rfl := Option.some.inj H
  go_enter Try.func48,Try.ntmps48
  go_wp2
  go_ret
  exact ⟨by first | rfl | (simp;done) | (simp [*];done),by repeat (first | exact Drawn0.refl _ | apply Drawn0.step)⟩
def plenumref07_Digit.f (a0 : Int) : Option (Bool) := if a0 ≥ 48 then (some (decide (a0 ≤ 57))) else (some false)
set_option maxHeartbeats 100000000 in
set_option maxRecDepth 100000 in
theorem plenumref07_Digit.calls (a0 : Int) (r : Bool) (w : World) (h : plenumref07_Digit.f a0 = some r) :
  Calls Try.prog 49 #[.int .u8 a0] w fun e w' => e = .returned (.bool r) ∧ Drawn0 w w' := by
 have H : (if a0 ≥ 48 then (some (decide (a0 ≤ 57))) else (some false)) = some r := h
 clear h
 by_cases c2 : a0 ≥ 48
 ·rw [if_pos c2] at H
  have c2b0 : decide (48 ≤ a0) = true := decide_eq_true c2
  clear c2
  obtain rfl := Option.some.inj H
  go_enter Try.func49,Try.ntmps49
  go_wp2
  go_ret
  exact ⟨by first | rfl | (simp;done) | (simp [*];done),by repeat (first | exact Drawn0.refl _ | apply Drawn0.step)⟩
 ·rw [if_neg c2] at H
  have c2b0 : decide (48 ≤ a0) = false := decide_eq_false c2
  clear c2
  obtain rfl := Option.some.inj H
  go_enter Try.func49,Try.ntmps49
  go_wp2
  go_ret
  exact ⟨by first | rfl | (simp;done) | (simp [*];done),by repeat (first | exact Drawn0.refl _ | apply Drawn0.step)⟩
end Go.Proofs.Ytcdjhdfjkfbgdaa.PD56
namespace Go.Proofs.Ytcdjhdfjkfbgdaa.PD56
open Go.RowKit Go.Proofs.YtcdjhdfjkfbgdaaW.PrintWords Go.Proofs.YtcdjhdfjkfbgdaaW.PrintLast Go.Proofs.YtcdjhdfjkfbgdaaW.PrintMore
attribute [local go_sem] max2_int min2_int max_two min_two max_three min_three max_four min_four
mutual
def plenumref07_Name.j0 : Nat → ByteArray → Bool → Option (Bool)
 | 0,_,_ => none
 | k + 1,x0,x17 => if x17 = true then (some false) else (plenumref07_Name.l0 k x0 1)
def plenumref07_Name.l0 : Nat → ByteArray → Int → Option (Bool)
 | 0,_,_ => none
 | k + 1,x0,x3 => if x3 < (x0.size : Int) then (if 0 ≤ x3 then ((plenumref07_Lower.f (bt x0 x3)).bind fun t283 => (if t283 = true then (plenumref07_Name.j2 k x0 x3 false) else ((plenumref07_Digit.f (bt x0 x3)).bind fun t284 => (if t284 = true then (plenumref07_Name.j2 k x0 x3 false) else (plenumref07_Name.j2 k x0 x3 ((bt x0 x3) != 95)))))) else (none)) else (some true)
def plenumref07_Name.j2 : Nat → ByteArray → Int → Bool → Option (Bool)
 | 0,_,_,_ => none
 | k + 1,x0,x3,x41 => if x41 = true then (some false) else (plenumref07_Name.l0 k x0 (wrap64 (x3 + 1)))
end
def plenumref07_Name.f (k : Nat) (a0 : ByteArray) : Option (Bool) := if (a0.size : Int) < 1 then (plenumref07_Name.j0 k a0 true) else (if (a0.size : Int) > 24 then (plenumref07_Name.j0 k a0 true) else (if 0 < (a0.size : Int) then ((plenumref07_Lower.f (bt a0 0)).bind fun t282 => (plenumref07_Name.j0 k a0 (!t282))) else (none)))
theorem plenumref07_Name.mono_l : ∀ k,(∀ y0 y1,LeO (plenumref07_Name.j0 k y0 y1) (plenumref07_Name.j0 (k + 1) y0 y1)) ∧ (∀ y0 y1,LeO (plenumref07_Name.l0 k y0 y1) (plenumref07_Name.l0 (k + 1) y0 y1)) ∧ (∀ y0 y1 y2,LeO (plenumref07_Name.j2 k y0 y1 y2) (plenumref07_Name.j2 (k + 1) y0 y1 y2))
 | 0 => ⟨fun _ _ r h => by simp [plenumref07_Name.j0] at h,fun _ _ r h => by simp [plenumref07_Name.l0] at h,fun _ _ _ r h => by simp [plenumref07_Name.j2] at h⟩
 | k + 1 => by
  obtain ⟨ih0,ih1,ih2⟩ := plenumref07_Name.mono_l k
  refine ⟨?_,?_,?_⟩
  ·intro y0 y1
   unfold plenumref07_Name.j0
   repeat' first
   | (with_reducible exact ih0 _ _)
   | (with_reducible exact ih1 _ _)
   | (with_reducible exact ih2 _ _ _)
   | (with_reducible exact LeO.refl _)
   | (with_reducible exact LeO.none _)
   | (with_reducible refine LeO.ite ?_ ?_)
   | (with_reducible refine LeO.bind ?_ (fun _ => ?_))
   | exact ih0 _ _
   | exact ih1 _ _
   | exact ih2 _ _ _
   | exact LeO.none _
   | refine LeO.ite ?_ ?_
   | refine LeO.bind ?_ (fun _ => ?_)
  ·intro y0 y1
   unfold plenumref07_Name.l0
   repeat' first
   | (with_reducible exact ih0 _ _)
   | (with_reducible exact ih1 _ _)
   | (with_reducible exact ih2 _ _ _)
   | (with_reducible exact LeO.refl _)
   | (with_reducible exact LeO.none _)
   | (with_reducible refine LeO.ite ?_ ?_)
   | (with_reducible refine LeO.bind ?_ (fun _ => ?_))
   | exact ih0 _ _
   | exact ih1 _ _
   | exact ih2 _ _ _
   | exact LeO.none _
   | refine LeO.ite ?_ ?_
   | refine LeO.bind ?_ (fun _ => ?_)
  ·intro y0 y1 y2
   unfold plenumref07_Name.j2
   repeat' first
   | (with_reducible exact ih0 _ _)
   | (with_reducible exact ih1 _ _)
   | (with_reducible exact ih2 _ _ _)
   | (with_reducible exact LeO.refl _)
   | (with_reducible exact LeO.none _)
   | (with_reducible refine LeO.ite ?_ ?_)
   | (with_reducible refine LeO.bind ?_ (fun _ => ?_))
   | exact ih0 _ _
   | exact ih1 _ _
   | exact ih2 _ _ _
   | exact LeO.none _
   | refine LeO.ite ?_ ?_
   | refine LeO.bind ?_ (fun _ => ?_)
theorem plenumref07_Name.mono : ∀ a0 k,LeO (plenumref07_Name.f k a0) (plenumref07_Name.f (k + 1) a0) := by
 intro a0 k
 obtain ⟨ih0,ih1,ih2⟩ := plenumref07_Name.mono_l k
 unfold plenumref07_Name.f
 repeat' first
   | (with_reducible exact ih0 _ _)
   | (with_reducible exact ih1 _ _)
   | (with_reducible exact ih2 _ _ _)
   | (with_reducible exact LeO.refl _)
   | (with_reducible exact LeO.none _)
   | (with_reducible refine LeO.ite ?_ ?_)
   | (with_reducible refine LeO.bind ?_ (fun _ => ?_))
   | exact ih0 _ _
   | exact ih1 _ _
   | exact ih2 _ _ _
   | exact LeO.none _
   | refine LeO.ite ?_ ?_
   | refine LeO.bind ?_ (fun _ => ?_)
set_option maxHeartbeats 100000000 in
set_option maxRecDepth 100000 in
theorem plenumref07_Name.calls (k : Nat) (a0 : ByteArray) (r : Bool) (w : World) (h : plenumref07_Name.f k a0 = some r) :
  Calls Try.prog 28 #[.string a0] w fun e w' => e = .returned (.bool r) ∧ Drawn0 w w' := by
 have H : (if (a0.size : Int) < 1 then (plenumref07_Name.j0 k a0 true) else (if (a0.size : Int) > 24 then (plenumref07_Name.j0 k a0 true) else (if 0 < (a0.size : Int) then ((plenumref07_Lower.f (bt a0 0)).bind fun t282 => (plenumref07_Name.j0 k a0 (!t282))) else (none)))) = some r := h
 clear h
 have HC2 := Yd H
 clear H
 go_enter Try.func28,Try.ntmps28
 go_upto_region 1 with (fail)
 go_cut [17] (fun v17 wc => ∃ (kq : Nat) (x17_1 : Bool),v17 = .bool x17_1 ∧ Aside0 (plenumref07_Name.j0 kq a0 x17_1 = some r) ∧ Aside0 (kq ≤ k) ∧ Drawn0 w wc)
 case first =>
  have H := HC2.out
  clear HC2
  by_cases c3 : (a0.size : Int) < 1
  ·rw [if_pos c3] at H
   have c3b0 : decide ((a0.size : Int) < 1) = true := decide_eq_true c3
   have c3b1 : decide (a0.size < 1) = true := decide_eq_true (by omega)
   clear c3
   (first | rw [c3b0] | (simp only [i64_w,i32_w];rw [c3b0]) | skip)
   have H' := Yd H
   clear H
   go_wp2
   go_meet
   case rel => exact ⟨_,(true),Y12,H',⟨by first | omega | exact Nat.le_refl _⟩,by repeat (first | exact Drawn0.refl _ | apply Drawn0.step)⟩
  ·rw [if_neg c3] at H
   have c3b0 : decide ((a0.size : Int) < 1) = false := decide_eq_false c3
   have c3b1 : decide (a0.size < 1) = false := decide_eq_false (by omega)
   clear c3
   (first | rw [c3b0] | (simp only [i64_w,i32_w];rw [c3b0]) | skip)
   by_cases c4 : (a0.size : Int) > 24
   ·rw [if_pos c4] at H
    have c4b0 : decide (24 < (a0.size : Int)) = true := decide_eq_true c4
    have c4b1 : decide (24 < a0.size) = true := decide_eq_true (by omega)
    clear c4
    have H' := Yd H
    clear H
    go_wp2
    go_meet
    case rel => exact ⟨_,(true),Y12,H',⟨by first | omega | exact Nat.le_refl _⟩,by repeat (first | exact Drawn0.refl _ | apply Drawn0.step)⟩
   ·rw [if_neg c4] at H
    have c4b0 : decide (24 < (a0.size : Int)) = false := decide_eq_false c4
    have c4b1 : decide (24 < a0.size) = false := decide_eq_false (by omega)
    clear c4
    by_cases c5 : 0 < (a0.size : Int)
    case neg => rw [if_neg c5] at H;exact absurd H (by simp)
    rw [if_pos c5] at H
    have c5b0 : decide (0 < (a0.size : Int)) = true := decide_eq_true c5
    have c5b1 : decide (0 < a0.size) = true := decide_eq_true (by omega)
    clear c5
    replace H := Option.bind_eq_some_iff.mp H
    obtain ⟨t282,A70,H⟩ := H
    replace H : (plenumref07_Name.j0 k a0 (!t282)) = some r := H
    have A7 := Yd A70
    clear A70
    have H' := Yd H
    clear H
    have p6 : 0 ≤ (0 : Int) := (by omega)
    have q6 : 0 < a0.size := (by have : (0 : Int) < (a0.size : Int) := Y9;omega)
    have hx6 : ∀ h : 0 < a0.size,((a0[0]'h).toNat : Int) = bt a0 0 := bt_at a0 0
    clear p6
    have qi6 : (0 < (a0.size : Int)) = True := eq_true (Y9)
    replace q6 := eq_true q6
    go_wp2_with (first | (go_at_call 48;(with_reducible refine (plenumref07_Lower.calls (bt a0 0) t282 _ A7.out).mono ?_);rintro e w' ⟨rfl,⟨nd,rfl⟩⟩))
    go_meet
    case rel => exact ⟨_,(!t282),Y12,H',⟨by first | omega | exact Nat.le_refl _⟩,by repeat (first | exact Drawn0.refl _ | apply Drawn0.step)⟩
 case rest =>
  clear HC2
  try clear c2
  try clear p2
  try clear c3
  try clear c3b0
  try clear c3b1
  try clear c4
  try clear c4b0
  try clear c4b1
  try clear c5
  try clear c5b0
  try clear c5b1
  try clear p6
  try clear q6
  try clear hx6
  try clear qi6
  try clear p6
  try clear q6
  obtain ⟨kq,x17_1,rfl,HA,HJ1,⟨mc1,rfl⟩⟩ := hcut
  cases kq with
  | zero => exact absurd HA.out (by simp [plenumref07_Name.j0])
  | succ kj1 =>
   have H := HA.out
   clear HA
   simp only [plenumref07_Name.j0] at H
   by_cases c8 : x17_1 = true
   ·subst c8
    have H1 : (some false) = some r := by rw [if_pos rfl] at H;exact H
    clear H
    have H := H1
    clear H1
    obtain rfl := Option.some.inj H
    go_wp2
    go_ret
    exact ⟨by first | rfl | (simp;done) | (simp [*];done),by repeat (first | exact Drawn0.refl _ | apply Drawn0.step)⟩
   ·replace c8 := Bool.eq_false_iff.mpr c8
    subst c8
    have H1 : (plenumref07_Name.l0 kj1 a0 1) = some r := by rw [if_neg (show ¬ (false = true) by decide)] at H;exact H
    clear H
    have H := H1
    clear H1
    have H' := Yd H
    clear H
    go_wp2
    go_loopg [3] kj1 (fun kq v3 w' => ∃ (x3_2 : Int),v3 = .int .i64 x3_2 ∧ Aside0 (plenumref07_Name.l0 kq a0 x3_2 = some r) ∧ Aside0 (kq ≤ kj1) ∧ Drawn0 w w')
    case atStart => exact ⟨(1),Y12,H',⟨Nat.le_refl _⟩,by repeat (first | exact Drawn0.refl _ | apply Drawn0.step)⟩
    case round =>
     clear H'
     try clear c1
     try clear c2
     try clear p2
     try clear c3
     try clear c3b0
     try clear c3b1
     try clear c4
     try clear c4b0
     try clear c4b1
     try clear c5
     try clear c5b0
     try clear c5b1
     try clear p6
     try clear q6
     try clear hx6
     try clear qi6
     try clear c8
     try clear p2
     try clear p6
     try clear q6
     obtain ⟨x3_2,rfl,HA,HK2,⟨m2,rfl⟩⟩ := hrel
     cases gk with
     | zero => exact absurd HA.out (by simp [plenumref07_Name.l0])
     | succ k2 =>
      have H := HA.out
      clear HA
      simp only [plenumref07_Name.l0] at H
      by_cases c9 : x3_2 < (a0.size : Int)
      ·rw [if_pos c9] at H
       have c9b0 : decide (x3_2 < (a0.size : Int)) = true := decide_eq_true c9
       clear c9
       have HC10 := Yd H
       clear H
       go_upto_region 6 with (fail)
       go_cut [41] (fun v41 wc => ∃ (kq : Nat) (x41_9 : Bool),v41 = .bool x41_9 ∧ Aside0 (plenumref07_Name.j2 kq a0 x3_2 x41_9 = some r) ∧ Aside0 (kq ≤ k2) ∧ Drawn0 w wc)
       case first =>
        have H := HC10.out
        clear HC10
        by_cases c11 : 0 ≤ x3_2
        case neg => rw [if_neg c11] at H;exact absurd H (by simp)
        rw [if_pos c11] at H
        have c11b0 : decide (0 ≤ x3_2) = true := decide_eq_true c11
        clear c11
        (first | rw [c11b0] | (simp only [i64_w,i32_w];rw [c11b0]) | skip)
        replace H := Option.bind_eq_some_iff.mp H
        obtain ⟨t283,A130,H⟩ := H
        replace H : (if t283 = true then (plenumref07_Name.j2 k2 a0 x3_2 false) else ((plenumref07_Digit.f (bt a0 x3_2)).bind fun t284 => (if t284 = true then (plenumref07_Name.j2 k2 a0 x3_2 false) else (plenumref07_Name.j2 k2 a0 x3_2 ((bt a0 x3_2) != 95))))) = some r := H
        have A13 := Yd A130
        clear A130
        by_cases c14 : t283 = true
        ·subst c14
         have H1 : (plenumref07_Name.j2 k2 a0 x3_2 false) = some r := by rw [if_pos rfl] at H;exact H
         clear H
         have H := H1
         clear H1
         have H' := Yd H
         clear H
         have p12 : 0 ≤ (x3_2 : Int) := Y9
         have q12 : x3_2 < (a0.size : Int) := Y9
         have hx12 := bt_at a0 x3_2
         replace p12 := eq_true p12
         replace q12 := eq_true q12
         go_wp2_with (first | ((with_reducible refine gate_callee (f := 48) rfl ?_);refine goesL_ (some 27) rfl rfl Try.func48 (by kernel_rfl) rfl #[.int .u8 (bt a0 x3_2)] rfl Y8 ?_;(with_reducible refine (plenumref07_Lower.calls (bt a0 x3_2) true _ A13.out).mono ?_);rintro e w' ⟨rfl,⟨nd,rfl⟩⟩;refine ⟨_,rfl,?_⟩))
         go_meet
         case rel => exact ⟨_,(false),Y12,H',⟨by have := HJ1.out;have := HK2.out;first | omega | exact Nat.le_refl _⟩,by repeat (first | exact Drawn0.refl _ | apply Drawn0.step)⟩
        ·replace c14 := Bool.eq_false_iff.mpr c14
         subst c14
         have H1 : ((plenumref07_Digit.f (bt a0 x3_2)).bind fun t284 => (if t284 = true then (plenumref07_Name.j2 k2 a0 x3_2 false) else (plenumref07_Name.j2 k2 a0 x3_2 ((bt a0 x3_2) != 95)))) = some r := by rw [if_neg (show ¬ (false = true) by decide)] at H;exact H
         clear H
         have H := H1
         clear H1
         replace H := Option.bind_eq_some_iff.mp H
         obtain ⟨t284,A160,H⟩ := H
         replace H : (if t284 = true then (plenumref07_Name.j2 k2 a0 x3_2 false) else (plenumref07_Name.j2 k2 a0 x3_2 ((bt a0 x3_2) != 95))) = some r := H
         have A16 := Yd A160
         clear A160
         by_cases c17 : t284 = true
         ·subst c17
          have H1 : (plenumref07_Name.j2 k2 a0 x3_2 false) = some r := by rw [if_pos rfl] at H;exact H
          clear H
          have H := H1
          clear H1
          have H' := Yd H
          clear H
          have p12 : 0 ≤ (x3_2 : Int) := Y9
          have q12 : x3_2 < (a0.size : Int) := Y9
          have hx12 := bt_at a0 x3_2
          replace p12 := eq_true p12
          replace q12 := eq_true q12
          go_wp2_with (first | ((with_reducible refine gate_callee (f := 48) rfl ?_);refine goesL_ (some 27) rfl rfl Try.func48 (by kernel_rfl) rfl #[.int .u8 (bt a0 x3_2)] rfl Y8 ?_;(with_reducible refine (plenumref07_Lower.calls (bt a0 x3_2) false _ A13.out).mono ?_);rintro e w' ⟨rfl,⟨nd,rfl⟩⟩;refine ⟨_,rfl,?_⟩;have p15 : 0 ≤ (x3_2 : Int) := Y9;have q15 : x3_2 < (a0.size : Int) := Y9;have hx15 := bt_at a0 x3_2;replace p15 := eq_true p15;replace q15 := eq_true q15) | (go_at_call 49;(with_reducible refine (plenumref07_Digit.calls (bt a0 x3_2) true _ A16.out).mono ?_);rintro e w' ⟨rfl,⟨nd,rfl⟩⟩))
          go_meet
          case rel => exact ⟨_,(false),Y12,H',⟨by have := HJ1.out;have := HK2.out;first | omega | exact Nat.le_refl _⟩,by repeat (first | exact Drawn0.refl _ | apply Drawn0.step)⟩
         ·replace c17 := Bool.eq_false_iff.mpr c17
          subst c17
          have H1 : (plenumref07_Name.j2 k2 a0 x3_2 ((bt a0 x3_2) != 95)) = some r := by rw [if_neg (show ¬ (false = true) by decide)] at H;exact H
          clear H
          have H := H1
          clear H1
          have H' := Yd H
          clear H
          have p12 : 0 ≤ (x3_2 : Int) := Y9
          have q12 : x3_2 < (a0.size : Int) := Y9
          have hx12 := bt_at a0 x3_2
          replace p12 := eq_true p12
          replace q12 := eq_true q12
          go_wp2_with (first | ((with_reducible refine gate_callee (f := 48) rfl ?_);refine goesL_ (some 27) rfl rfl Try.func48 (by kernel_rfl) rfl #[.int .u8 (bt a0 x3_2)] rfl Y8 ?_;(with_reducible refine (plenumref07_Lower.calls (bt a0 x3_2) false _ A13.out).mono ?_);rintro e w' ⟨rfl,⟨nd,rfl⟩⟩;refine ⟨_,rfl,?_⟩;have p15 : 0 ≤ (x3_2 : Int) := Y9;have q15 : x3_2 < (a0.size : Int) := Y9;have hx15 := bt_at a0 x3_2;replace p15 := eq_true p15;replace q15 := eq_true q15) | (go_at_call 49;(with_reducible refine (plenumref07_Digit.calls (bt a0 x3_2) false _ A16.out).mono ?_);rintro e w' ⟨rfl,⟨nd,rfl⟩⟩;have p18 : 0 ≤ (x3_2 : Int) := Y9;have q18 : x3_2 < (a0.size : Int) := Y9;have hx18 := bt_at a0 x3_2;replace p18 := eq_true p18;replace q18 := eq_true q18))
          go_meet
          case rel => exact ⟨_,(((bt a0 x3_2) != 95)),Y12,H',⟨by have := HJ1.out;have := HK2.out;first | omega | exact Nat.le_refl _⟩,by repeat (first | exact Drawn0.refl _ | apply Drawn0.step)⟩
       case rest =>
        clear HC10
        try clear c1
        try clear p1
        try clear q1
        try clear hx1
        try clear c2
        try clear p2
        try clear c3
        try clear c3b0
        try clear c3b1
        try clear c4
        try clear c4b0
        try clear c4b1
        try clear c5
        try clear c5b0
        try clear c5b1
        try clear p6
        try clear q6
        try clear hx6
        try clear qi6
        try clear c8
        try clear c9
        try clear c9b0
        try clear c11
        try clear c11b0
        try clear p12
        try clear q12
        try clear hx12
        try clear c14
        try clear p15
        try clear q15
        try clear hx15
        try clear c17
        try clear p18
        try clear q18
        try clear hx18
        try clear p12
        try clear p15
        try clear p18
        try clear p2
        try clear p6
        try clear q12
        try clear q15
        try clear q18
        try clear q6
        obtain ⟨kq,x41_9,rfl,HA,HJ9,⟨mc9,rfl⟩⟩ := hcut
        cases kq with
        | zero => exact absurd HA.out (by simp [plenumref07_Name.j2])
        | succ kj9 =>
         have H := HA.out
         clear HA
         simp only [plenumref07_Name.j2] at H
         by_cases c19 : x41_9 = true
         ·subst c19
          have H1 : (some false) = some r := by rw [if_pos rfl] at H;exact H
          clear H
          have H := H1
          clear H1
          obtain rfl := Option.some.inj H
          go_wp2
          go_ret
          exact ⟨by first | rfl | (simp;done) | (simp [*];done),by repeat (first | exact Drawn0.refl _ | apply Drawn0.step)⟩
         ·replace c19 := Bool.eq_false_iff.mpr c19
          subst c19
          have H1 : (plenumref07_Name.l0 kj9 a0 (wrap64 (x3_2 + 1))) = some r := by rw [if_neg (show ¬ (false = true) by decide)] at H;exact H
          clear H
          have H := H1
          clear H1
          have H' := Yd H
          clear H
          go_wp2
          go_roundg kj9
          case measure => have := HJ1.out;have := HK2.out;have := HJ9.out;omega
          case rel => exact ⟨(wrap64 (x3_2 + 1)),Y12,H',⟨by have := HJ1.out;have := HK2.out;have := HJ9.out;omega⟩,by repeat (first | exact Drawn0.refl _ | apply Drawn0.step)⟩
      ·rw [if_neg c9] at H
       have c9b0 : decide (x3_2 < (a0.size : Int)) = false := decide_eq_false c9
       clear c9
       obtain rfl := Option.some.inj H
       go_wp2
       go_ret
       exact ⟨by first | rfl | (simp;done) | (simp [*];done),by repeat (first | exact Drawn0.refl _ | apply Drawn0.step)⟩
def plenumref56_ranges.f (a0_0 : ByteArray) (a0_1 : Int) (a0_2 : Int) (a0_3 : Int) (a0_4 : Int) : Option (Bool) := if a0_1 ≥ 1 then (if a0_1 ≤ 100 then (if a0_2 ≥ 0 then (if a0_2 ≤ 15625000000 then (if a0_3 ≥ 0 then (if a0_3 ≤ 86400 then (if a0_4 ≥ 0 then (some (decide (a0_4 ≤ 86400))) else (some false)) else (some false)) else (some false)) else (some false)) else (some false)) else (some false)) else (some false)
set_option maxHeartbeats 100000000 in
set_option maxRecDepth 100000 in
theorem plenumref56_ranges.calls (a0_0 : ByteArray) (a0_1 : Int) (a0_2 : Int) (a0_3 : Int) (a0_4 : Int) (r : Bool) (w : World) (h : plenumref56_ranges.f a0_0 a0_1 a0_2 a0_3 a0_4 = some r) :
  Calls Try.prog 29 #[.agg #[.string a0_0,.int .i64 a0_1,.int .i64 a0_2,.int .i64 a0_3,.int .i64 a0_4]] w fun e w' => e = .returned (.bool r) ∧ Below w.heap.size w w' := by
 have hu43 := Try.underlying43
 have HB := Yd (Below.refl w.heap.size w)
 have H : (if a0_1 ≥ 1 then (if a0_1 ≤ 100 then (if a0_2 ≥ 0 then (if a0_2 ≤ 15625000000 then (if a0_3 ≥ 0 then (if a0_3 ≤ 86400 then (if a0_4 ≥ 0 then (some (decide (a0_4 ≤ 86400))) else (some false)) else (some false)) else (some false)) else (some false)) else (some false)) else (some false)) else (some false)) = some r := h
 clear h
 by_cases c2 : a0_1 ≥ 1
 ·rw [if_pos c2] at H
  have c2b0 : decide (1 ≤ a0_1) = true := decide_eq_true c2
  clear c2
  by_cases c3 : a0_1 ≤ 100
  ·rw [if_pos c3] at H
   have c3b0 : decide (a0_1 ≤ 100) = true := decide_eq_true c3
   clear c3
   by_cases c4 : a0_2 ≥ 0
   ·rw [if_pos c4] at H
    have c4b0 : decide (0 ≤ a0_2) = true := decide_eq_true c4
    clear c4
    by_cases c5 : a0_2 ≤ 15625000000
    ·rw [if_pos c5] at H
     have c5b0 : decide (a0_2 ≤ 15625000000) = true := decide_eq_true c5
     clear c5
     by_cases c6 : a0_3 ≥ 0
     ·rw [if_pos c6] at H
      have c6b0 : decide (0 ≤ a0_3) = true := decide_eq_true c6
      clear c6
      by_cases c7 : a0_3 ≤ 86400
      ·rw [if_pos c7] at H
       have c7b0 : decide (a0_3 ≤ 86400) = true := decide_eq_true c7
       clear c7
       by_cases c8 : a0_4 ≥ 0
       ·rw [if_pos c8] at H
        have c8b0 : decide (0 ≤ a0_4) = true := decide_eq_true c8
        clear c8
        obtain rfl := Option.some.inj H
        go_enter Try.func29,Try.ntmps29
        go_wp2_with (first | ((with_reducible refine gate_dst (N := 1) rfl ?_);refine box_event ?hg (N := 1) ?hd (cs := #[.string a0_0,.int .i64 a0_1,.int .i64 a0_2,.int .i64 a0_3,.int .i64 a0_4]) (t := 43) ?hr ?_;(case hd => rfl);(case hg => rfl);(case hr => first | (go_simp;done) | (go_simp;rfl));intro gb285 hg w9 hbox hb;have n0_ := Yd (below_step (Y3 HB.out) hb);have n1_ := Yd (hbox);have n2_ := Yd ((by rw [hg];exact (below_size (Y3 HB.out)) : w.heap.size ≤ gb285));have n3_ := Yd ((by rw [hg];exact (below_size (Y3 HB.out)) : w.heap.size ≤ gb285));clear HB;have HB := n0_;have BK285 := n1_;have GW285 := n2_;have GE285 := n3_;clear n0_ n1_ n2_ n3_;clear hb hbox hg;have hcz10_0 : w9.cell? ⟨gb285,0,none⟩ = some (.string a0_0) := (blk_cell BK285.out 0).trans rfl;have hcz10_1 : w9.cell? ⟨gb285,1,none⟩ = some (.int .i64 a0_1) := (blk_cell BK285.out 1).trans rfl;have hcz10_2 : w9.cell? ⟨gb285,2,none⟩ = some (.int .i64 a0_2) := (blk_cell BK285.out 2).trans rfl;have hcz10_3 : w9.cell? ⟨gb285,3,none⟩ = some (.int .i64 a0_3) := (blk_cell BK285.out 3).trans rfl;have hcz10_4 : w9.cell? ⟨gb285,4,none⟩ = some (.int .i64 a0_4) := (blk_cell BK285.out 4).trans rfl;have hfz10_0 := blk_frozen BK285.out 0;have hfz10_1 := blk_frozen BK285.out 1;have hfz10_2 := blk_frozen BK285.out 2;have hfz10_3 := blk_frozen BK285.out 3;have hfz10_4 := blk_frozen BK285.out 4))
        go_ret
        exact ⟨by first | rfl | (simp [errW_none,errW_some] <;> rfl) | (simp [*,errW_none,errW_some] <;> rfl),by repeat (first | (with_reducible first | exact HB.out | apply below_alloc | apply Y15 | apply below_drew1 | refine below_set ?_ GE285.out) | exact HB.out)⟩
       ·rw [if_neg c8] at H
        have c8b0 : decide (0 ≤ a0_4) = false := decide_eq_false c8
        clear c8
        obtain rfl := Option.some.inj H
        go_enter Try.func29,Try.ntmps29
        go_wp2_with (first | ((with_reducible refine gate_dst (N := 1) rfl ?_);refine box_event ?hg (N := 1) ?hd (cs := #[.string a0_0,.int .i64 a0_1,.int .i64 a0_2,.int .i64 a0_3,.int .i64 a0_4]) (t := 43) ?hr ?_;(case hd => rfl);(case hg => rfl);(case hr => first | (go_simp;done) | (go_simp;rfl));intro gb285 hg w11 hbox hb;have n0_ := Yd (below_step (Y3 HB.out) hb);have n1_ := Yd (hbox);have n2_ := Yd ((by rw [hg];exact (below_size (Y3 HB.out)) : w.heap.size ≤ gb285));have n3_ := Yd ((by rw [hg];exact (below_size (Y3 HB.out)) : w.heap.size ≤ gb285));clear HB;have HB := n0_;have BK285 := n1_;have GW285 := n2_;have GE285 := n3_;clear n0_ n1_ n2_ n3_;clear hb hbox hg;have hcz12_0 : w11.cell? ⟨gb285,0,none⟩ = some (.string a0_0) := (blk_cell BK285.out 0).trans rfl;have hcz12_1 : w11.cell? ⟨gb285,1,none⟩ = some (.int .i64 a0_1) := (blk_cell BK285.out 1).trans rfl;have hcz12_2 : w11.cell? ⟨gb285,2,none⟩ = some (.int .i64 a0_2) := (blk_cell BK285.out 2).trans rfl;have hcz12_3 : w11.cell? ⟨gb285,3,none⟩ = some (.int .i64 a0_3) := (blk_cell BK285.out 3).trans rfl;have hcz12_4 : w11.cell? ⟨gb285,4,none⟩ = some (.int .i64 a0_4) := (blk_cell BK285.out 4).trans rfl;have hfz12_0 := blk_frozen BK285.out 0;have hfz12_1 := blk_frozen BK285.out 1;have hfz12_2 := blk_frozen BK285.out 2;have hfz12_3 := blk_frozen BK285.out 3;have hfz12_4 := blk_frozen BK285.out 4))
        go_ret
        exact ⟨by first | rfl | (simp [errW_none,errW_some] <;> rfl) | (simp [*,errW_none,errW_some] <;> rfl),by repeat (first | (with_reducible first | exact HB.out | apply below_alloc | apply Y15 | apply below_drew1 | refine below_set ?_ GE285.out) | exact HB.out)⟩
      ·rw [if_neg c7] at H
       have c7b0 : decide (a0_3 ≤ 86400) = false := decide_eq_false c7
       clear c7
       obtain rfl := Option.some.inj H
       go_enter Try.func29,Try.ntmps29
       go_wp2_with (first | ((with_reducible refine gate_dst (N := 1) rfl ?_);refine box_event ?hg (N := 1) ?hd (cs := #[.string a0_0,.int .i64 a0_1,.int .i64 a0_2,.int .i64 a0_3,.int .i64 a0_4]) (t := 43) ?hr ?_;(case hd => rfl);(case hg => rfl);(case hr => first | (go_simp;done) | (go_simp;rfl));intro gb285 hg w13 hbox hb;have n0_ := Yd (below_step (Y3 HB.out) hb);have n1_ := Yd (hbox);have n2_ := Yd ((by rw [hg];exact (below_size (Y3 HB.out)) : w.heap.size ≤ gb285));have n3_ := Yd ((by rw [hg];exact (below_size (Y3 HB.out)) : w.heap.size ≤ gb285));clear HB;have HB := n0_;have BK285 := n1_;have GW285 := n2_;have GE285 := n3_;clear n0_ n1_ n2_ n3_;clear hb hbox hg;have hcz14_0 : w13.cell? ⟨gb285,0,none⟩ = some (.string a0_0) := (blk_cell BK285.out 0).trans rfl;have hcz14_1 : w13.cell? ⟨gb285,1,none⟩ = some (.int .i64 a0_1) := (blk_cell BK285.out 1).trans rfl;have hcz14_2 : w13.cell? ⟨gb285,2,none⟩ = some (.int .i64 a0_2) := (blk_cell BK285.out 2).trans rfl;have hcz14_3 : w13.cell? ⟨gb285,3,none⟩ = some (.int .i64 a0_3) := (blk_cell BK285.out 3).trans rfl;have hcz14_4 : w13.cell? ⟨gb285,4,none⟩ = some (.int .i64 a0_4) := (blk_cell BK285.out 4).trans rfl;have hfz14_0 := blk_frozen BK285.out 0;have hfz14_1 := blk_frozen BK285.out 1;have hfz14_2 := blk_frozen BK285.out 2;have hfz14_3 := blk_frozen BK285.out 3;have hfz14_4 := blk_frozen BK285.out 4))
       go_ret
       exact ⟨by first | rfl | (simp [errW_none,errW_some] <;> rfl) | (simp [*,errW_none,errW_some] <;> rfl),by repeat (first | (with_reducible first | exact HB.out | apply below_alloc | apply Y15 | apply below_drew1 | refine below_set ?_ GE285.out) | exact HB.out)⟩
     ·rw [if_neg c6] at H
      have c6b0 : decide (0 ≤ a0_3) = false := decide_eq_false c6
      clear c6
      obtain rfl := Option.some.inj H
      go_enter Try.func29,Try.ntmps29
      go_wp2_with (first | ((with_reducible refine gate_dst (N := 1) rfl ?_);refine box_event ?hg (N := 1) ?hd (cs := #[.string a0_0,.int .i64 a0_1,.int .i64 a0_2,.int .i64 a0_3,.int .i64 a0_4]) (t := 43) ?hr ?_;(case hd => rfl);(case hg => rfl);(case hr => first | (go_simp;done) | (go_simp;rfl));intro gb285 hg w15 hbox hb;have n0_ := Yd (below_step (Y3 HB.out) hb);have n1_ := Yd (hbox);have n2_ := Yd ((by rw [hg];exact (below_size (Y3 HB.out)) : w.heap.size ≤ gb285));have n3_ := Yd ((by rw [hg];exact (below_size (Y3 HB.out)) : w.heap.size ≤ gb285));clear HB;have HB := n0_;have BK285 := n1_;have GW285 := n2_;have GE285 := n3_;clear n0_ n1_ n2_ n3_;clear hb hbox hg;have hcz16_0 : w15.cell? ⟨gb285,0,none⟩ = some (.string a0_0) := (blk_cell BK285.out 0).trans rfl;have hcz16_1 : w15.cell? ⟨gb285,1,none⟩ = some (.int .i64 a0_1) := (blk_cell BK285.out 1).trans rfl;have hcz16_2 : w15.cell? ⟨gb285,2,none⟩ = some (.int .i64 a0_2) := (blk_cell BK285.out 2).trans rfl;have hcz16_3 : w15.cell? ⟨gb285,3,none⟩ = some (.int .i64 a0_3) := (blk_cell BK285.out 3).trans rfl;have hcz16_4 : w15.cell? ⟨gb285,4,none⟩ = some (.int .i64 a0_4) := (blk_cell BK285.out 4).trans rfl;have hfz16_0 := blk_frozen BK285.out 0;have hfz16_1 := blk_frozen BK285.out 1;have hfz16_2 := blk_frozen BK285.out 2;have hfz16_3 := blk_frozen BK285.out 3;have hfz16_4 := blk_frozen BK285.out 4))
      go_ret
      exact ⟨by first | rfl | (simp [errW_none,errW_some] <;> rfl) | (simp [*,errW_none,errW_some] <;> rfl),by repeat (first | (with_reducible first | exact HB.out | apply below_alloc | apply Y15 | apply below_drew1 | refine below_set ?_ GE285.out) | exact HB.out)⟩
    ·rw [if_neg c5] at H
     have c5b0 : decide (a0_2 ≤ 15625000000) = false := decide_eq_false c5
     clear c5
     obtain rfl := Option.some.inj H
     go_enter Try.func29,Try.ntmps29
     go_wp2_with (first | ((with_reducible refine gate_dst (N := 1) rfl ?_);refine box_event ?hg (N := 1) ?hd (cs := #[.string a0_0,.int .i64 a0_1,.int .i64 a0_2,.int .i64 a0_3,.int .i64 a0_4]) (t := 43) ?hr ?_;(case hd => rfl);(case hg => rfl);(case hr => first | (go_simp;done) | (go_simp;rfl));intro gb285 hg w17 hbox hb;have n0_ := Yd (below_step (Y3 HB.out) hb);have n1_ := Yd (hbox);have n2_ := Yd ((by rw [hg];exact (below_size (Y3 HB.out)) : w.heap.size ≤ gb285));have n3_ := Yd ((by rw [hg];exact (below_size (Y3 HB.out)) : w.heap.size ≤ gb285));clear HB;have HB := n0_;have BK285 := n1_;have GW285 := n2_;have GE285 := n3_;clear n0_ n1_ n2_ n3_;clear hb hbox hg;have hcz18_0 : w17.cell? ⟨gb285,0,none⟩ = some (.string a0_0) := (blk_cell BK285.out 0).trans rfl;have hcz18_1 : w17.cell? ⟨gb285,1,none⟩ = some (.int .i64 a0_1) := (blk_cell BK285.out 1).trans rfl;have hcz18_2 : w17.cell? ⟨gb285,2,none⟩ = some (.int .i64 a0_2) := (blk_cell BK285.out 2).trans rfl;have hcz18_3 : w17.cell? ⟨gb285,3,none⟩ = some (.int .i64 a0_3) := (blk_cell BK285.out 3).trans rfl;have hcz18_4 : w17.cell? ⟨gb285,4,none⟩ = some (.int .i64 a0_4) := (blk_cell BK285.out 4).trans rfl;have hfz18_0 := blk_frozen BK285.out 0;have hfz18_1 := blk_frozen BK285.out 1;have hfz18_2 := blk_frozen BK285.out 2;have hfz18_3 := blk_frozen BK285.out 3;have hfz18_4 := blk_frozen BK285.out 4))
     go_ret
     exact ⟨by first | rfl | (simp [errW_none,errW_some] <;> rfl) | (simp [*,errW_none,errW_some] <;> rfl),by repeat (first | (with_reducible first | exact HB.out | apply below_alloc | apply Y15 | apply below_drew1 | refine below_set ?_ GE285.out) | exact HB.out)⟩
   ·rw [if_neg c4] at H
    have c4b0 : decide (0 ≤ a0_2) = false := decide_eq_false c4
    clear c4
    obtain rfl := Option.some.inj H
    go_enter Try.func29,Try.ntmps29
    go_wp2_with (first | ((with_reducible refine gate_dst (N := 1) rfl ?_);refine box_event ?hg (N := 1) ?hd (cs := #[.string a0_0,.int .i64 a0_1,.int .i64 a0_2,.int .i64 a0_3,.int .i64 a0_4]) (t := 43) ?hr ?_;(case hd => rfl);(case hg => rfl);(case hr => first | (go_simp;done) | (go_simp;rfl));intro gb285 hg w19 hbox hb;have n0_ := Yd (below_step (Y3 HB.out) hb);have n1_ := Yd (hbox);have n2_ := Yd ((by rw [hg];exact (below_size (Y3 HB.out)) : w.heap.size ≤ gb285));have n3_ := Yd ((by rw [hg];exact (below_size (Y3 HB.out)) : w.heap.size ≤ gb285));clear HB;have HB := n0_;have BK285 := n1_;have GW285 := n2_;have GE285 := n3_;clear n0_ n1_ n2_ n3_;clear hb hbox hg;have hcz20_0 : w19.cell? ⟨gb285,0,none⟩ = some (.string a0_0) := (blk_cell BK285.out 0).trans rfl;have hcz20_1 : w19.cell? ⟨gb285,1,none⟩ = some (.int .i64 a0_1) := (blk_cell BK285.out 1).trans rfl;have hcz20_2 : w19.cell? ⟨gb285,2,none⟩ = some (.int .i64 a0_2) := (blk_cell BK285.out 2).trans rfl;have hcz20_3 : w19.cell? ⟨gb285,3,none⟩ = some (.int .i64 a0_3) := (blk_cell BK285.out 3).trans rfl;have hcz20_4 : w19.cell? ⟨gb285,4,none⟩ = some (.int .i64 a0_4) := (blk_cell BK285.out 4).trans rfl;have hfz20_0 := blk_frozen BK285.out 0;have hfz20_1 := blk_frozen BK285.out 1;have hfz20_2 := blk_frozen BK285.out 2;have hfz20_3 := blk_frozen BK285.out 3;have hfz20_4 := blk_frozen BK285.out 4))
    go_ret
    exact ⟨by first | rfl | (simp [errW_none,errW_some] <;> rfl) | (simp [*,errW_none,errW_some] <;> rfl),by repeat (first | (with_reducible first | exact HB.out | apply below_alloc | apply Y15 | apply below_drew1 | refine below_set ?_ GE285.out) | exact HB.out)⟩
  ·rw [if_neg c3] at H
   have c3b0 : decide (a0_1 ≤ 100) = false := decide_eq_false c3
   clear c3
   obtain rfl := Option.some.inj H
   go_enter Try.func29,Try.ntmps29
   go_wp2_with (first | ((with_reducible refine gate_dst (N := 1) rfl ?_);refine box_event ?hg (N := 1) ?hd (cs := #[.string a0_0,.int .i64 a0_1,.int .i64 a0_2,.int .i64 a0_3,.int .i64 a0_4]) (t := 43) ?hr ?_;(case hd => rfl);(case hg => rfl);(case hr => first | (go_simp;done) | (go_simp;rfl));intro gb285 hg w21 hbox hb;have n0_ := Yd (below_step (Y3 HB.out) hb);have n1_ := Yd (hbox);have n2_ := Yd ((by rw [hg];exact (below_size (Y3 HB.out)) : w.heap.size ≤ gb285));have n3_ := Yd ((by rw [hg];exact (below_size (Y3 HB.out)) : w.heap.size ≤ gb285));clear HB;have HB := n0_;have BK285 := n1_;have GW285 := n2_;have GE285 := n3_;clear n0_ n1_ n2_ n3_;clear hb hbox hg;have hcz22_0 : w21.cell? ⟨gb285,0,none⟩ = some (.string a0_0) := (blk_cell BK285.out 0).trans rfl;have hcz22_1 : w21.cell? ⟨gb285,1,none⟩ = some (.int .i64 a0_1) := (blk_cell BK285.out 1).trans rfl;have hcz22_2 : w21.cell? ⟨gb285,2,none⟩ = some (.int .i64 a0_2) := (blk_cell BK285.out 2).trans rfl;have hcz22_3 : w21.cell? ⟨gb285,3,none⟩ = some (.int .i64 a0_3) := (blk_cell BK285.out 3).trans rfl;have hcz22_4 : w21.cell? ⟨gb285,4,none⟩ = some (.int .i64 a0_4) := (blk_cell BK285.out 4).trans rfl;have hfz22_0 := blk_frozen BK285.out 0;have hfz22_1 := blk_frozen BK285.out 1;have hfz22_2 := blk_frozen BK285.out 2;have hfz22_3 := blk_frozen BK285.out 3;have hfz22_4 := blk_frozen BK285.out 4))
   go_ret
   exact ⟨by first | rfl | (simp [errW_none,errW_some] <;> rfl) | (simp [*,errW_none,errW_some] <;> rfl),by repeat (first | (with_reducible first | exact HB.out | apply below_alloc | apply Y15 | apply below_drew1 | refine below_set ?_ GE285.out) | exact HB.out)⟩
 ·rw [if_neg c2] at H
  have c2b0 : decide (1 ≤ a0_1) = false := decide_eq_false c2
  clear c2
  obtain rfl := Option.some.inj H
  go_enter Try.func29,Try.ntmps29
  go_wp2_with (first | ((with_reducible refine gate_dst (N := 1) rfl ?_);refine box_event ?hg (N := 1) ?hd (cs := #[.string a0_0,.int .i64 a0_1,.int .i64 a0_2,.int .i64 a0_3,.int .i64 a0_4]) (t := 43) ?hr ?_;(case hd => rfl);(case hg => rfl);(case hr => first | (go_simp;done) | (go_simp;rfl));intro gb285 hg w23 hbox hb;have n0_ := Yd (below_step (Y3 HB.out) hb);have n1_ := Yd (hbox);have n2_ := Yd ((by rw [hg];exact (below_size (Y3 HB.out)) : w.heap.size ≤ gb285));have n3_ := Yd ((by rw [hg];exact (below_size (Y3 HB.out)) : w.heap.size ≤ gb285));clear HB;have HB := n0_;have BK285 := n1_;have GW285 := n2_;have GE285 := n3_;clear n0_ n1_ n2_ n3_;clear hb hbox hg;have hcz24_0 : w23.cell? ⟨gb285,0,none⟩ = some (.string a0_0) := (blk_cell BK285.out 0).trans rfl;have hcz24_1 : w23.cell? ⟨gb285,1,none⟩ = some (.int .i64 a0_1) := (blk_cell BK285.out 1).trans rfl;have hcz24_2 : w23.cell? ⟨gb285,2,none⟩ = some (.int .i64 a0_2) := (blk_cell BK285.out 2).trans rfl;have hcz24_3 : w23.cell? ⟨gb285,3,none⟩ = some (.int .i64 a0_3) := (blk_cell BK285.out 3).trans rfl;have hcz24_4 : w23.cell? ⟨gb285,4,none⟩ = some (.int .i64 a0_4) := (blk_cell BK285.out 4).trans rfl;have hfz24_0 := blk_frozen BK285.out 0;have hfz24_1 := blk_frozen BK285.out 1;have hfz24_2 := blk_frozen BK285.out 2;have hfz24_3 := blk_frozen BK285.out 3;have hfz24_4 := blk_frozen BK285.out 4))
  go_ret
  exact ⟨by first | rfl | (simp [errW_none,errW_some] <;> rfl) | (simp [*,errW_none,errW_some] <;> rfl),by repeat (first | (with_reducible first | exact HB.out | apply below_alloc | apply Y15 | apply below_drew1 | refine below_set ?_ GE285.out) | exact HB.out)⟩
end Go.Proofs.Ytcdjhdfjkfbgdaa.PD56
namespace Go.Proofs.Ytcdjhdfjkfbgdaa.PD56
open Go.RowKit Go.Proofs.YtcdjhdfjkfbgdaaW.PrintWords Go.Proofs.YtcdjhdfjkfbgdaaW.PrintLast Go.Proofs.YtcdjhdfjkfbgdaaW.PrintMore
attribute [local go_sem] max2_int min2_int max_two min_two max_three min_three max_four min_four
mutual
def plenumref56_Check.l0 : Nat → List (S43) → Int → Option (Int)
 | 0,_,_ => none
 | k + 1,x0,x3 => if x3 < (x0.length : Int) then (if 0 ≤ x3 then ((plenumref07_Name.f k ((rd_T43 x0 x3).f0)).bind fun t287 => (if t287 = true then (plenumref56_Check.l0 k x0 (wrap64 (x3 + 1))) else (some 4))) else (none)) else (plenumref56_Check.l1 k x0 0)
def plenumref56_Check.l1 : Nat → List (S43) → Int → Option (Int)
 | 0,_,_ => none
 | k + 1,x0,x4 => if x4 < (x0.length : Int) then (plenumref56_Check.l2 k x0 x4 0) else (plenumref56_Check.l3 k x0 0)
def plenumref56_Check.l2 : Nat → List (S43) → Int → Int → Option (Int)
 | 0,_,_,_ => none
 | k + 1,x0,x4,x5 => if x5 < x4 then (if 0 ≤ x4 then (if x4 < (x0.length : Int) then (if 0 ≤ x5 then (if x5 < (x0.length : Int) then (if ((rd_T43 x0 x4).f0).toList = ((rd_T43 x0 x5).f0).toList then (some 5) else (plenumref56_Check.l2 k x0 x4 (wrap64 (x5 + 1)))) else (none)) else (none)) else (none)) else (none)) else (plenumref56_Check.l1 k x0 (wrap64 (x4 + 1)))
def plenumref56_Check.l3 : Nat → List (S43) → Int → Option (Int)
 | 0,_,_ => none
 | k + 1,x0,x6 => if x6 < (x0.length : Int) then (if 0 ≤ x6 then ((plenumref56_ranges.f ((rd_T43 x0 x6).f0) ((rd_T43 x0 x6).f1) ((rd_T43 x0 x6).f2) ((rd_T43 x0 x6).f3) ((rd_T43 x0 x6).f4)).bind fun t291 => (if t291 = true then (plenumref56_Check.l3 k x0 (wrap64 (x6 + 1))) else (some 6))) else (none)) else (some 0)
end
def plenumref56_Check.f (k : Nat) (l0 : List (S43)) : Option (Int) := if (l0.length : Int) > 64 then (some 7) else (plenumref56_Check.l0 k l0 0)
theorem plenumref56_Check.mono_l : ∀ k,(∀ y0 y1,LeO (plenumref56_Check.l0 k y0 y1) (plenumref56_Check.l0 (k + 1) y0 y1)) ∧ (∀ y0 y1,LeO (plenumref56_Check.l1 k y0 y1) (plenumref56_Check.l1 (k + 1) y0 y1)) ∧ (∀ y0 y1 y2,LeO (plenumref56_Check.l2 k y0 y1 y2) (plenumref56_Check.l2 (k + 1) y0 y1 y2)) ∧ (∀ y0 y1,LeO (plenumref56_Check.l3 k y0 y1) (plenumref56_Check.l3 (k + 1) y0 y1))
 | 0 => ⟨fun _ _ r h => by simp [plenumref56_Check.l0] at h,fun _ _ r h => by simp [plenumref56_Check.l1] at h,fun _ _ _ r h => by simp [plenumref56_Check.l2] at h,fun _ _ r h => by simp [plenumref56_Check.l3] at h⟩
 | k + 1 => by
  obtain ⟨ih0,ih1,ih2,ih3⟩ := plenumref56_Check.mono_l k
  refine ⟨?_,?_,?_,?_⟩
  ·intro y0 y1
   unfold plenumref56_Check.l0
   repeat' first
   | (with_reducible exact ih0 _ _)
   | (with_reducible exact ih1 _ _)
   | (with_reducible exact ih2 _ _ _)
   | (with_reducible exact ih3 _ _)
   | (with_reducible exact plenumref07_Name.mono _ _)
   | (with_reducible exact LeO.refl _)
   | (with_reducible exact LeO.none _)
   | (with_reducible refine LeO.ite ?_ ?_)
   | (with_reducible refine LeO.bind ?_ (fun _ => ?_))
   | exact ih0 _ _
   | exact ih1 _ _
   | exact ih2 _ _ _
   | exact ih3 _ _
   | exact plenumref07_Name.mono _ _
   | exact LeO.none _
   | refine LeO.ite ?_ ?_
   | refine LeO.bind ?_ (fun _ => ?_)
  ·intro y0 y1
   unfold plenumref56_Check.l1
   repeat' first
   | (with_reducible exact ih0 _ _)
   | (with_reducible exact ih1 _ _)
   | (with_reducible exact ih2 _ _ _)
   | (with_reducible exact ih3 _ _)
   | (with_reducible exact plenumref07_Name.mono _ _)
   | (with_reducible exact LeO.refl _)
   | (with_reducible exact LeO.none _)
   | (with_reducible refine LeO.ite ?_ ?_)
   | (with_reducible refine LeO.bind ?_ (fun _ => ?_))
   | exact ih0 _ _
   | exact ih1 _ _
   | exact ih2 _ _ _
   | exact ih3 _ _
   | exact plenumref07_Name.mono _ _
   | exact LeO.none _
   | refine LeO.ite ?_ ?_
   | refine LeO.bind ?_ (fun _ => ?_)
  ·intro y0 y1 y2
   unfold plenumref56_Check.l2
   repeat' first
   | (with_reducible exact ih0 _ _)
   | (with_reducible exact ih1 _ _)
   | (with_reducible exact ih2 _ _ _)
   | (with_reducible exact ih3 _ _)
   | (with_reducible exact plenumref07_Name.mono _ _)
   | (with_reducible exact LeO.refl _)
   | (with_reducible exact LeO.none _)
   | (with_reducible refine LeO.ite ?_ ?_)
   | (with_reducible refine LeO.bind ?_ (fun _ => ?_))
   | exact ih0 _ _
   | exact ih1 _ _
   | exact ih2 _ _ _
   | exact ih3 _ _
   | exact plenumref07_Name.mono _ _
   | exact LeO.none _
   | refine LeO.ite ?_ ?_
   | refine LeO.bind ?_ (fun _ => ?_)
  ·intro y0 y1
   unfold plenumref56_Check.l3
   repeat' first
   | (with_reducible exact ih0 _ _)
   | (with_reducible exact ih1 _ _)
   | (with_reducible exact ih2 _ _ _)
   | (with_reducible exact ih3 _ _)
   | (with_reducible exact plenumref07_Name.mono _ _)
   | (with_reducible exact LeO.refl _)
   | (with_reducible exact LeO.none _)
   | (with_reducible refine LeO.ite ?_ ?_)
   | (with_reducible refine LeO.bind ?_ (fun _ => ?_))
   | exact ih0 _ _
   | exact ih1 _ _
   | exact ih2 _ _ _
   | exact ih3 _ _
   | exact plenumref07_Name.mono _ _
   | exact LeO.none _
   | refine LeO.ite ?_ ?_
   | refine LeO.bind ?_ (fun _ => ?_)
theorem plenumref56_Check.mono : ∀ a0 k,LeO (plenumref56_Check.f k a0) (plenumref56_Check.f (k + 1) a0) := by
 intro a0 k
 obtain ⟨ih0,ih1,ih2,ih3⟩ := plenumref56_Check.mono_l k
 unfold plenumref56_Check.f
 repeat' first
   | (with_reducible exact ih0 _ _)
   | (with_reducible exact ih1 _ _)
   | (with_reducible exact ih2 _ _ _)
   | (with_reducible exact ih3 _ _)
   | (with_reducible exact plenumref07_Name.mono _ _)
   | (with_reducible exact LeO.refl _)
   | (with_reducible exact LeO.none _)
   | (with_reducible refine LeO.ite ?_ ?_)
   | (with_reducible refine LeO.bind ?_ (fun _ => ?_))
   | exact ih0 _ _
   | exact ih1 _ _
   | exact ih2 _ _ _
   | exact ih3 _ _
   | exact plenumref07_Name.mono _ _
   | exact LeO.none _
   | refine LeO.ite ?_ ?_
   | refine LeO.bind ?_ (fun _ => ?_)
set_option maxHeartbeats 100000000 in
set_option maxRecDepth 100000 in
theorem plenumref56_Check.calls (k : Nat) (A0 : Option Addr) (c0 : Nat) (l0 : List (S43)) (r : Int) (w : World) (hr0 : Kd.C k43 w A0 l0.length l0) (hc0 : l0.length ≤ c0) (h : plenumref56_Check.f k l0 = some r) :
  Calls Try.prog 9 #[.slice A0 l0.length c0] w fun e w' => e = .returned (.int .i64 r) ∧ Below w.heap.size w w' := by
 have hu43 := Try.underlying43
 have HR0 := Yd hr0
 have HC0 := Yd hc0
 clear hr0 hc0
 have HB := Yd (Below.refl w.heap.size w)
 have H : (if (l0.length : Int) > 64 then (some 7) else (plenumref56_Check.l0 k l0 0)) = some r := h
 clear h
 by_cases c2 : (l0.length : Int) > 64
 ·rw [if_pos c2] at H
  have c2b0 : decide (64 < (l0.length : Int)) = true := decide_eq_true c2
  have c2b1 : decide (64 < l0.length) = true := decide_eq_true (by omega)
  clear c2
  obtain rfl := Option.some.inj H
  go_enter Try.func9,Try.ntmps9
  go_wp2
  repeat (go_quiet (fail);try go_wp2)
  go_ret
  exact ⟨by first | rfl | (simp [errW_none,errW_some] <;> rfl) | (simp [*,errW_none,errW_some] <;> rfl),Y3 HB.out⟩
 ·rw [if_neg c2] at H
  have c2b0 : decide (64 < (l0.length : Int)) = false := decide_eq_false c2
  have c2b1 : decide (64 < l0.length) = false := decide_eq_false (by omega)
  clear c2
  have H' := Yd H
  clear H
  go_enter Try.func9,Try.ntmps9
  go_wp2
  repeat (go_quiet (fail);try go_wp2)
  go_loopg [3] k (fun kq v3 w' => ∃ (x3_1 : Int),v3 = .int .i64 x3_1 ∧ Aside0 (plenumref56_Check.l0 kq l0 x3_1 = some r) ∧ Aside0 (kq ≤ k) ∧ Aside0 (Below w.heap.size w w'))
  case atStart => exact ⟨(0),Y12,H',⟨Nat.le_refl _⟩,⟨Y3 HB.out⟩⟩
  case round =>
   clear H'
   try clear c2
   try clear c2b0
   try clear c2b1
   try clear p2
   obtain ⟨x3_1,rfl,HA,HK1,HB⟩ := hrel
   cases gk with
   | zero => exact absurd HA.out (by simp [plenumref56_Check.l0])
   | succ k1 =>
    have H := HA.out
    clear HA
    simp only [plenumref56_Check.l0] at H
    by_cases c3 : x3_1 < (l0.length : Int)
    ·rw [if_pos c3] at H
     have c3b0 : decide (x3_1 < (l0.length : Int)) = true := decide_eq_true c3
     clear c3
     by_cases c4 : 0 ≤ x3_1
     case neg => rw [if_neg c4] at H;exact absurd H (by simp)
     rw [if_pos c4] at H
     have c4b0 : decide (0 ≤ x3_1) = true := decide_eq_true c4
     clear c4
     replace H := Option.bind_eq_some_iff.mp H
     obtain ⟨t287,A50,H⟩ := H
     replace H : (if t287 = true then (plenumref56_Check.l0 k1 l0 (wrap64 (x3_1 + 1))) else (some 4)) = some r := H
     have A5 := Yd A50
     clear A50
     by_cases c6 : t287 = true
     ·subst c6
      have H1 : (plenumref56_Check.l0 k1 l0 (wrap64 (x3_1 + 1))) = some r := by rw [if_pos rfl] at H;exact H
      clear H
      have H := H1
      clear H1
      have H' := Yd H
      clear H
      have p286 : 0 ≤ (x3_1 : Int) := Y9
      have q286 : x3_1 < (l0.length : Int) := Y9
      obtain ⟨ad286,e286,hx286_0,hx286_1,hx286_2,hx286_3,hx286_4⟩ := at_T43 HR0.out x3_1 p286 q286
      cases e286
      replace hx286_0 := Y10 HB.out hx286_0
      replace hx286_1 := Y10 HB.out hx286_1
      replace hx286_2 := Y10 HB.out hx286_2
      replace hx286_3 := Y10 HB.out hx286_3
      replace hx286_4 := Y10 HB.out hx286_4
      replace p286 := eq_true p286
      replace q286 := eq_true q286
      go_wp2_with (first | (go_at_call 28;(with_reducible refine (plenumref07_Name.calls k1 ((rd_T43 l0 x3_1).f0) true _ A5.out).mono ?_);rintro e w' ⟨rfl,⟨nd,rfl⟩⟩;(try first | exact ⟨rfl,_,World.drewN_drewN _ _ _⟩ | exact ⟨rfl,_,Eq.trans (World.drewN_drewN _ _ _) (congrArg (World.drewN _) (Nat.add_assoc _ _ _))⟩)))
      repeat (go_quiet (first | (go_at_call 28;(with_reducible refine (plenumref07_Name.calls k1 ((rd_T43 l0 x3_1).f0) true _ A5.out).mono ?_);rintro e w' ⟨rfl,⟨nd,rfl⟩⟩;(try first | exact ⟨rfl,_,World.drewN_drewN _ _ _⟩ | exact ⟨rfl,_,Eq.trans (World.drewN_drewN _ _ _) (congrArg (World.drewN _) (Nat.add_assoc _ _ _))⟩)));try go_wp2_with (first | (go_at_call 28;(with_reducible refine (plenumref07_Name.calls k1 ((rd_T43 l0 x3_1).f0) true _ A5.out).mono ?_);rintro e w' ⟨rfl,⟨nd,rfl⟩⟩;(try first | exact ⟨rfl,_,World.drewN_drewN _ _ _⟩ | exact ⟨rfl,_,Eq.trans (World.drewN_drewN _ _ _) (congrArg (World.drewN _) (Nat.add_assoc _ _ _))⟩))))
      go_roundg k1
      case measure => have := HK1.out;omega
      case rel => exact ⟨(wrap64 (x3_1 + 1)),Y12,H',⟨by have := HK1.out;omega⟩,⟨Y3 HB.out⟩⟩
     ·replace c6 := Bool.eq_false_iff.mpr c6
      subst c6
      have H1 : (some 4) = some r := by rw [if_neg (show ¬ (false = true) by decide)] at H;exact H
      clear H
      have H := H1
      clear H1
      obtain rfl := Option.some.inj H
      have p286 : 0 ≤ (x3_1 : Int) := Y9
      have q286 : x3_1 < (l0.length : Int) := Y9
      obtain ⟨ad286,e286,hx286_0,hx286_1,hx286_2,hx286_3,hx286_4⟩ := at_T43 HR0.out x3_1 p286 q286
      cases e286
      replace hx286_0 := Y10 HB.out hx286_0
      replace hx286_1 := Y10 HB.out hx286_1
      replace hx286_2 := Y10 HB.out hx286_2
      replace hx286_3 := Y10 HB.out hx286_3
      replace hx286_4 := Y10 HB.out hx286_4
      replace p286 := eq_true p286
      replace q286 := eq_true q286
      go_wp2_with (first | (go_at_call 28;(with_reducible refine (plenumref07_Name.calls k1 ((rd_T43 l0 x3_1).f0) false _ A5.out).mono ?_);rintro e w' ⟨rfl,⟨nd,rfl⟩⟩;(try first | exact ⟨rfl,_,World.drewN_drewN _ _ _⟩ | exact ⟨rfl,_,Eq.trans (World.drewN_drewN _ _ _) (congrArg (World.drewN _) (Nat.add_assoc _ _ _))⟩)))
      repeat (go_quiet (first | (go_at_call 28;(with_reducible refine (plenumref07_Name.calls k1 ((rd_T43 l0 x3_1).f0) false _ A5.out).mono ?_);rintro e w' ⟨rfl,⟨nd,rfl⟩⟩;(try first | exact ⟨rfl,_,World.drewN_drewN _ _ _⟩ | exact ⟨rfl,_,Eq.trans (World.drewN_drewN _ _ _) (congrArg (World.drewN _) (Nat.add_assoc _ _ _))⟩)));try go_wp2_with (first | (go_at_call 28;(with_reducible refine (plenumref07_Name.calls k1 ((rd_T43 l0 x3_1).f0) false _ A5.out).mono ?_);rintro e w' ⟨rfl,⟨nd,rfl⟩⟩;(try first | exact ⟨rfl,_,World.drewN_drewN _ _ _⟩ | exact ⟨rfl,_,Eq.trans (World.drewN_drewN _ _ _) (congrArg (World.drewN _) (Nat.add_assoc _ _ _))⟩))))
      go_ret
      exact ⟨by first | rfl | (simp [errW_none,errW_some] <;> rfl) | (simp [*,errW_none,errW_some] <;> rfl),Y3 HB.out⟩
    ·rw [if_neg c3] at H
     have c3b0 : decide (x3_1 < (l0.length : Int)) = false := decide_eq_false c3
     clear c3
     have H' := Yd H
     clear H
     go_wp2
     repeat (go_quiet (fail);try go_wp2)
     go_loopg [4] k1 (fun kq v4 w' => ∃ (x4_2 : Int),v4 = .int .i64 x4_2 ∧ Aside0 (plenumref56_Check.l1 kq l0 x4_2 = some r) ∧ Aside0 (kq ≤ k1) ∧ Aside0 (Below w.heap.size w w'))
     case atStart => exact ⟨(0),Y12,H',⟨Nat.le_refl _⟩,⟨Y3 HB.out⟩⟩
     case round =>
      clear H'
      try clear c2
      try clear c2b0
      try clear c2b1
      try clear p2
      try clear q2
      try clear hx2
      try clear c3
      try clear c3b0
      try clear c4
      try clear c4b0
      try clear c6
      try clear p6
      try clear hx286_0
      try clear hx286_1
      try clear hx286_2
      try clear hx286_3
      try clear hx286_4
      try clear p2
      try clear p286
      try clear q286
      obtain ⟨x4_2,rfl,HA,HK2,HB⟩ := hrel
      cases gk with
      | zero => exact absurd HA.out (by simp [plenumref56_Check.l1])
      | succ k2 =>
       have H := HA.out
       clear HA
       simp only [plenumref56_Check.l1] at H
       by_cases c7 : x4_2 < (l0.length : Int)
       ·rw [if_pos c7] at H
        have c7b0 : decide (x4_2 < (l0.length : Int)) = true := decide_eq_true c7
        clear c7
        have H' := Yd H
        clear H
        go_wp2
        repeat (go_quiet (fail);try go_wp2)
        go_loopg [5] k2 (fun kq v5 w' => ∃ (x5_3 : Int),v5 = .int .i64 x5_3 ∧ Aside0 (plenumref56_Check.l2 kq l0 x4_2 x5_3 = some r) ∧ Aside0 (kq ≤ k2) ∧ Aside0 (Below w.heap.size w w'))
        case atStart => exact ⟨(0),Y12,H',⟨Nat.le_refl _⟩,⟨Y3 HB.out⟩⟩
        case round =>
         clear H'
         try clear c2
         try clear c2b0
         try clear c2b1
         try clear p2
         try clear q2
         try clear hx2
         try clear c3
         try clear c3b0
         try clear c4
         try clear c4b0
         try clear c6
         try clear p6
         try clear c7
         try clear c7b0
         try clear hx286_0
         try clear hx286_1
         try clear hx286_2
         try clear hx286_3
         try clear hx286_4
         try clear p2
         try clear p286
         try clear p6
         try clear q2
         try clear q286
         obtain ⟨x5_3,rfl,HA,HK3,HB⟩ := hrel
         cases gk with
         | zero => exact absurd HA.out (by simp [plenumref56_Check.l2])
         | succ k3 =>
          have H := HA.out
          clear HA
          simp only [plenumref56_Check.l2] at H
          by_cases c8 : x5_3 < x4_2
          ·rw [if_pos c8] at H
           have c8b0 : decide (x5_3 < x4_2) = true := decide_eq_true c8
           clear c8
           by_cases c9 : 0 ≤ x4_2
           case neg => rw [if_neg c9] at H;exact absurd H (by simp)
           rw [if_pos c9] at H
           have c9b0 : decide (0 ≤ x4_2) = true := decide_eq_true c9
           clear c9
           by_cases c10 : x4_2 < (l0.length : Int)
           case neg => rw [if_neg c10] at H;exact absurd H (by simp)
           rw [if_pos c10] at H
           have c10b0 : decide (x4_2 < (l0.length : Int)) = true := decide_eq_true c10
           clear c10
           by_cases c11 : 0 ≤ x5_3
           case neg => rw [if_neg c11] at H;exact absurd H (by simp)
           rw [if_pos c11] at H
           have c11b0 : decide (0 ≤ x5_3) = true := decide_eq_true c11
           clear c11
           by_cases c12 : x5_3 < (l0.length : Int)
           case neg => rw [if_neg c12] at H;exact absurd H (by simp)
           rw [if_pos c12] at H
           have c12b0 : decide (x5_3 < (l0.length : Int)) = true := decide_eq_true c12
           clear c12
           by_cases c13 : ((rd_T43 l0 x4_2).f0).toList = ((rd_T43 l0 x5_3).f0).toList
           ·rw [if_pos c13] at H
            have c13b0 : (((rd_T43 l0 x4_2).f0).toList == ((rd_T43 l0 x5_3).f0).toList) = true := beq_iff_eq.mpr c13
            have c13b1 : (((rd_T43 l0 x4_2).f0).toList != ((rd_T43 l0 x5_3).f0).toList) = false := bne_eq_false_iff_eq.mpr c13
            clear c13
            obtain rfl := Option.some.inj H
            have p288 : 0 ≤ (x4_2 : Int) := Y9
            have q288 : x4_2 < (l0.length : Int) := Y9
            obtain ⟨ad288,e288,hx288_0,hx288_1,hx288_2,hx288_3,hx288_4⟩ := at_T43 HR0.out x4_2 p288 q288
            cases e288
            replace hx288_0 := Y10 HB.out hx288_0
            replace hx288_1 := Y10 HB.out hx288_1
            replace hx288_2 := Y10 HB.out hx288_2
            replace hx288_3 := Y10 HB.out hx288_3
            replace hx288_4 := Y10 HB.out hx288_4
            replace p288 := eq_true p288
            replace q288 := eq_true q288
            have p289 : 0 ≤ (x5_3 : Int) := Y9
            have q289 : x5_3 < (l0.length : Int) := Y9
            obtain ⟨ad289,e289,hx289_0,hx289_1,hx289_2,hx289_3,hx289_4⟩ := at_T43 HR0.out x5_3 p289 q289
            obtain rfl : ad288 = ad289 := (by injection e289)
            replace hx289_0 := Y10 HB.out hx289_0
            replace hx289_1 := Y10 HB.out hx289_1
            replace hx289_2 := Y10 HB.out hx289_2
            replace hx289_3 := Y10 HB.out hx289_3
            replace hx289_4 := Y10 HB.out hx289_4
            replace p289 := eq_true p289
            replace q289 := eq_true q289
            go_wp2
            repeat (go_quiet (fail);try go_wp2)
            go_ret
            exact ⟨by first | rfl | (simp [errW_none,errW_some] <;> rfl) | (simp [*,errW_none,errW_some] <;> rfl),Y3 HB.out⟩
           ·rw [if_neg c13] at H
            have c13b0 : (((rd_T43 l0 x4_2).f0).toList == ((rd_T43 l0 x5_3).f0).toList) = false := beq_eq_false_iff_ne.mpr c13
            have c13b1 : (((rd_T43 l0 x4_2).f0).toList != ((rd_T43 l0 x5_3).f0).toList) = true := bne_iff_ne.mpr c13
            have H' := Yd H
            clear H
            have p288 : 0 ≤ (x4_2 : Int) := Y9
            have q288 : x4_2 < (l0.length : Int) := Y9
            obtain ⟨ad288,e288,hx288_0,hx288_1,hx288_2,hx288_3,hx288_4⟩ := at_T43 HR0.out x4_2 p288 q288
            cases e288
            replace hx288_0 := Y10 HB.out hx288_0
            replace hx288_1 := Y10 HB.out hx288_1
            replace hx288_2 := Y10 HB.out hx288_2
            replace hx288_3 := Y10 HB.out hx288_3
            replace hx288_4 := Y10 HB.out hx288_4
            replace p288 := eq_true p288
            replace q288 := eq_true q288
            have p289 : 0 ≤ (x5_3 : Int) := Y9
            have q289 : x5_3 < (l0.length : Int) := Y9
            obtain ⟨ad289,e289,hx289_0,hx289_1,hx289_2,hx289_3,hx289_4⟩ := at_T43 HR0.out x5_3 p289 q289
            obtain rfl : ad288 = ad289 := (by injection e289)
            replace hx289_0 := Y10 HB.out hx289_0
            replace hx289_1 := Y10 HB.out hx289_1
            replace hx289_2 := Y10 HB.out hx289_2
            replace hx289_3 := Y10 HB.out hx289_3
            replace hx289_4 := Y10 HB.out hx289_4
            replace p289 := eq_true p289
            replace q289 := eq_true q289
            go_wp2
            repeat (go_quiet (fail);try go_wp2)
            go_roundg k3
            case measure => have := HK1.out;have := HK2.out;have := HK3.out;omega
            case rel => exact ⟨(wrap64 (x5_3 + 1)),Y12,H',⟨by have := HK1.out;have := HK2.out;have := HK3.out;omega⟩,⟨Y3 HB.out⟩⟩
          ·rw [if_neg c8] at H
           have c8b0 : decide (x5_3 < x4_2) = false := decide_eq_false c8
           clear c8
           have H' := Yd H
           clear H
           go_wp2
           repeat (go_quiet (fail);try go_wp2)
           go_roundg k3
           case measure => have := HK1.out;have := HK2.out;have := HK3.out;omega
           case rel => exact ⟨(wrap64 (x4_2 + 1)),Y12,H',⟨by have := HK1.out;have := HK2.out;have := HK3.out;omega⟩,⟨Y3 HB.out⟩⟩
       ·rw [if_neg c7] at H
        have c7b0 : decide (x4_2 < (l0.length : Int)) = false := decide_eq_false c7
        clear c7
        have H' := Yd H
        clear H
        go_wp2
        repeat (go_quiet (fail);try go_wp2)
        go_loopg [6] k2 (fun kq v6 w' => ∃ (x6_3 : Int),v6 = .int .i64 x6_3 ∧ Aside0 (plenumref56_Check.l3 kq l0 x6_3 = some r) ∧ Aside0 (kq ≤ k2) ∧ Aside0 (Below w.heap.size w w'))
        case atStart => exact ⟨(0),Y12,H',⟨Nat.le_refl _⟩,⟨Y3 HB.out⟩⟩
        case round =>
         clear H'
         try clear c1
         try clear c2
         try clear c2b0
         try clear c2b1
         try clear p2
         try clear q2
         try clear hx2
         try clear c3
         try clear c3b0
         try clear c4
         try clear c4b0
         try clear c6
         try clear p6
         try clear c7
         try clear c7b0
         try clear c8
         try clear c8b0
         try clear c9
         try clear c9b0
         try clear c10
         try clear c10b0
         try clear c11
         try clear c11b0
         try clear c12
         try clear c12b0
         try clear c13
         try clear c13b0
         try clear c13b1
         try clear hx286_0
         try clear hx286_1
         try clear hx286_2
         try clear hx286_3
         try clear hx286_4
         try clear hx288_0
         try clear hx288_1
         try clear hx288_2
         try clear hx288_3
         try clear hx288_4
         try clear hx289_0
         try clear hx289_1
         try clear hx289_2
         try clear hx289_3
         try clear hx289_4
         try clear p2
         try clear p286
         try clear p288
         try clear p289
         try clear p6
         try clear q2
         try clear q286
         try clear q288
         try clear q289
         obtain ⟨x6_3,rfl,HA,HK3,HB⟩ := hrel
         cases gk with
         | zero => exact absurd HA.out (by simp [plenumref56_Check.l3])
         | succ k3 =>
          have H := HA.out
          clear HA
          simp only [plenumref56_Check.l3] at H
          by_cases c14 : x6_3 < (l0.length : Int)
          ·rw [if_pos c14] at H
           have c14b0 : decide (x6_3 < (l0.length : Int)) = true := decide_eq_true c14
           clear c14
           by_cases c15 : 0 ≤ x6_3
           case neg => rw [if_neg c15] at H;exact absurd H (by simp)
           rw [if_pos c15] at H
           have c15b0 : decide (0 ≤ x6_3) = true := decide_eq_true c15
           clear c15
           replace H := Option.bind_eq_some_iff.mp H
           obtain ⟨t291,A160,H⟩ := H
           replace H : (if t291 = true then (plenumref56_Check.l3 k3 l0 (wrap64 (x6_3 + 1))) else (some 6)) = some r := H
           have A16 := Yd A160
           clear A160
           by_cases c17 : t291 = true
           ·subst c17
            have H1 : (plenumref56_Check.l3 k3 l0 (wrap64 (x6_3 + 1))) = some r := by rw [if_pos rfl] at H;exact H
            clear H
            have H := H1
            clear H1
            have H' := Yd H
            clear H
            have p290 : 0 ≤ (x6_3 : Int) := Y9
            have q290 : x6_3 < (l0.length : Int) := Y9
            obtain ⟨ad290,e290,hx290_0,hx290_1,hx290_2,hx290_3,hx290_4⟩ := at_T43 HR0.out x6_3 p290 q290
            cases e290
            replace hx290_0 := Y10 HB.out hx290_0
            replace hx290_1 := Y10 HB.out hx290_1
            replace hx290_2 := Y10 HB.out hx290_2
            replace hx290_3 := Y10 HB.out hx290_3
            replace hx290_4 := Y10 HB.out hx290_4
            replace p290 := eq_true p290
            replace q290 := eq_true q290
            go_wp2_with (first | (go_at_call 29;(with_reducible refine (plenumref56_ranges.calls ((rd_T43 l0 x6_3).f0) ((rd_T43 l0 x6_3).f1) ((rd_T43 l0 x6_3).f2) ((rd_T43 l0 x6_3).f3) ((rd_T43 l0 x6_3).f4) true _ A16.out).mono ?_);rintro e w18 ⟨rfl,hb⟩;have n0_ := Yd (below_step (Y3 HB.out) hb);clear HB;have HB := n0_;clear n0_;(try clear hb);(try clear hb2);(try clear hk);(try clear hi)))
            repeat (go_quiet (first | (go_at_call 29;(with_reducible refine (plenumref56_ranges.calls ((rd_T43 l0 x6_3).f0) ((rd_T43 l0 x6_3).f1) ((rd_T43 l0 x6_3).f2) ((rd_T43 l0 x6_3).f3) ((rd_T43 l0 x6_3).f4) true _ A16.out).mono ?_);rintro e w18 ⟨rfl,hb⟩;have n0_ := Yd (below_step (Y3 HB.out) hb);clear HB;have HB := n0_;clear n0_;(try clear hb);(try clear hb2);(try clear hk);(try clear hi)));try go_wp2_with (first | (go_at_call 29;(with_reducible refine (plenumref56_ranges.calls ((rd_T43 l0 x6_3).f0) ((rd_T43 l0 x6_3).f1) ((rd_T43 l0 x6_3).f2) ((rd_T43 l0 x6_3).f3) ((rd_T43 l0 x6_3).f4) true _ A16.out).mono ?_);rintro e w18 ⟨rfl,hb⟩;have n0_ := Yd (below_step (Y3 HB.out) hb);clear HB;have HB := n0_;clear n0_;(try clear hb);(try clear hb2);(try clear hk);(try clear hi))))
            go_roundg k3
            case measure => have := HK1.out;have := HK2.out;have := HK3.out;omega
            case rel => exact ⟨(wrap64 (x6_3 + 1)),Y12,H',⟨by have := HK1.out;have := HK2.out;have := HK3.out;omega⟩,⟨Y3 HB.out⟩⟩
           ·replace c17 := Bool.eq_false_iff.mpr c17
            subst c17
            have H1 : (some 6) = some r := by rw [if_neg (show ¬ (false = true) by decide)] at H;exact H
            clear H
            have H := H1
            clear H1
            obtain rfl := Option.some.inj H
            have p290 : 0 ≤ (x6_3 : Int) := Y9
            have q290 : x6_3 < (l0.length : Int) := Y9
            obtain ⟨ad290,e290,hx290_0,hx290_1,hx290_2,hx290_3,hx290_4⟩ := at_T43 HR0.out x6_3 p290 q290
            cases e290
            replace hx290_0 := Y10 HB.out hx290_0
            replace hx290_1 := Y10 HB.out hx290_1
            replace hx290_2 := Y10 HB.out hx290_2
            replace hx290_3 := Y10 HB.out hx290_3
            replace hx290_4 := Y10 HB.out hx290_4
            replace p290 := eq_true p290
            replace q290 := eq_true q290
            go_wp2_with (first | (go_at_call 29;(with_reducible refine (plenumref56_ranges.calls ((rd_T43 l0 x6_3).f0) ((rd_T43 l0 x6_3).f1) ((rd_T43 l0 x6_3).f2) ((rd_T43 l0 x6_3).f3) ((rd_T43 l0 x6_3).f4) false _ A16.out).mono ?_);rintro e w19 ⟨rfl,hb⟩;have n0_ := Yd (below_step (Y3 HB.out) hb);clear HB;have HB := n0_;clear n0_;(try clear hb);(try clear hb2);(try clear hk);(try clear hi)))
            repeat (go_quiet (first | (go_at_call 29;(with_reducible refine (plenumref56_ranges.calls ((rd_T43 l0 x6_3).f0) ((rd_T43 l0 x6_3).f1) ((rd_T43 l0 x6_3).f2) ((rd_T43 l0 x6_3).f3) ((rd_T43 l0 x6_3).f4) false _ A16.out).mono ?_);rintro e w19 ⟨rfl,hb⟩;have n0_ := Yd (below_step (Y3 HB.out) hb);clear HB;have HB := n0_;clear n0_;(try clear hb);(try clear hb2);(try clear hk);(try clear hi)));try go_wp2_with (first | (go_at_call 29;(with_reducible refine (plenumref56_ranges.calls ((rd_T43 l0 x6_3).f0) ((rd_T43 l0 x6_3).f1) ((rd_T43 l0 x6_3).f2) ((rd_T43 l0 x6_3).f3) ((rd_T43 l0 x6_3).f4) false _ A16.out).mono ?_);rintro e w19 ⟨rfl,hb⟩;have n0_ := Yd (below_step (Y3 HB.out) hb);clear HB;have HB := n0_;clear n0_;(try clear hb);(try clear hb2);(try clear hk);(try clear hi))))
            go_ret
            exact ⟨by first | rfl | (simp [errW_none,errW_some] <;> rfl) | (simp [*,errW_none,errW_some] <;> rfl),Y3 HB.out⟩
          ·rw [if_neg c14] at H
           have c14b0 : decide (x6_3 < (l0.length : Int)) = false := decide_eq_false c14
           clear c14
           obtain rfl := Option.some.inj H
           go_wp2
           repeat (go_quiet (fail);try go_wp2)
           go_ret
           exact ⟨by first | rfl | (simp [errW_none,errW_some] <;> rfl) | (simp [*,errW_none,errW_some] <;> rfl),Y3 HB.out⟩
def plenumref56_Power.l0 : Nat → List (S43) → List (S59) → Int → Int → Option (Int)
 | 0,_,_,_,_ => none
 | k + 1,x0,x1,x5,x6 => if x6 < (x0.length : Int) then (if 0 ≤ x6 then (if x6 < (x1.length : Int) then (if ((rd_T59 x1 x6).f0 = true) then (plenumref56_Power.l0 k x0 x1 x5 (wrap64 (x6 + 1))) else (plenumref56_Power.l0 k x0 x1 (wrap64 (x5 + ((rd_T43 x0 x6).f2))) (wrap64 (x6 + 1)))) else (none)) else (none)) else (some x5)
def plenumref56_Power.f (k : Nat) (l0 : List (S43)) (l1 : List (S59)) : Option (Int) := plenumref56_Power.l0 k l0 l1 0 0
theorem plenumref56_Power.mono_l : ∀ k,(∀ y0 y1 y2 y3,LeO (plenumref56_Power.l0 k y0 y1 y2 y3) (plenumref56_Power.l0 (k + 1) y0 y1 y2 y3))
 | 0 => fun _ _ _ _ r h => by simp [plenumref56_Power.l0] at h
 | k + 1 => by
  have ih0 := plenumref56_Power.mono_l k
  ·intro y0 y1 y2 y3
   unfold plenumref56_Power.l0
   repeat' first
   | (with_reducible exact ih0 _ _ _ _)
   | (with_reducible exact LeO.refl _)
   | (with_reducible exact LeO.none _)
   | (with_reducible refine LeO.ite ?_ ?_)
   | (with_reducible refine LeO.bind ?_ (fun _ => ?_))
   | exact ih0 _ _ _ _
   | exact LeO.none _
   | refine LeO.ite ?_ ?_
   | refine LeO.bind ?_ (fun _ => ?_)
theorem plenumref56_Power.mono : ∀ a0 a1 k,LeO (plenumref56_Power.f k a0 a1) (plenumref56_Power.f (k + 1) a0 a1) := by
 intro a0 a1 k
 have ih0 := plenumref56_Power.mono_l k
 unfold plenumref56_Power.f
 repeat' first
   | (with_reducible exact ih0 _ _ _ _)
   | (with_reducible exact LeO.refl _)
   | (with_reducible exact LeO.none _)
   | (with_reducible refine LeO.ite ?_ ?_)
   | (with_reducible refine LeO.bind ?_ (fun _ => ?_))
   | exact ih0 _ _ _ _
   | exact LeO.none _
   | refine LeO.ite ?_ ?_
   | refine LeO.bind ?_ (fun _ => ?_)
set_option maxHeartbeats 100000000 in
set_option maxRecDepth 100000 in
theorem plenumref56_Power.calls (k : Nat) (A0 : Option Addr) (c0 : Nat) (l0 : List (S43)) (A1 : Option Addr) (c1 : Nat) (l1 : List (S59)) (r : Int) (w : World) (hr0 : Kd.C k43 w A0 l0.length l0) (hc0 : l0.length ≤ c0) (hr1 : Kd.C k59 w A1 l1.length l1) (hc1 : l1.length ≤ c1) (h : plenumref56_Power.f k l0 l1 = some r) :
  Calls Try.prog 10 #[.slice A0 l0.length c0,.slice A1 l1.length c1] w fun e w' => e = .returned (.int .i64 r) ∧ Drawn0 w w' := by
 have HR0 := Yd hr0
 have HC0 := Yd hc0
 clear hr0 hc0
 have HR1 := Yd hr1
 have HC1 := Yd hc1
 clear hr1 hc1
 have H : (plenumref56_Power.l0 k l0 l1 0 0) = some r := h
 clear h
 have H' := Yd H
 clear H
 go_enter Try.func10,Try.ntmps10
 go_wp2
 go_loopg [5,6] k (fun kq v5 v6 w' => ∃ (x5_1 : Int) (x6_1 : Int),v5 = .int .i64 x5_1 ∧ v6 = .int .i64 x6_1 ∧ Aside0 (plenumref56_Power.l0 kq l0 l1 x5_1 x6_1 = some r) ∧ Aside0 (kq ≤ k) ∧ Drawn0 w w')
 case atStart => exact ⟨(0),(0),Y12,Y12,H',⟨Nat.le_refl _⟩,by repeat (first | exact Drawn0.refl _ | apply Drawn0.step)⟩
 case round =>
  clear H'
  try clear c1
  try clear p2
  obtain ⟨x5_1,x6_1,rfl,rfl,HA,HK1,⟨m1,rfl⟩⟩ := hrel
  cases gk with
  | zero => exact absurd HA.out (by simp [plenumref56_Power.l0])
  | succ k1 =>
   have H := HA.out
   clear HA
   simp only [plenumref56_Power.l0] at H
   by_cases c3 : x6_1 < (l0.length : Int)
   ·rw [if_pos c3] at H
    have c3b0 : decide (x6_1 < (l0.length : Int)) = true := decide_eq_true c3
    clear c3
    by_cases c4 : 0 ≤ x6_1
    case neg => rw [if_neg c4] at H;exact absurd H (by simp)
    rw [if_pos c4] at H
    have c4b0 : decide (0 ≤ x6_1) = true := decide_eq_true c4
    clear c4
    by_cases c5 : x6_1 < (l1.length : Int)
    case neg => rw [if_neg c5] at H;exact absurd H (by simp)
    rw [if_pos c5] at H
    have c5b0 : decide (x6_1 < (l1.length : Int)) = true := decide_eq_true c5
    clear c5
    obtain ⟨bq6,hbq6⟩ : ∃ b_ : Bool,b_ = ((rd_T59 l1 x6_1).f0) := ⟨_,rfl⟩
    replace H : (if (bq6 = true) then (plenumref56_Power.l0 k1 l0 l1 x5_1 (wrap64 (x6_1 + 1))) else (plenumref56_Power.l0 k1 l0 l1 (wrap64 (x5_1 + ((rd_T43 l0 x6_1).f2))) (wrap64 (x6_1 + 1)))) = some r := by rw [← hbq6] at H;exact H
    have Nbq6 := Yd hbq6
    clear hbq6
    (try rw [← Nbq6.out])
    by_cases c7 : (bq6 = true)
    ·subst c7
     have H1 : (plenumref56_Power.l0 k1 l0 l1 x5_1 (wrap64 (x6_1 + 1))) = some r := by rw [if_pos rfl] at H;exact H
     clear H
     have H := H1
     clear H1
     have H' := Yd H
     clear H
     have p292 : 0 ≤ (x6_1 : Int) := Y9
     have q292 : x6_1 < (l1.length : Int) := Y9
     obtain ⟨ad292,e292,hx292_0,hx292_1⟩ := at_T59 HR1.out x6_1 p292 q292
     (try rw [← Nbq6.out] at hx292_0)
     (try rw [← Nbq6.out] at hw292_0)
     cases e292
     replace p292 := eq_true p292
     replace q292 := eq_true q292
     go_wp2
     go_roundg k1
     case measure => have := HK1.out;omega
     case rel => (try rw [← Nbq6.out]);exact ⟨(x5_1),(wrap64 (x6_1 + 1)),Y12,Y12,H',⟨by have := HK1.out;omega⟩,by repeat (first | exact Drawn0.refl _ | apply Drawn0.step)⟩
    ·replace c7 := Bool.eq_false_iff.mpr c7
     subst c7
     have H1 : (plenumref56_Power.l0 k1 l0 l1 (wrap64 (x5_1 + ((rd_T43 l0 x6_1).f2))) (wrap64 (x6_1 + 1))) = some r := by rw [if_neg (show ¬ (false = true) by decide)] at H;exact H
     clear H
     have H := H1
     clear H1
     have H' := Yd H
     clear H
     have p292 : 0 ≤ (x6_1 : Int) := Y9
     have q292 : x6_1 < (l1.length : Int) := Y9
     obtain ⟨ad292,e292,hx292_0,hx292_1⟩ := at_T59 HR1.out x6_1 p292 q292
     (try rw [← Nbq6.out] at hx292_0)
     (try rw [← Nbq6.out] at hw292_0)
     cases e292
     replace p292 := eq_true p292
     replace q292 := eq_true q292
     have p293 : 0 ≤ (x6_1 : Int) := Y9
     have q293 : x6_1 < (l0.length : Int) := Y9
     obtain ⟨ad293,e293,hx293_0,hx293_1,hx293_2,hx293_3,hx293_4⟩ := at_T43 HR0.out x6_1 p293 q293
     cases e293
     replace p293 := eq_true p293
     replace q293 := eq_true q293
     go_wp2
     go_roundg k1
     case measure => have := HK1.out;omega
     case rel => (try rw [← Nbq6.out]);exact ⟨(wrap64 (x5_1 + ((rd_T43 l0 x6_1).f2))),(wrap64 (x6_1 + 1)),Y12,Y12,H',⟨by have := HK1.out;omega⟩,by repeat (first | exact Drawn0.refl _ | apply Drawn0.step)⟩
   ·rw [if_neg c3] at H
    have c3b0 : decide (x6_1 < (l0.length : Int)) = false := decide_eq_false c3
    clear c3
    obtain rfl := Option.some.inj H
    go_wp2
    go_ret
    exact ⟨by first | rfl | (simp;done) | (simp [*];done),by repeat (first | exact Drawn0.refl _ | apply Drawn0.step)⟩
end Go.Proofs.Ytcdjhdfjkfbgdaa.PD56
namespace Go.Proofs.Ytcdjhdfjkfbgdaa.PD56
open Go.RowKit Go.Proofs.YtcdjhdfjkfbgdaaW.PrintWords Go.Proofs.YtcdjhdfjkfbgdaaW.PrintLast Go.Proofs.YtcdjhdfjkfbgdaaW.PrintMore
attribute [local go_sem] max2_int min2_int max_two min_two max_three min_three max_four min_four
theorem eqA59 (d : Nat) (w : World) (x0 y0 : Bool) (x1 y1 : Int) :
  (Op.equalIn (d + 2) 59 (.agg #[.bool x0,.int .i64 x1]) (.agg #[.bool y0,.int .i64 y1])).run Try.prog w = .ok (x0 == y0 && (x1 == y1)) w := by
 refine eqA_of Try.underlying59 (by kernel_rfl) ?_
 refine eqf_cons (by rfl) (by go_simp;rfl) (by go_simp;rfl) (by go_simp) ?_
 exact eqf_last (by rfl) (by go_simp;rfl) (by go_simp;rfl) (by go_simp)
end Go.Proofs.Ytcdjhdfjkfbgdaa.PD56
namespace Go.Proofs.Ytcdjhdfjkfbgdaa.PD56
open Go.RowKit Go.Proofs.YtcdjhdfjkfbgdaaW.PrintWords Go.Proofs.YtcdjhdfjkfbgdaaW.PrintLast Go.Proofs.YtcdjhdfjkfbgdaaW.PrintMore
attribute [local go_sem] max2_int min2_int max_two min_two max_three min_three max_four min_four
attribute [local go_sem high] eqA59
mutual
def plenumref56_Ready.j0 : Nat → List (S59) → Int → Bool → Option (Int)
 | 0,_,_,_ => none
 | k + 1,x1,x2,x21 => if x21 = true then (some 1) else (plenumref56_Ready.l0 k x1 x2 0)
def plenumref56_Ready.l0 : Nat → List (S59) → Int → Int → Option (Int)
 | 0,_,_,_ => none
 | k + 1,x1,x2,x7 => if x7 < (x1.length : Int) then (if 0 ≤ x7 then (if ((rd_T59 x1 x7).f1) < 0 then (some 1) else (if ((rd_T59 x1 x7).f1) > 6311433599 then (some 1) else (plenumref56_Ready.l0 k x1 x2 (wrap64 (x7 + 1))))) else (none)) else (plenumref56_Ready.l1 k x1 x2 0)
def plenumref56_Ready.l1 : Nat → List (S59) → Int → Int → Option (Int)
 | 0,_,_,_ => none
 | k + 1,x1,x2,x8 => if x8 < (x1.length : Int) then (if 0 ≤ x8 then (if ((rd_T59 x1 x8).f1) > x2 then (some 8) else (plenumref56_Ready.l1 k x1 x2 (wrap64 (x8 + 1)))) else (none)) else (some 0)
end
def plenumref56_Ready.f (k : Nat) (l0 : List (S43)) (l1 : List (S59)) (a2 : Int) : Option (Int) := if (l1.length : Int) = (l0.length : Int) then (if a2 < 0 then (plenumref56_Ready.j0 k l1 a2 true) else (plenumref56_Ready.j0 k l1 a2 (decide (a2 > 6311433599)))) else (plenumref56_Ready.j0 k l1 a2 true)
theorem plenumref56_Ready.mono_l : ∀ k,(∀ y0 y1 y2,LeO (plenumref56_Ready.j0 k y0 y1 y2) (plenumref56_Ready.j0 (k + 1) y0 y1 y2)) ∧ (∀ y0 y1 y2,LeO (plenumref56_Ready.l0 k y0 y1 y2) (plenumref56_Ready.l0 (k + 1) y0 y1 y2)) ∧ (∀ y0 y1 y2,LeO (plenumref56_Ready.l1 k y0 y1 y2) (plenumref56_Ready.l1 (k + 1) y0 y1 y2))
 | 0 => ⟨fun _ _ _ r h => by simp [plenumref56_Ready.j0] at h,fun _ _ _ r h => by simp [plenumref56_Ready.l0] at h,fun _ _ _ r h => by simp [plenumref56_Ready.l1] at h⟩
 | k + 1 => by
  obtain ⟨ih0,ih1,ih2⟩ := plenumref56_Ready.mono_l k
  refine ⟨?_,?_,?_⟩
  ·intro y0 y1 y2
   unfold plenumref56_Ready.j0
   repeat' first
   | (with_reducible exact ih0 _ _ _)
   | (with_reducible exact ih1 _ _ _)
   | (with_reducible exact ih2 _ _ _)
   | (with_reducible exact LeO.refl _)
   | (with_reducible exact LeO.none _)
   | (with_reducible refine LeO.ite ?_ ?_)
   | (with_reducible refine LeO.bind ?_ (fun _ => ?_))
   | exact ih0 _ _ _
   | exact ih1 _ _ _
   | exact ih2 _ _ _
   | exact LeO.none _
   | refine LeO.ite ?_ ?_
   | refine LeO.bind ?_ (fun _ => ?_)
  ·intro y0 y1 y2
   unfold plenumref56_Ready.l0
   repeat' first
   | (with_reducible exact ih0 _ _ _)
   | (with_reducible exact ih1 _ _ _)
   | (with_reducible exact ih2 _ _ _)
   | (with_reducible exact LeO.refl _)
   | (with_reducible exact LeO.none _)
   | (with_reducible refine LeO.ite ?_ ?_)
   | (with_reducible refine LeO.bind ?_ (fun _ => ?_))
   | exact ih0 _ _ _
   | exact ih1 _ _ _
   | exact ih2 _ _ _
   | exact LeO.none _
   | refine LeO.ite ?_ ?_
   | refine LeO.bind ?_ (fun _ => ?_)
  ·intro y0 y1 y2
   unfold plenumref56_Ready.l1
   repeat' first
   | (with_reducible exact ih0 _ _ _)
   | (with_reducible exact ih1 _ _ _)
   | (with_reducible exact ih2 _ _ _)
   | (with_reducible exact LeO.refl _)
   | (with_reducible exact LeO.none _)
   | (with_reducible refine LeO.ite ?_ ?_)
   | (with_reducible refine LeO.bind ?_ (fun _ => ?_))
   | exact ih0 _ _ _
   | exact ih1 _ _ _
   | exact ih2 _ _ _
   | exact LeO.none _
   | refine LeO.ite ?_ ?_
   | refine LeO.bind ?_ (fun _ => ?_)
theorem plenumref56_Ready.mono : ∀ a0 a1 a2 k,LeO (plenumref56_Ready.f k a0 a1 a2) (plenumref56_Ready.f (k + 1) a0 a1 a2) := by
 intro a0 a1 a2 k
 obtain ⟨ih0,ih1,ih2⟩ := plenumref56_Ready.mono_l k
 unfold plenumref56_Ready.f
 repeat' first
   | (with_reducible exact ih0 _ _ _)
   | (with_reducible exact ih1 _ _ _)
   | (with_reducible exact ih2 _ _ _)
   | (with_reducible exact LeO.refl _)
   | (with_reducible exact LeO.none _)
   | (with_reducible refine LeO.ite ?_ ?_)
   | (with_reducible refine LeO.bind ?_ (fun _ => ?_))
   | exact ih0 _ _ _
   | exact ih1 _ _ _
   | exact ih2 _ _ _
   | exact LeO.none _
   | refine LeO.ite ?_ ?_
   | refine LeO.bind ?_ (fun _ => ?_)
set_option maxHeartbeats 100000000 in
set_option maxRecDepth 100000 in
theorem plenumref56_Ready.calls (k : Nat) (A0 : Option Addr) (c0 : Nat) (l0 : List (S43)) (A1 : Option Addr) (c1 : Nat) (l1 : List (S59)) (a2 : Int) (r : Int) (w : World) (hr0 : Kd.C k43 w A0 l0.length l0) (hc0 : l0.length ≤ c0) (hr1 : Kd.C k59 w A1 l1.length l1) (hc1 : l1.length ≤ c1) (h : plenumref56_Ready.f k l0 l1 a2 = some r) :
  Calls Try.prog 11 #[.slice A0 l0.length c0,.slice A1 l1.length c1,.int .i64 a2] w fun e w' => e = .returned (.int .i64 r) ∧ Drawn0 w w' := by
 have HR0 := Yd hr0
 have HC0 := Yd hc0
 clear hr0 hc0
 have HR1 := Yd hr1
 have HC1 := Yd hc1
 clear hr1 hc1
 have H : (if (l1.length : Int) = (l0.length : Int) then (if a2 < 0 then (plenumref56_Ready.j0 k l1 a2 true) else (plenumref56_Ready.j0 k l1 a2 (decide (a2 > 6311433599)))) else (plenumref56_Ready.j0 k l1 a2 true)) = some r := h
 clear h
 have HC4 := Yd H
 clear H
 go_enter Try.func11,Try.ntmps11
 go_upto_region 1 with (fail)
 go_cut [21] (fun v21 wc => ∃ (kq : Nat) (x21_3 : Bool),v21 = .bool x21_3 ∧ Aside0 (plenumref56_Ready.j0 kq l1 a2 x21_3 = some r) ∧ Aside0 (kq ≤ k) ∧ Drawn0 w wc)
 case first =>
  have H := HC4.out
  clear HC4
  by_cases c5 : (l1.length : Int) = (l0.length : Int)
  ·rw [if_pos c5] at H
   have c5b0 : ((l1.length : Int) == (l0.length : Int)) = true := beq_iff_eq.mpr c5
   have c5b1 : ((l1.length : Int) != (l0.length : Int)) = false := bne_eq_false_iff_eq.mpr c5
   have c5b2 : (l1.length == l0.length) = true := by first | simpa using c5 | (simp at c5 ⊢;omega)
   clear c5
   (first | rw [c5b0] | (simp only [i64_w,i32_w];rw [c5b0]) | skip)
   by_cases c6 : a2 < 0
   ·rw [if_pos c6] at H
    have c6b0 : decide (a2 < 0) = true := decide_eq_true c6
    clear c6
    have H' := Yd H
    clear H
    go_wp2
    go_meet
    case rel => exact ⟨_,(true),Y12,H',⟨by first | omega | exact Nat.le_refl _⟩,by repeat (first | exact Drawn0.refl _ | apply Drawn0.step)⟩
   ·rw [if_neg c6] at H
    have c6b0 : decide (a2 < 0) = false := decide_eq_false c6
    clear c6
    have H' := Yd H
    clear H
    go_wp2
    go_meet
    case rel => exact ⟨_,(decide (a2 > 6311433599)),Y12,H',⟨by first | omega | exact Nat.le_refl _⟩,by repeat (first | exact Drawn0.refl _ | apply Drawn0.step)⟩
  ·rw [if_neg c5] at H
   have c5b0 : ((l1.length : Int) == (l0.length : Int)) = false := beq_eq_false_iff_ne.mpr c5
   have c5b1 : ((l1.length : Int) != (l0.length : Int)) = true := bne_iff_ne.mpr c5
   have c5b2 : (l1.length == l0.length) = false := by first | simpa using c5 | (simp at c5 ⊢;omega)
   (first | rw [c5b0] | (simp only [i64_w,i32_w];rw [c5b0]) | skip)
   have H' := Yd H
   clear H
   go_wp2
   go_meet
   case rel => exact ⟨_,(true),Y12,H',⟨by first | omega | exact Nat.le_refl _⟩,by repeat (first | exact Drawn0.refl _ | apply Drawn0.step)⟩
 case rest =>
  clear HC4
  try clear c1
  try clear p2
  try clear c5
  try clear c5b0
  try clear c5b1
  try clear c5b2
  try clear c6
  try clear c6b0
  obtain ⟨kq,x21_3,rfl,HA,HJ3,⟨mc3,rfl⟩⟩ := hcut
  cases kq with
  | zero => exact absurd HA.out (by simp [plenumref56_Ready.j0])
  | succ kj3 =>
   have H := HA.out
   clear HA
   simp only [plenumref56_Ready.j0] at H
   by_cases c7 : x21_3 = true
   ·subst c7
    have H1 : (some 1) = some r := by rw [if_pos rfl] at H;exact H
    clear H
    have H := H1
    clear H1
    obtain rfl := Option.some.inj H
    go_wp2
    go_ret
    exact ⟨by first | rfl | (simp;done) | (simp [*];done),by repeat (first | exact Drawn0.refl _ | apply Drawn0.step)⟩
   ·replace c7 := Bool.eq_false_iff.mpr c7
    subst c7
    have H1 : (plenumref56_Ready.l0 kj3 l1 a2 0) = some r := by rw [if_neg (show ¬ (false = true) by decide)] at H;exact H
    clear H
    have H := H1
    clear H1
    have H' := Yd H
    clear H
    go_wp2
    go_loopg [7] kj3 (fun kq v7 w' => ∃ (x7_2 : Int),v7 = .int .i64 x7_2 ∧ Aside0 (plenumref56_Ready.l0 kq l1 a2 x7_2 = some r) ∧ Aside0 (kq ≤ kj3) ∧ Drawn0 w w')
    case atStart => exact ⟨(0),Y12,H',⟨Nat.le_refl _⟩,by repeat (first | exact Drawn0.refl _ | apply Drawn0.step)⟩
    case round =>
     clear H'
     try clear c1
     try clear p2
     try clear c3
     try clear c5
     try clear c5b0
     try clear c5b1
     try clear c5b2
     try clear c6
     try clear c6b0
     try clear c7
     try clear p2
     obtain ⟨x7_2,rfl,HA,HK2,⟨m2,rfl⟩⟩ := hrel
     cases gk with
     | zero => exact absurd HA.out (by simp [plenumref56_Ready.l0])
     | succ k2 =>
      have H := HA.out
      clear HA
      simp only [plenumref56_Ready.l0] at H
      by_cases c8 : x7_2 < (l1.length : Int)
      ·rw [if_pos c8] at H
       have c8b0 : decide (x7_2 < (l1.length : Int)) = true := decide_eq_true c8
       clear c8
       by_cases c9 : 0 ≤ x7_2
       case neg => rw [if_neg c9] at H;exact absurd H (by simp)
       rw [if_pos c9] at H
       have c9b0 : decide (0 ≤ x7_2) = true := decide_eq_true c9
       clear c9
       by_cases c10 : ((rd_T59 l1 x7_2).f1) < 0
       ·rw [if_pos c10] at H
        have c10b0 : decide (((rd_T59 l1 x7_2).f1) < 0) = true := decide_eq_true c10
        clear c10
        obtain rfl := Option.some.inj H
        have p294 : 0 ≤ (x7_2 : Int) := Y9
        have q294 : x7_2 < (l1.length : Int) := Y9
        obtain ⟨ad294,e294,hx294_0,hx294_1⟩ := at_T59 HR1.out x7_2 p294 q294
        cases e294
        replace p294 := eq_true p294
        replace q294 := eq_true q294
        go_wp2
        go_ret
        exact ⟨by first | rfl | (simp;done) | (simp [*];done),by repeat (first | exact Drawn0.refl _ | apply Drawn0.step)⟩
       ·rw [if_neg c10] at H
        have c10b0 : decide (((rd_T59 l1 x7_2).f1) < 0) = false := decide_eq_false c10
        clear c10
        by_cases c11 : ((rd_T59 l1 x7_2).f1) > 6311433599
        ·rw [if_pos c11] at H
         have c11b0 : decide (6311433599 < ((rd_T59 l1 x7_2).f1)) = true := decide_eq_true c11
         clear c11
         obtain rfl := Option.some.inj H
         have p294 : 0 ≤ (x7_2 : Int) := Y9
         have q294 : x7_2 < (l1.length : Int) := Y9
         obtain ⟨ad294,e294,hx294_0,hx294_1⟩ := at_T59 HR1.out x7_2 p294 q294
         cases e294
         replace p294 := eq_true p294
         replace q294 := eq_true q294
         have p295 : 0 ≤ (x7_2 : Int) := Y9
         have q295 : x7_2 < (l1.length : Int) := Y9
         obtain ⟨ad295,e295,hx295_0,hx295_1⟩ := at_T59 HR1.out x7_2 p295 q295
         obtain rfl : ad294 = ad295 := (by injection e295)
         replace p295 := eq_true p295
         replace q295 := eq_true q295
         go_wp2
         go_ret
         exact ⟨by first | rfl | (simp;done) | (simp [*];done),by repeat (first | exact Drawn0.refl _ | apply Drawn0.step)⟩
        ·rw [if_neg c11] at H
         have c11b0 : decide (6311433599 < ((rd_T59 l1 x7_2).f1)) = false := decide_eq_false c11
         clear c11
         have H' := Yd H
         clear H
         have p294 : 0 ≤ (x7_2 : Int) := Y9
         have q294 : x7_2 < (l1.length : Int) := Y9
         obtain ⟨ad294,e294,hx294_0,hx294_1⟩ := at_T59 HR1.out x7_2 p294 q294
         cases e294
         replace p294 := eq_true p294
         replace q294 := eq_true q294
         have p295 : 0 ≤ (x7_2 : Int) := Y9
         have q295 : x7_2 < (l1.length : Int) := Y9
         obtain ⟨ad295,e295,hx295_0,hx295_1⟩ := at_T59 HR1.out x7_2 p295 q295
         obtain rfl : ad294 = ad295 := (by injection e295)
         replace p295 := eq_true p295
         replace q295 := eq_true q295
         go_wp2
         go_roundg k2
         case measure => have := HJ3.out;have := HK2.out;omega
         case rel => exact ⟨(wrap64 (x7_2 + 1)),Y12,H',⟨by have := HJ3.out;have := HK2.out;omega⟩,by repeat (first | exact Drawn0.refl _ | apply Drawn0.step)⟩
      ·rw [if_neg c8] at H
       have c8b0 : decide (x7_2 < (l1.length : Int)) = false := decide_eq_false c8
       clear c8
       have H' := Yd H
       clear H
       go_wp2
       go_loopg [8] k2 (fun kq v8 w' => ∃ (x8_3 : Int),v8 = .int .i64 x8_3 ∧ Aside0 (plenumref56_Ready.l1 kq l1 a2 x8_3 = some r) ∧ Aside0 (kq ≤ k2) ∧ Drawn0 w w')
       case atStart => exact ⟨(0),Y12,H',⟨Nat.le_refl _⟩,by repeat (first | exact Drawn0.refl _ | apply Drawn0.step)⟩
       case round =>
        clear H'
        try clear c1
        try clear p2
        try clear q2
        try clear hx2
        try clear c3
        try clear c5
        try clear c5b0
        try clear c5b1
        try clear c5b2
        try clear c6
        try clear c6b0
        try clear p6
        try clear c7
        try clear c8
        try clear c8b0
        try clear c9
        try clear c9b0
        try clear c10
        try clear c10b0
        try clear c11
        try clear c11b0
        try clear hx294_0
        try clear hx294_1
        try clear hx295_0
        try clear hx295_1
        try clear p2
        try clear p294
        try clear p295
        try clear q294
        try clear q295
        obtain ⟨x8_3,rfl,HA,HK3,⟨m3,rfl⟩⟩ := hrel
        cases gk with
        | zero => exact absurd HA.out (by simp [plenumref56_Ready.l1])
        | succ k3 =>
         have H := HA.out
         clear HA
         simp only [plenumref56_Ready.l1] at H
         by_cases c12 : x8_3 < (l1.length : Int)
         ·rw [if_pos c12] at H
          have c12b0 : decide (x8_3 < (l1.length : Int)) = true := decide_eq_true c12
          clear c12
          by_cases c13 : 0 ≤ x8_3
          case neg => rw [if_neg c13] at H;exact absurd H (by simp)
          rw [if_pos c13] at H
          have c13b0 : decide (0 ≤ x8_3) = true := decide_eq_true c13
          clear c13
          by_cases c14 : ((rd_T59 l1 x8_3).f1) > a2
          ·rw [if_pos c14] at H
           have c14b0 : decide (a2 < ((rd_T59 l1 x8_3).f1)) = true := decide_eq_true c14
           clear c14
           obtain rfl := Option.some.inj H
           have p296 : 0 ≤ (x8_3 : Int) := Y9
           have q296 : x8_3 < (l1.length : Int) := Y9
           obtain ⟨ad296,e296,hx296_0,hx296_1⟩ := at_T59 HR1.out x8_3 p296 q296
           cases e296
           replace p296 := eq_true p296
           replace q296 := eq_true q296
           go_wp2
           go_ret
           exact ⟨by first | rfl | (simp;done) | (simp [*];done),by repeat (first | exact Drawn0.refl _ | apply Drawn0.step)⟩
          ·rw [if_neg c14] at H
           have c14b0 : decide (a2 < ((rd_T59 l1 x8_3).f1)) = false := decide_eq_false c14
           clear c14
           have H' := Yd H
           clear H
           have p296 : 0 ≤ (x8_3 : Int) := Y9
           have q296 : x8_3 < (l1.length : Int) := Y9
           obtain ⟨ad296,e296,hx296_0,hx296_1⟩ := at_T59 HR1.out x8_3 p296 q296
           cases e296
           replace p296 := eq_true p296
           replace q296 := eq_true q296
           go_wp2
           go_roundg k3
           case measure => have := HJ3.out;have := HK2.out;have := HK3.out;omega
           case rel => exact ⟨(wrap64 (x8_3 + 1)),Y12,H',⟨by have := HJ3.out;have := HK2.out;have := HK3.out;omega⟩,by repeat (first | exact Drawn0.refl _ | apply Drawn0.step)⟩
         ·rw [if_neg c12] at H
          have c12b0 : decide (x8_3 < (l1.length : Int)) = false := decide_eq_false c12
          clear c12
          obtain rfl := Option.some.inj H
          go_wp2
          go_ret
          exact ⟨by first | rfl | (simp;done) | (simp [*];done),by repeat (first | exact Drawn0.refl _ | apply Drawn0.step)⟩
def plenumlaw56_inside.f (a0 : Int) : Option (Bool) := if a0 ≥ (-1000000000000) then (some (decide (a0 ≤ 1000000000000))) else (some false)
set_option maxHeartbeats 100000000 in
set_option maxRecDepth 100000 in
theorem plenumlaw56_inside.calls (a0 : Int) (r : Bool) (w : World) (h : plenumlaw56_inside.f a0 = some r) :
  Calls Try.prog 12 #[.int .i64 a0] w fun e w' => e = .returned (.bool r) ∧ Drawn0 w w' := by
 have H : (if a0 ≥ (-1000000000000) then (some (decide (a0 ≤ 1000000000000))) else (some false)) = some r := h
 clear h
 by_cases c2 : a0 ≥ (-1000000000000)
 ·rw [if_pos c2] at H
  have c2b0 : decide ((-1000000000000) ≤ a0) = true := decide_eq_true c2
  clear c2
  obtain rfl := Option.some.inj H
  go_enter Try.func12,Try.ntmps12
  go_wp2
  go_ret
  exact ⟨by first | rfl | (simp;done) | (simp [*];done),by repeat (first | exact Drawn0.refl _ | apply Drawn0.step)⟩
 ·rw [if_neg c2] at H
  have c2b0 : decide ((-1000000000000) ≤ a0) = false := decide_eq_false c2
  clear c2
  obtain rfl := Option.some.inj H
  go_enter Try.func12,Try.ntmps12
  go_wp2
  go_ret
  exact ⟨by first | rfl | (simp;done) | (simp [*];done),by repeat (first | exact Drawn0.refl _ | apply Drawn0.step)⟩
def plenumref56_Same.l0 : Nat → List (S59) → List (S59) → Int → Option (Bool)
 | 0,_,_,_ => none
 | k + 1,x0,x1,x5 => if x5 < (x0.length : Int) then (if 0 ≤ x5 then (if x5 < (x1.length : Int) then (if (!(((rd_T59 x0 x5).f0) == ((rd_T59 x1 x5).f0)) || (!(((rd_T59 x0 x5).f1) == ((rd_T59 x1 x5).f1)))) = true then (some false) else (plenumref56_Same.l0 k x0 x1 (wrap64 (x5 + 1)))) else (none)) else (none)) else (some true)
def plenumref56_Same.f (k : Nat) (l0 : List (S59)) (l1 : List (S59)) : Option (Bool) := if (l0.length : Int) = (l1.length : Int) then (plenumref56_Same.l0 k l0 l1 0) else (some false)
theorem plenumref56_Same.mono_l : ∀ k,(∀ y0 y1 y2,LeO (plenumref56_Same.l0 k y0 y1 y2) (plenumref56_Same.l0 (k + 1) y0 y1 y2))
 | 0 => fun _ _ _ r h => by simp [plenumref56_Same.l0] at h
 | k + 1 => by
  have ih0 := plenumref56_Same.mono_l k
  ·intro y0 y1 y2
   unfold plenumref56_Same.l0
   repeat' first
   | (with_reducible exact ih0 _ _ _)
   | (with_reducible exact LeO.refl _)
   | (with_reducible exact LeO.none _)
   | (with_reducible refine LeO.ite ?_ ?_)
   | (with_reducible refine LeO.bind ?_ (fun _ => ?_))
   | exact ih0 _ _ _
   | exact LeO.none _
   | refine LeO.ite ?_ ?_
   | refine LeO.bind ?_ (fun _ => ?_)
theorem plenumref56_Same.mono : ∀ a0 a1 k,LeO (plenumref56_Same.f k a0 a1) (plenumref56_Same.f (k + 1) a0 a1) := by
 intro a0 a1 k
 have ih0 := plenumref56_Same.mono_l k
 unfold plenumref56_Same.f
 repeat' first
   | (with_reducible exact ih0 _ _ _)
   | (with_reducible exact LeO.refl _)
   | (with_reducible exact LeO.none _)
   | (with_reducible refine LeO.ite ?_ ?_)
   | (with_reducible refine LeO.bind ?_ (fun _ => ?_))
   | exact ih0 _ _ _
   | exact LeO.none _
   | refine LeO.ite ?_ ?_
   | refine LeO.bind ?_ (fun _ => ?_)
set_option maxHeartbeats 100000000 in
set_option maxRecDepth 100000 in
theorem plenumref56_Same.calls (k : Nat) (A0 : Option Addr) (c0 : Nat) (l0 : List (S59)) (A1 : Option Addr) (c1 : Nat) (l1 : List (S59)) (r : Bool) (w : World) (hr0 : Kd.C k59 w A0 l0.length l0) (hc0 : l0.length ≤ c0) (hr1 : Kd.C k59 w A1 l1.length l1) (hc1 : l1.length ≤ c1) (h : plenumref56_Same.f k l0 l1 = some r) :
  Calls Try.prog 13 #[.slice A0 l0.length c0,.slice A1 l1.length c1] w fun e w' => e = .returned (.bool r) ∧ Drawn0 w w' := by
 have hu59 := Try.underlying59
 have HR0 := Yd hr0
 have HC0 := Yd hc0
 clear hr0 hc0
 have HR1 := Yd hr1
 have HC1 := Yd hc1
 clear hr1 hc1
 have H : (if (l0.length : Int) = (l1.length : Int) then (plenumref56_Same.l0 k l0 l1 0) else (some false)) = some r := h
 clear h
 by_cases c3 : (l0.length : Int) = (l1.length : Int)
 ·rw [if_pos c3] at H
  have c3b0 : ((l0.length : Int) == (l1.length : Int)) = true := beq_iff_eq.mpr c3
  have c3b1 : ((l0.length : Int) != (l1.length : Int)) = false := bne_eq_false_iff_eq.mpr c3
  have c3b2 : (l0.length == l1.length) = true := by first | simpa using c3 | (simp at c3 ⊢;omega)
  clear c3
  have H' := Yd H
  clear H
  go_enter Try.func13,Try.ntmps13
  go_wp2
  repeat (go_quiet (fail);try go_wp2)
  go_loopg [5] k (fun kq v5 w' => ∃ (x5_1 : Int),v5 = .int .i64 x5_1 ∧ Aside0 (plenumref56_Same.l0 kq l0 l1 x5_1 = some r) ∧ Aside0 (kq ≤ k) ∧ Drawn0 w w')
  case atStart => exact ⟨(0),Y12,H',⟨Nat.le_refl _⟩,by repeat (first | exact Drawn0.refl _ | apply Drawn0.step)⟩
  case round =>
   clear H'
   try clear c1
   try clear p2
   try clear c3
   try clear c3b0
   try clear c3b1
   try clear c3b2
   obtain ⟨x5_1,rfl,HA,HK1,⟨m1,rfl⟩⟩ := hrel
   cases gk with
   | zero => exact absurd HA.out (by simp [plenumref56_Same.l0])
   | succ k1 =>
    have H := HA.out
    clear HA
    simp only [plenumref56_Same.l0] at H
    by_cases c4 : x5_1 < (l0.length : Int)
    ·rw [if_pos c4] at H
     have c4b0 : decide (x5_1 < (l0.length : Int)) = true := decide_eq_true c4
     clear c4
     by_cases c5 : 0 ≤ x5_1
     case neg => rw [if_neg c5] at H;exact absurd H (by simp)
     rw [if_pos c5] at H
     have c5b0 : decide (0 ≤ x5_1) = true := decide_eq_true c5
     clear c5
     by_cases c6 : x5_1 < (l1.length : Int)
     case neg => rw [if_neg c6] at H;exact absurd H (by simp)
     rw [if_pos c6] at H
     have c6b0 : decide (x5_1 < (l1.length : Int)) = true := decide_eq_true c6
     clear c6
     by_cases c7 : (!(((rd_T59 l0 x5_1).f0) == ((rd_T59 l1 x5_1).f0)) || (!(((rd_T59 l0 x5_1).f1) == ((rd_T59 l1 x5_1).f1)))) = true
     ·rw [if_pos c7] at H
      have c7b0 : (!(((rd_T59 l0 x5_1).f0) == ((rd_T59 l1 x5_1).f0)) || (!(((rd_T59 l0 x5_1).f1) == ((rd_T59 l1 x5_1).f1)))) = true := c7
      clear c7
      obtain rfl := Option.some.inj H
      have p297 : 0 ≤ (x5_1 : Int) := Y9
      have q297 : x5_1 < (l0.length : Int) := Y9
      obtain ⟨ad297,e297,hx297_0,hx297_1⟩ := at_T59 HR0.out x5_1 p297 q297
      cases e297
      replace p297 := eq_true p297
      replace q297 := eq_true q297
      have p298 : 0 ≤ (x5_1 : Int) := Y9
      have q298 : x5_1 < (l1.length : Int) := Y9
      obtain ⟨ad298,e298,hx298_0,hx298_1⟩ := at_T59 HR1.out x5_1 p298 q298
      cases e298
      replace p298 := eq_true p298
      replace q298 := eq_true q298
      go_wp2
      repeat (go_quiet (fail);try go_wp2)
      go_ret
      exact ⟨by first | rfl | (simp;done) | (simp [*];done),by repeat (first | exact Drawn0.refl _ | apply Drawn0.step)⟩
     ·rw [if_neg c7] at H
      have c7b0 : (!(((rd_T59 l0 x5_1).f0) == ((rd_T59 l1 x5_1).f0)) || (!(((rd_T59 l0 x5_1).f1) == ((rd_T59 l1 x5_1).f1)))) = false := by simpa using c7
      clear c7
      have H' := Yd H
      clear H
      have p297 : 0 ≤ (x5_1 : Int) := Y9
      have q297 : x5_1 < (l0.length : Int) := Y9
      obtain ⟨ad297,e297,hx297_0,hx297_1⟩ := at_T59 HR0.out x5_1 p297 q297
      cases e297
      replace p297 := eq_true p297
      replace q297 := eq_true q297
      have p298 : 0 ≤ (x5_1 : Int) := Y9
      have q298 : x5_1 < (l1.length : Int) := Y9
      obtain ⟨ad298,e298,hx298_0,hx298_1⟩ := at_T59 HR1.out x5_1 p298 q298
      cases e298
      replace p298 := eq_true p298
      replace q298 := eq_true q298
      go_wp2
      repeat (go_quiet (fail);try go_wp2)
      go_roundg k1
      case measure => have := HK1.out;omega
      case rel => exact ⟨(wrap64 (x5_1 + 1)),Y12,H',⟨by have := HK1.out;omega⟩,by repeat (first | exact Drawn0.refl _ | apply Drawn0.step)⟩
    ·rw [if_neg c4] at H
     have c4b0 : decide (x5_1 < (l0.length : Int)) = false := decide_eq_false c4
     clear c4
     obtain rfl := Option.some.inj H
     go_wp2
     repeat (go_quiet (fail);try go_wp2)
     go_ret
     exact ⟨by first | rfl | (simp;done) | (simp [*];done),by repeat (first | exact Drawn0.refl _ | apply Drawn0.step)⟩
 ·rw [if_neg c3] at H
  have c3b0 : ((l0.length : Int) == (l1.length : Int)) = false := beq_eq_false_iff_ne.mpr c3
  have c3b1 : ((l0.length : Int) != (l1.length : Int)) = true := bne_iff_ne.mpr c3
  have c3b2 : (l0.length == l1.length) = false := by first | simpa using c3 | (simp at c3 ⊢;omega)
  obtain rfl := Option.some.inj H
  go_enter Try.func13,Try.ntmps13
  go_wp2
  repeat (go_quiet (fail);try go_wp2)
  go_ret
  exact ⟨by first | rfl | (simp;done) | (simp [*];done),by repeat (first | exact Drawn0.refl _ | apply Drawn0.step)⟩
def plenumlaw56_theirs.l0 : Nat → List (S51) → List (S59) → Int → Option ((List (S59)))
 | 0,_,_,_ => none
 | k + 1,x0,x3,x4 => if x4 < (x0.length : Int) then (if 0 ≤ x4 then (if x3.length < 8796093022208 then (plenumlaw56_theirs.l0 k x0 (x3 ++ [(⟨(rd_T51 x0 x4).f0,(rd_T51 x0 x4).f1⟩ : S59)]) (wrap64 (x4 + 1))) else (none)) else (none)) else (some x3)
def plenumlaw56_theirs.f (k : Nat) (l0 : List (S51)) : Option ((List (S59))) := plenumlaw56_theirs.l0 k l0 (([] : List (S59))) 0
theorem plenumlaw56_theirs.mono_l : ∀ k,(∀ y0 y1 y2,LeO (plenumlaw56_theirs.l0 k y0 y1 y2) (plenumlaw56_theirs.l0 (k + 1) y0 y1 y2))
 | 0 => fun _ _ _ r h => by simp [plenumlaw56_theirs.l0] at h
 | k + 1 => by
  have ih0 := plenumlaw56_theirs.mono_l k
  ·intro y0 y1 y2
   unfold plenumlaw56_theirs.l0
   repeat' first
   | (with_reducible exact ih0 _ _ _)
   | (with_reducible exact LeO.refl _)
   | (with_reducible exact LeO.none _)
   | (with_reducible refine LeO.ite ?_ ?_)
   | (with_reducible refine LeO.bind ?_ (fun _ => ?_))
   | exact ih0 _ _ _
   | exact LeO.none _
   | refine LeO.ite ?_ ?_
   | refine LeO.bind ?_ (fun _ => ?_)
theorem plenumlaw56_theirs.mono : ∀ a0 k,LeO (plenumlaw56_theirs.f k a0) (plenumlaw56_theirs.f (k + 1) a0) := by
 intro a0 k
 have ih0 := plenumlaw56_theirs.mono_l k
 unfold plenumlaw56_theirs.f
 repeat' first
   | (with_reducible exact ih0 _ _ _)
   | (with_reducible exact LeO.refl _)
   | (with_reducible exact LeO.none _)
   | (with_reducible refine LeO.ite ?_ ?_)
   | (with_reducible refine LeO.bind ?_ (fun _ => ?_))
   | exact ih0 _ _ _
   | exact LeO.none _
   | refine LeO.ite ?_ ?_
   | refine LeO.bind ?_ (fun _ => ?_)
set_option maxHeartbeats 100000000 in
set_option maxRecDepth 100000 in
theorem plenumlaw56_theirs.calls (k : Nat) (A0 : Option Addr) (c0 : Nat) (l0 : List (S51)) (r : List (S59)) (w : World) (hr0 : Kd.C k51 w A0 l0.length l0) (hc0 : l0.length ≤ c0) (h : plenumlaw56_theirs.f k l0 = some r) :
  Calls Try.prog 14 #[.slice A0 l0.length c0] w fun e w' => ∃ v0_ : Value,e = .returned (v0_) ∧ Kd.R k59 59 w' w.heap.size (fun _ => True) v0_ r ∧ Below w.heap.size w w' := by
 have hu51 := Try.underlying51
 have HR0 := Yd hr0
 have HC0 := Yd hc0
 clear hr0 hc0
 have HB := Yd (Below.refl w.heap.size w)
 have H : (plenumlaw56_theirs.l0 k l0 (([] : List (S59))) 0) = some r := h
 clear h
 obtain ⟨y299,hy299⟩ : ∃ y_ : List (S59),y_ = (([] : List (S59))) := ⟨_,rfl⟩
 replace H : (plenumlaw56_theirs.l0 k l0 y299 0) = some r := by first | (rw [hy299];with_reducible exact H) | (have H2_ := (Option.bind_some _ _).symm.trans H;rw [hy299];with_reducible exact H2_) | (have H2_ := (Option.bind_some _ _).symm.trans H;with_reducible exact H2_) | with_reducible exact H | (rw [hy299];exact H) | exact H
 have Ny299 := Yd hy299
 clear hy299
 have H' := Yd H
 clear H
 go_enter Try.func14,Try.ntmps14
 go_wp2_with (first | ((with_reducible refine gate_dst (N := 5) rfl ?_);refine Kd.R_lit k59 _ 59 ?hg (N := 5) ?hd (xs := ([] : List (S59))) (inner := []) (ok := fun _ => True) (okp := fun _ => True) ?hr ?hp (fun _ hk => hk) trivial (Below.refl _ _) (Nat.le_refl _) (by simp) ?_;(case hd => rfl);(case hg => rfl);(case hr => first | (go_simp;done) | (go_simp;rfl));(case hp => exact (Reps.none _ _));intro v300 w2 ho3 hb hg_ hnew_;clear hg_ hnew_;(first | rw [← Ny299.out] at ho3 | (simp only [Int.reduceToNat] at ho3;rw [← Ny299.out] at ho3));have n0_ := Yd (Kd.R_lower ho3 (below_size (Y3 HB.out)));have n1_ := Yd (below_step (Y3 HB.out) hb);clear HB;have HO301 := n0_;have HB := n1_;clear n0_ n1_;clear hb ho3))
 go_loopg [3,4] k (fun kq v3 v4 w' => ∃ (x3_1 : List (S59)) (x4_1 : Int),v4 = .int .i64 x4_1 ∧ Aside0 (plenumlaw56_theirs.l0 kq l0 x3_1 x4_1 = some r) ∧ Aside0 (kq ≤ k) ∧ Aside0 (Kd.R k59 59 w' w.heap.size (fun _ => True) v3 x3_1) ∧ Aside0 (Below w.heap.size w w'))
 case atStart => exact ⟨(y299),(0),Y12,H',⟨Nat.le_refl _⟩,⟨Y5 HO301.out⟩,⟨Y3 HB.out⟩⟩
 case round =>
  clear H'
  try clear c1
  try clear p2
  obtain ⟨x3_1,x4_1,rfl,HA,HK1,HO_3,HB⟩ := hrel
  cases gk with
  | zero => exact absurd HA.out (by simp [plenumlaw56_theirs.l0])
  | succ k1 =>
   have H := HA.out
   clear HA
   simp only [plenumlaw56_theirs.l0] at H
   by_cases c4 : x4_1 < (l0.length : Int)
   ·rw [if_pos c4] at H
    have c4b0 : decide (x4_1 < (l0.length : Int)) = true := decide_eq_true c4
    clear c4
    by_cases c5 : 0 ≤ x4_1
    case neg => rw [if_neg c5] at H;exact absurd H (by simp)
    rw [if_pos c5] at H
    have c5b0 : decide (0 ≤ x4_1) = true := decide_eq_true c5
    clear c5
    by_cases c6 : x3_1.length < 8796093022208
    case neg => rw [if_neg c6] at H;exact absurd H (by simp)
    rw [if_pos c6] at H
    have LMc6 := Yd c6
    clear c6
    obtain ⟨y303,hy303⟩ : ∃ y_ : List (S59),y_ = (x3_1 ++ [(⟨(rd_T51 l0 x4_1).f0,(rd_T51 l0 x4_1).f1⟩ : S59)]) := ⟨_,rfl⟩
    replace H : (plenumlaw56_theirs.l0 k1 l0 y303 (wrap64 (x4_1 + 1))) = some r := by first | (rw [hy303];with_reducible exact H) | (have H2_ := (Option.bind_some _ _).symm.trans H;rw [hy303];with_reducible exact H2_) | (have H2_ := (Option.bind_some _ _).symm.trans H;with_reducible exact H2_) | with_reducible exact H | (rw [hy303];exact H) | exact H
    have Ny303 := Yd hy303
    clear hy303
    have H' := Yd H
    clear H
    have p302 : 0 ≤ (x4_1 : Int) := Y9
    have q302 : x4_1 < (l0.length : Int) := Y9
    obtain ⟨ad302,e302,hx302_0,hx302_1⟩ := at_T51 HR0.out x4_1 p302 q302
    cases e302
    replace hx302_0 := Y10 HB.out hx302_0
    replace hx302_1 := Y10 HB.out hx302_1
    replace p302 := eq_true p302
    replace q302 := eq_true q302
    go_wp2_with (first | ((with_reducible refine gate_builtin (b := .append) (xs := #[.tmp 12,.tmp 17]) rfl ?_);at_builtin;refine Kd.R_append k59 (w0 := w) w.heap.size rfl (.tmp 12) (.tmp 17) 23 59 (.agg #[(.bool false),(.int .i64 0)]) 16 rfl Try.underlying23 info59 rfl (by decide) (by omega) u3 x3_1 (⟨(rd_T51 l0 x4_1).f0,(rd_T51 l0 x4_1).f1⟩ : S59) [.bool ((rd_T51 l0 x4_1).f0),.int .i64 ((rd_T51 l0 x4_1).f1)] (fun _ => True) (fun _ => False) rfl rfl ?aP (fun _ hk => hk.elim) ?aF ?aO ?aB ?aS ?aL ?_;(case aP => exact k59_mkM _ _ _ (⟨(rd_T51 l0 x4_1).f0,(rd_T51 l0 x4_1).f1⟩ : S59));(case aB => exact (Y3 HB.out));(case aF => exact (fun _ _ => trivial));(case aO => exact (Y5 HO_3.out));(case aS => exact (below_size (Y3 HB.out)));(case aL => have := LMc6.out;omega);intro v304 w7 ho hb hg hat;rw [← Ny303.out] at ho;have n0_ := Yd (hb);have n1_ := Yd (ho);clear HB;clear HO_3;have HB := n0_;have HO305 := n1_;clear n0_ n1_;clear ho hb hg hat))
    go_roundg k1
    case measure => have := HK1.out;omega
    case rel => exact ⟨(y303),(wrap64 (x4_1 + 1)),Y12,H',⟨by have := HK1.out;omega⟩,⟨Y5 HO305.out⟩,⟨Y3 HB.out⟩⟩
   ·rw [if_neg c4] at H
    have c4b0 : decide (x4_1 < (l0.length : Int)) = false := decide_eq_false c4
    clear c4
    obtain rfl := Option.some.inj H
    go_wp2
    go_ret
    exact ⟨_,by first | rfl | (simp [errW_none,errW_some] <;> rfl) | (simp [*,errW_none,errW_some] <;> rfl),by (with_reducible repeat (first | apply Kd.R_alloc | apply Kd.R_drewN | apply Kd.R_drew));exact HO_3.out,Y3 HB.out⟩
def plenumref56_before.f (a0_0 : ByteArray) (a0_1 : Int) (a0_2 : Int) (a0_3 : Int) (a0_4 : Int) (a1_0 : ByteArray) (a1_1 : Int) (a1_2 : Int) (a1_3 : Int) (a1_4 : Int) : Option (Bool) := if a0_1 = a1_1 then (if a0_2 = a1_2 then (some (Op.bytesLess a0_0.toList a1_0.toList)) else (some (decide (a0_2 > a1_2)))) else (some (decide (a0_1 > a1_1)))
set_option maxHeartbeats 100000000 in
set_option maxRecDepth 100000 in
theorem plenumref56_before.calls (a0_0 : ByteArray) (a0_1 : Int) (a0_2 : Int) (a0_3 : Int) (a0_4 : Int) (a1_0 : ByteArray) (a1_1 : Int) (a1_2 : Int) (a1_3 : Int) (a1_4 : Int) (r : Bool) (w : World) (h : plenumref56_before.f a0_0 a0_1 a0_2 a0_3 a0_4 a1_0 a1_1 a1_2 a1_3 a1_4 = some r) :
  Calls Try.prog 50 #[.agg #[.string a0_0,.int .i64 a0_1,.int .i64 a0_2,.int .i64 a0_3,.int .i64 a0_4],.agg #[.string a1_0,.int .i64 a1_1,.int .i64 a1_2,.int .i64 a1_3,.int .i64 a1_4]] w fun e w' => e = .returned (.bool r) ∧ Below w.heap.size w w' := by
 have hu43 := Try.underlying43
 have HB := Yd (Below.refl w.heap.size w)
 have H : (if a0_1 = a1_1 then (if a0_2 = a1_2 then (some (Op.bytesLess a0_0.toList a1_0.toList)) else (some (decide (a0_2 > a1_2)))) else (some (decide (a0_1 > a1_1)))) = some r := h
 clear h
 by_cases c3 : a0_1 = a1_1
 ·rw [if_pos c3] at H
  have c3b0 : (a0_1 == a1_1) = true := beq_iff_eq.mpr c3
  have c3b1 : (a0_1 != a1_1) = false := bne_eq_false_iff_eq.mpr c3
  clear c3
  by_cases c4 : a0_2 = a1_2
  ·rw [if_pos c4] at H
   have c4b0 : (a0_2 == a1_2) = true := beq_iff_eq.mpr c4
   have c4b1 : (a0_2 != a1_2) = false := bne_eq_false_iff_eq.mpr c4
   clear c4
   obtain rfl := Option.some.inj H
   go_enter Try.func50,Try.ntmps50
   go_wp2_with (first | ((with_reducible refine gate_dst (N := 2) rfl ?_);refine box_event ?hg (N := 2) ?hd (cs := #[.string a0_0,.int .i64 a0_1,.int .i64 a0_2,.int .i64 a0_3,.int .i64 a0_4]) (t := 43) ?hr ?_;(case hd => rfl);(case hg => rfl);(case hr => first | (go_simp;done) | (go_simp;rfl));intro gb306 hg w5 hbox hb;have n0_ := Yd (below_step (Y3 HB.out) hb);have n1_ := Yd (hbox);have n2_ := Yd ((by rw [hg];exact (below_size (Y3 HB.out)) : w.heap.size ≤ gb306));have n3_ := Yd ((by rw [hg];exact (below_size (Y3 HB.out)) : w.heap.size ≤ gb306));clear HB;have HB := n0_;have BK306 := n1_;have GW306 := n2_;have GE306 := n3_;clear n0_ n1_ n2_ n3_;clear hb hbox hg) | ((with_reducible refine gate_dst (N := 3) rfl ?_);refine box_event ?hg (N := 3) ?hd (cs := #[.string a1_0,.int .i64 a1_1,.int .i64 a1_2,.int .i64 a1_3,.int .i64 a1_4]) (t := 43) ?hr ?_;(case hd => rfl);(case hg => rfl);(case hr => first | (go_simp;done) | (go_simp;rfl));intro gb307 hg w6 hbox hb;have n0_ := Yd (blk_below (g := gb306) (o := .cells #[.string a0_0,.int .i64 a0_1,.int .i64 a0_2,.int .i64 a0_3,.int .i64 a0_4] 43 (0,0)) (Y6 BK306.out) hb);have n1_ := Yd (below_step (by first | exact Y4 HB.out GE306.out | exact Y3 HB.out) hb);have n2_ := Yd (hbox);have n3_ := Yd ((by rw [hg];exact (below_size (by first | exact Y4 HB.out GE306.out | exact Y3 HB.out)) : w.heap.size ≤ gb307));have n4_ := Yd ((by rw [hg];exact (below_size (by first | exact Y4 HB.out GE306.out | exact Y3 HB.out)) : w.heap.size ≤ gb307));have n5_ := Yd ((by rw [hg];exact Nat.ne_of_lt (blk_lt (g := gb306) (o := .cells #[.string a0_0,.int .i64 a0_1,.int .i64 a0_2,.int .i64 a0_3,.int .i64 a0_4] 43 (0,0)) (Y6 BK306.out)) : gb306 ≠ gb307));have n6_ := Yd ((by rw [hg];exact Nat.ne_of_gt (blk_lt (g := gb306) (o := .cells #[.string a0_0,.int .i64 a0_1,.int .i64 a0_2,.int .i64 a0_3,.int .i64 a0_4] 43 (0,0)) (Y6 BK306.out)) : gb307 ≠ gb306));clear BK306;clear HB;have BK306 := n0_;have HB := n1_;have BK307 := n2_;have GW307 := n3_;have GE307 := n4_;have NB306_307 := n5_;have NB307_306 := n6_;clear n0_ n1_ n2_ n3_ n4_ n5_ n6_;clear hb hbox hg;have hnb7 := NB306_307.out;have hnc7 := NB307_306.out;have hcz8_0 : w6.cell? ⟨gb306,0,none⟩ = some (.string a0_0) := (blk_cell BK306.out 0).trans rfl;have hcz8_1 : w6.cell? ⟨gb306,1,none⟩ = some (.int .i64 a0_1) := (blk_cell BK306.out 1).trans rfl;have hcz8_2 : w6.cell? ⟨gb306,2,none⟩ = some (.int .i64 a0_2) := (blk_cell BK306.out 2).trans rfl;have hcz8_3 : w6.cell? ⟨gb306,3,none⟩ = some (.int .i64 a0_3) := (blk_cell BK306.out 3).trans rfl;have hcz8_4 : w6.cell? ⟨gb306,4,none⟩ = some (.int .i64 a0_4) := (blk_cell BK306.out 4).trans rfl;have hfz8_0 := blk_frozen BK306.out 0;have hfz8_1 := blk_frozen BK306.out 1;have hfz8_2 := blk_frozen BK306.out 2;have hfz8_3 := blk_frozen BK306.out 3;have hfz8_4 := blk_frozen BK306.out 4;have hcz9_0 : w6.cell? ⟨gb307,0,none⟩ = some (.string a1_0) := (blk_cell BK307.out 0).trans rfl;have hcz9_1 : w6.cell? ⟨gb307,1,none⟩ = some (.int .i64 a1_1) := (blk_cell BK307.out 1).trans rfl;have hcz9_2 : w6.cell? ⟨gb307,2,none⟩ = some (.int .i64 a1_2) := (blk_cell BK307.out 2).trans rfl;have hcz9_3 : w6.cell? ⟨gb307,3,none⟩ = some (.int .i64 a1_3) := (blk_cell BK307.out 3).trans rfl;have hcz9_4 : w6.cell? ⟨gb307,4,none⟩ = some (.int .i64 a1_4) := (blk_cell BK307.out 4).trans rfl;have hfz9_0 := blk_frozen BK307.out 0;have hfz9_1 := blk_frozen BK307.out 1;have hfz9_2 := blk_frozen BK307.out 2;have hfz9_3 := blk_frozen BK307.out 3;have hfz9_4 := blk_frozen BK307.out 4))
   go_ret
   exact ⟨by first | rfl | (simp [errW_none,errW_some] <;> rfl) | (simp [*,errW_none,errW_some] <;> rfl),by repeat (first | (with_reducible first | exact HB.out | apply below_alloc | apply Y15 | apply below_drew1 | refine below_set ?_ GE306.out | refine below_set ?_ GE307.out) | exact HB.out)⟩
  ·rw [if_neg c4] at H
   have c4b0 : (a0_2 == a1_2) = false := beq_eq_false_iff_ne.mpr c4
   have c4b1 : (a0_2 != a1_2) = true := bne_iff_ne.mpr c4
   obtain rfl := Option.some.inj H
   go_enter Try.func50,Try.ntmps50
   go_wp2_with (first | ((with_reducible refine gate_dst (N := 2) rfl ?_);refine box_event ?hg (N := 2) ?hd (cs := #[.string a0_0,.int .i64 a0_1,.int .i64 a0_2,.int .i64 a0_3,.int .i64 a0_4]) (t := 43) ?hr ?_;(case hd => rfl);(case hg => rfl);(case hr => first | (go_simp;done) | (go_simp;rfl));intro gb306 hg w10 hbox hb;have n0_ := Yd (below_step (Y3 HB.out) hb);have n1_ := Yd (hbox);have n2_ := Yd ((by rw [hg];exact (below_size (Y3 HB.out)) : w.heap.size ≤ gb306));have n3_ := Yd ((by rw [hg];exact (below_size (Y3 HB.out)) : w.heap.size ≤ gb306));clear HB;have HB := n0_;have BK306 := n1_;have GW306 := n2_;have GE306 := n3_;clear n0_ n1_ n2_ n3_;clear hb hbox hg) | ((with_reducible refine gate_dst (N := 3) rfl ?_);refine box_event ?hg (N := 3) ?hd (cs := #[.string a1_0,.int .i64 a1_1,.int .i64 a1_2,.int .i64 a1_3,.int .i64 a1_4]) (t := 43) ?hr ?_;(case hd => rfl);(case hg => rfl);(case hr => first | (go_simp;done) | (go_simp;rfl));intro gb307 hg w11 hbox hb;have n0_ := Yd (blk_below (g := gb306) (o := .cells #[.string a0_0,.int .i64 a0_1,.int .i64 a0_2,.int .i64 a0_3,.int .i64 a0_4] 43 (0,0)) (Y6 BK306.out) hb);have n1_ := Yd (below_step (by first | exact Y4 HB.out GE306.out | exact Y3 HB.out) hb);have n2_ := Yd (hbox);have n3_ := Yd ((by rw [hg];exact (below_size (by first | exact Y4 HB.out GE306.out | exact Y3 HB.out)) : w.heap.size ≤ gb307));have n4_ := Yd ((by rw [hg];exact (below_size (by first | exact Y4 HB.out GE306.out | exact Y3 HB.out)) : w.heap.size ≤ gb307));have n5_ := Yd ((by rw [hg];exact Nat.ne_of_lt (blk_lt (g := gb306) (o := .cells #[.string a0_0,.int .i64 a0_1,.int .i64 a0_2,.int .i64 a0_3,.int .i64 a0_4] 43 (0,0)) (Y6 BK306.out)) : gb306 ≠ gb307));have n6_ := Yd ((by rw [hg];exact Nat.ne_of_gt (blk_lt (g := gb306) (o := .cells #[.string a0_0,.int .i64 a0_1,.int .i64 a0_2,.int .i64 a0_3,.int .i64 a0_4] 43 (0,0)) (Y6 BK306.out)) : gb307 ≠ gb306));clear BK306;clear HB;have BK306 := n0_;have HB := n1_;have BK307 := n2_;have GW307 := n3_;have GE307 := n4_;have NB306_307 := n5_;have NB307_306 := n6_;clear n0_ n1_ n2_ n3_ n4_ n5_ n6_;clear hb hbox hg;have hnb12 := NB306_307.out;have hnc12 := NB307_306.out;have hcz13_0 : w11.cell? ⟨gb306,0,none⟩ = some (.string a0_0) := (blk_cell BK306.out 0).trans rfl;have hcz13_1 : w11.cell? ⟨gb306,1,none⟩ = some (.int .i64 a0_1) := (blk_cell BK306.out 1).trans rfl;have hcz13_2 : w11.cell? ⟨gb306,2,none⟩ = some (.int .i64 a0_2) := (blk_cell BK306.out 2).trans rfl;have hcz13_3 : w11.cell? ⟨gb306,3,none⟩ = some (.int .i64 a0_3) := (blk_cell BK306.out 3).trans rfl;have hcz13_4 : w11.cell? ⟨gb306,4,none⟩ = some (.int .i64 a0_4) := (blk_cell BK306.out 4).trans rfl;have hfz13_0 := blk_frozen BK306.out 0;have hfz13_1 := blk_frozen BK306.out 1;have hfz13_2 := blk_frozen BK306.out 2;have hfz13_3 := blk_frozen BK306.out 3;have hfz13_4 := blk_frozen BK306.out 4;have hcz14_0 : w11.cell? ⟨gb307,0,none⟩ = some (.string a1_0) := (blk_cell BK307.out 0).trans rfl;have hcz14_1 : w11.cell? ⟨gb307,1,none⟩ = some (.int .i64 a1_1) := (blk_cell BK307.out 1).trans rfl;have hcz14_2 : w11.cell? ⟨gb307,2,none⟩ = some (.int .i64 a1_2) := (blk_cell BK307.out 2).trans rfl;have hcz14_3 : w11.cell? ⟨gb307,3,none⟩ = some (.int .i64 a1_3) := (blk_cell BK307.out 3).trans rfl;have hcz14_4 : w11.cell? ⟨gb307,4,none⟩ = some (.int .i64 a1_4) := (blk_cell BK307.out 4).trans rfl;have hfz14_0 := blk_frozen BK307.out 0;have hfz14_1 := blk_frozen BK307.out 1;have hfz14_2 := blk_frozen BK307.out 2;have hfz14_3 := blk_frozen BK307.out 3;have hfz14_4 := blk_frozen BK307.out 4))
   go_ret
   exact ⟨by first | rfl | (simp [errW_none,errW_some] <;> rfl) | (simp [*,errW_none,errW_some] <;> rfl),by repeat (first | (with_reducible first | exact HB.out | apply below_alloc | apply Y15 | apply below_drew1 | refine below_set ?_ GE306.out | refine below_set ?_ GE307.out) | exact HB.out)⟩
 ·rw [if_neg c3] at H
  have c3b0 : (a0_1 == a1_1) = false := beq_eq_false_iff_ne.mpr c3
  have c3b1 : (a0_1 != a1_1) = true := bne_iff_ne.mpr c3
  obtain rfl := Option.some.inj H
  go_enter Try.func50,Try.ntmps50
  go_wp2_with (first | ((with_reducible refine gate_dst (N := 2) rfl ?_);refine box_event ?hg (N := 2) ?hd (cs := #[.string a0_0,.int .i64 a0_1,.int .i64 a0_2,.int .i64 a0_3,.int .i64 a0_4]) (t := 43) ?hr ?_;(case hd => rfl);(case hg => rfl);(case hr => first | (go_simp;done) | (go_simp;rfl));intro gb306 hg w15 hbox hb;have n0_ := Yd (below_step (Y3 HB.out) hb);have n1_ := Yd (hbox);have n2_ := Yd ((by rw [hg];exact (below_size (Y3 HB.out)) : w.heap.size ≤ gb306));have n3_ := Yd ((by rw [hg];exact (below_size (Y3 HB.out)) : w.heap.size ≤ gb306));clear HB;have HB := n0_;have BK306 := n1_;have GW306 := n2_;have GE306 := n3_;clear n0_ n1_ n2_ n3_;clear hb hbox hg) | ((with_reducible refine gate_dst (N := 3) rfl ?_);refine box_event ?hg (N := 3) ?hd (cs := #[.string a1_0,.int .i64 a1_1,.int .i64 a1_2,.int .i64 a1_3,.int .i64 a1_4]) (t := 43) ?hr ?_;(case hd => rfl);(case hg => rfl);(case hr => first | (go_simp;done) | (go_simp;rfl));intro gb307 hg w16 hbox hb;have n0_ := Yd (blk_below (g := gb306) (o := .cells #[.string a0_0,.int .i64 a0_1,.int .i64 a0_2,.int .i64 a0_3,.int .i64 a0_4] 43 (0,0)) (Y6 BK306.out) hb);have n1_ := Yd (below_step (by first | exact Y4 HB.out GE306.out | exact Y3 HB.out) hb);have n2_ := Yd (hbox);have n3_ := Yd ((by rw [hg];exact (below_size (by first | exact Y4 HB.out GE306.out | exact Y3 HB.out)) : w.heap.size ≤ gb307));have n4_ := Yd ((by rw [hg];exact (below_size (by first | exact Y4 HB.out GE306.out | exact Y3 HB.out)) : w.heap.size ≤ gb307));have n5_ := Yd ((by rw [hg];exact Nat.ne_of_lt (blk_lt (g := gb306) (o := .cells #[.string a0_0,.int .i64 a0_1,.int .i64 a0_2,.int .i64 a0_3,.int .i64 a0_4] 43 (0,0)) (Y6 BK306.out)) : gb306 ≠ gb307));have n6_ := Yd ((by rw [hg];exact Nat.ne_of_gt (blk_lt (g := gb306) (o := .cells #[.string a0_0,.int .i64 a0_1,.int .i64 a0_2,.int .i64 a0_3,.int .i64 a0_4] 43 (0,0)) (Y6 BK306.out)) : gb307 ≠ gb306));clear BK306;clear HB;have BK306 := n0_;have HB := n1_;have BK307 := n2_;have GW307 := n3_;have GE307 := n4_;have NB306_307 := n5_;have NB307_306 := n6_;clear n0_ n1_ n2_ n3_ n4_ n5_ n6_;clear hb hbox hg;have hnb17 := NB306_307.out;have hnc17 := NB307_306.out;have hcz18_0 : w16.cell? ⟨gb306,0,none⟩ = some (.string a0_0) := (blk_cell BK306.out 0).trans rfl;have hcz18_1 : w16.cell? ⟨gb306,1,none⟩ = some (.int .i64 a0_1) := (blk_cell BK306.out 1).trans rfl;have hcz18_2 : w16.cell? ⟨gb306,2,none⟩ = some (.int .i64 a0_2) := (blk_cell BK306.out 2).trans rfl;have hcz18_3 : w16.cell? ⟨gb306,3,none⟩ = some (.int .i64 a0_3) := (blk_cell BK306.out 3).trans rfl;have hcz18_4 : w16.cell? ⟨gb306,4,none⟩ = some (.int .i64 a0_4) := (blk_cell BK306.out 4).trans rfl;have hfz18_0 := blk_frozen BK306.out 0;have hfz18_1 := blk_frozen BK306.out 1;have hfz18_2 := blk_frozen BK306.out 2;have hfz18_3 := blk_frozen BK306.out 3;have hfz18_4 := blk_frozen BK306.out 4;have hcz19_0 : w16.cell? ⟨gb307,0,none⟩ = some (.string a1_0) := (blk_cell BK307.out 0).trans rfl;have hcz19_1 : w16.cell? ⟨gb307,1,none⟩ = some (.int .i64 a1_1) := (blk_cell BK307.out 1).trans rfl;have hcz19_2 : w16.cell? ⟨gb307,2,none⟩ = some (.int .i64 a1_2) := (blk_cell BK307.out 2).trans rfl;have hcz19_3 : w16.cell? ⟨gb307,3,none⟩ = some (.int .i64 a1_3) := (blk_cell BK307.out 3).trans rfl;have hcz19_4 : w16.cell? ⟨gb307,4,none⟩ = some (.int .i64 a1_4) := (blk_cell BK307.out 4).trans rfl;have hfz19_0 := blk_frozen BK307.out 0;have hfz19_1 := blk_frozen BK307.out 1;have hfz19_2 := blk_frozen BK307.out 2;have hfz19_3 := blk_frozen BK307.out 3;have hfz19_4 := blk_frozen BK307.out 4))
  go_ret
  exact ⟨by first | rfl | (simp [errW_none,errW_some] <;> rfl) | (simp [*,errW_none,errW_some] <;> rfl),by repeat (first | (with_reducible first | exact HB.out | apply below_alloc | apply Y15 | apply below_drew1 | refine below_set ?_ GE306.out | refine below_set ?_ GE307.out) | exact HB.out)⟩
end Go.Proofs.Ytcdjhdfjkfbgdaa.PD56
