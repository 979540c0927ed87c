/- Words, contracts and plain laws for this claim, part 3. -/
import Derived.Test.YtaoicdkjjjlmeaaZn2
set_option linter.unusedVariables false
set_option linter.unusedSimpArgs false
namespace Go.Proofs.Ytaoicdkjjjlmeaa.PD34
open Go.RowKit Go.Proofs.YtaoicdkjjjlmeaaW.PrintWords Go.Proofs.YtaoicdkjjjlmeaaW.PrintLast Go.Proofs.YtaoicdkjjjlmeaaW.PrintMore
attribute [local go_sem] max2_int min2_int max_two min_two max_three min_three max_four min_four
def api_Hold__c25.l0 : Nat → List (S26) → Int → Int → ByteArray → Option ((List (S26)))
 | 0,_,_,_,_ => none
 | k + 1,x0,x5,x6,x256000 => if x6 < (x0.length : Int) then (if 0 ≤ x6 then ((override_Remove_1_.f ((rd_T26 x0 x6).f0) ((rd_T26 x0 x6).f1) ((rd_T26 x0 x6).f2) ((rd_T26 x0 x6).f3.f0) ((rd_T26 x0 x6).f3.f1) ((rd_T26 x0 x6).f4) x256000).bind fun t267 => (if t267 = true then (api_Hold__c25.l0 k x0 x5 (wrap64 (x6 + 1)) x256000) else (if 0 ≤ x5 then (if x5 < (x0.length : Int) then (api_Hold__c25.l0 k (x0.set (x5 : Int).toNat (⟨(rd_T26 x0 x6).f0,(rd_T26 x0 x6).f1,(rd_T26 x0 x6).f2,(⟨(rd_T26 x0 x6).f3.f0,(rd_T26 x0 x6).f3.f1⟩ : S24),(rd_T26 x0 x6).f4⟩ : S26)) (wrap64 (x5 + 1)) (wrap64 (x6 + 1)) x256000) else (none)) else (none)))) else (none)) else (if 0 ≤ x5 then (if x5 ≤ (x0.length : Int) then (some ((x0.take (x5 : Int).toNat ++ List.replicate (x0.length - (x5 : Int).toNat) z26).take (x5 : Int).toNat)) else (none)) else (none))
def api_Hold__c25.f (k : Nat) (l0 : List (S26)) (a1_0 : ByteArray) : Option ((List (S26))) := (api_Hold__c25_.f k l0 a1_0).bind fun t256 => (if t256 = (-1) then (some l0) else (api_Hold__c25.l0 k l0 t256 (wrap64 (t256 + 1)) a1_0))
theorem api_Hold__c25.mono_l : ∀ k,(∀ y0 y1 y2 y3,LeO (api_Hold__c25.l0 k y0 y1 y2 y3) (api_Hold__c25.l0 (k + 1) y0 y1 y2 y3))
 | 0 => fun _ _ _ _ r h => by simp [api_Hold__c25.l0] at h
 | k + 1 => by
  have ih0 := api_Hold__c25.mono_l k
  ·intro y0 y1 y2 y3
   unfold api_Hold__c25.l0
   repeat' first
   | (with_reducible exact ih0 _ _ _ _)
   | (with_reducible exact api_Hold__c25_.mono _ _ _)
   | (with_reducible exact LeO.refl _)
   | (with_reducible exact LeO.none _)
   | (with_reducible refine LeO.ite ?_ ?_)
   | (with_reducible refine LeO.bind ?_ (fun _ => ?_))
   | exact ih0 _ _ _ _
   | exact api_Hold__c25_.mono _ _ _
   | exact LeO.none _
   | refine LeO.ite ?_ ?_
   | refine LeO.bind ?_ (fun _ => ?_)
theorem api_Hold__c25.mono : ∀ a0 a1 k,LeO (api_Hold__c25.f k a0 a1) (api_Hold__c25.f (k + 1) a0 a1) := by
 intro a0 a1 k
 have ih0 := api_Hold__c25.mono_l k
 unfold api_Hold__c25.f
 repeat' first
   | (with_reducible exact ih0 _ _ _ _)
   | (with_reducible exact api_Hold__c25_.mono _ _ _)
   | (with_reducible exact LeO.refl _)
   | (with_reducible exact LeO.none _)
   | (with_reducible refine LeO.ite ?_ ?_)
   | (with_reducible refine LeO.bind ?_ (fun _ => ?_))
   | exact ih0 _ _ _ _
   | exact api_Hold__c25_.mono _ _ _
   | exact LeO.none _
   | refine LeO.ite ?_ ?_
   | refine LeO.bind ?_ (fun _ => ?_)
set_option maxHeartbeats 100000000 in
set_option maxRecDepth 100000 in
theorem api_Hold__c25.calls (k : Nat) (P0_ : Nat → Prop) (u9000_ : Value) (l0 : List (S26)) (B1_0_ : Nat) (a1_0 : ByteArray) (r : List (S26)) (w0 w : World) (hB : Below w0.heap.size w0 w) (ho0 : Kd.R k26 26 w w0.heap.size P0_ u9000_ l0) (hx1_0_ : w.heap[B1_0_]? = some (.cells #[.string a1_0] 9 (0,0))) (hn1_0_ : ¬ P0_ B1_0_) (h : api_Hold__c25.f k l0 a1_0 = some r) :
  Calls Try.prog 21 #[u9000_,.func (.func 25) #[] #[.pointer (some ⟨B1_0_,0,none⟩)]] w fun e w' => ∃ v0_ : Value,e = .returned (v0_) ∧ Kd.R k26 26 w' w0.heap.size (fun k_ => (P0_ k_ ∨ w.heap.size ≤ k_)) v0_ r ∧ Below w0.heap.size w0 w' ∧ Kept w w' (fun k_ => P0_ k_) := by
 have hu26 := Try.underlying26
 have HO0 := Yd (show Kd.R k26 26 w w0.heap.size (fun k_ => (P0_ k_ ∨ w.heap.size ≤ k_) ∧ k_ ≠ B1_0_) u9000_ l0 from Kd.R_mono ho0 (fun k_ hk => ⟨(.inl hk),fun e_ => hn1_0_ (e_ ▸ hk)⟩))
 have BK255 := Yd hx1_0_
 clear hx1_0_
 have HK := Yd (Kept.refl w (fun k_ => P0_ k_))
 have HW0 := Yd hB.size
 have HB := Yd hB
 clear hB
 have H : ((api_Hold__c25_.f k l0 a1_0).bind fun t256 => (if t256 = (-1) then (some l0) else (api_Hold__c25.l0 k l0 t256 (wrap64 (t256 + 1)) a1_0))) = some r := h
 clear h
 replace H := Option.bind_eq_some_iff.mp H
 obtain ⟨t256,A30,H⟩ := H
 replace H : (if t256 = (-1) then (some l0) else (api_Hold__c25.l0 k l0 t256 (wrap64 (t256 + 1)) a1_0)) = some r := H
 have A3 := Yd A30
 clear A30
 by_cases c4 : t256 = (-1)
 ·rw [if_pos c4] at H
  have c4b0 : (t256 == (-1)) = true := beq_iff_eq.mpr c4
  have c4b1 : (t256 != (-1)) = false := bne_eq_false_iff_eq.mpr c4
  clear c4
  obtain rfl := Option.some.inj H
  obtain ⟨Ao5,co5,eo5⟩ := Kd.R_slice HO0.out
  subst eo5
  go_enter Try.func21,Try.ntmps21
  go_wp2_with (first | ((with_reducible refine gate_callee (f := 39) rfl ?_);refine goesL_ (some 10) rfl rfl Try.func39 (by kernel_rfl) rfl #[.slice Ao5 l0.length co5,.func (.func 25) #[] #[.pointer (some ⟨B1_0_,0,none⟩)]] rfl Y8 ?_;(with_reducible refine (api_Hold__c25_.calls k _ _ l0 B1_0_ a1_0 t256 _ ?side1 ?side2 ?side3 A3.out).mono ?_);(case side1 => repeat (first | exact (Kd.R_reads' HO0.out).2.2 | (with_reducible refine Kd.C_alloc ?_ _) | (with_reducible refine Kd.C_drewN ?_ _) | (with_reducible refine Kd.C_drew ?_)));(case side2 => exact (Kd.R_reads' HO0.out).2.1);(case side3 => exact (Y6 BK255.out));rintro e w6 ⟨rfl,hb⟩;refine ⟨_,rfl,?_⟩;have n0_ := Yd (Kd.R_below (Y5 HO0.out) hb);have n1_ := Yd (blk_below (g := B1_0_) (o := .cells #[.string a1_0] 9 (0,0)) (Y6 BK255.out) hb);have n2_ := Yd (Kept.below (S := (fun k_ => P0_ k_)) (by repeat (first | (with_reducible first | exact HK.out | apply Kept.alloc | apply Kept.drewN | apply Kept.drew | refine Kept.setCell ?_ (.inr GW255.out) _) | exact HK.out)) hb);have n3_ := Yd (below_step (by first | exact Y4 HB.out GE255.out | exact Y3 HB.out) hb);clear HO0;clear BK255;clear HK;clear HB;have HO0 := n0_;have BK255 := n1_;have HK := n2_;have HB := n3_;clear n0_ n1_ n2_ n3_;(try clear hb);(try clear hb2);(try clear hk);(try clear hi)))
  go_ret
  exact ⟨_,by first | rfl | (simp [errW_none,errW_some] <;> rfl) | (simp [*,errW_none,errW_some] <;> rfl),by (with_reducible repeat (first | apply Kd.R_alloc | apply Kd.R_drewN | apply Kd.R_drew));exact Kd.R_mono HO0.out (fun _ hk => hk.1),by repeat (first | (with_reducible first | exact HB.out | apply below_alloc | apply Y15 | apply below_drew1 | refine below_set ?_ GE255.out) | exact HB.out),by repeat (first | (with_reducible first | exact HK.out | apply Kept.alloc | apply Kept.drewN | apply Kept.drew | refine Kept.setCell ?_ (.inr GW255.out) _) | exact HK.out)⟩
 ·rw [if_neg c4] at H
  have c4b0 : (t256 == (-1)) = false := beq_eq_false_iff_ne.mpr c4
  have c4b1 : (t256 != (-1)) = true := bne_iff_ne.mpr c4
  have H' := Yd H
  clear H
  obtain ⟨Ao7,co7,eo7⟩ := Kd.R_slice HO0.out
  subst eo7
  go_enter Try.func21,Try.ntmps21
  go_wp2_with (first | ((with_reducible refine gate_callee (f := 39) rfl ?_);refine goesL_ (some 10) rfl rfl Try.func39 (by kernel_rfl) rfl #[.slice Ao7 l0.length co7,.func (.func 25) #[] #[.pointer (some ⟨B1_0_,0,none⟩)]] rfl Y8 ?_;(with_reducible refine (api_Hold__c25_.calls k _ _ l0 B1_0_ a1_0 t256 _ ?side1 ?side2 ?side3 A3.out).mono ?_);(case side1 => repeat (first | exact (Kd.R_reads' HO0.out).2.2 | (with_reducible refine Kd.C_alloc ?_ _) | (with_reducible refine Kd.C_drewN ?_ _) | (with_reducible refine Kd.C_drew ?_)));(case side2 => exact (Kd.R_reads' HO0.out).2.1);(case side3 => exact (Y6 BK255.out));rintro e w8 ⟨rfl,hb⟩;refine ⟨_,rfl,?_⟩;have n0_ := Yd (Kd.R_below (Y5 HO0.out) hb);have n1_ := Yd (blk_below (g := B1_0_) (o := .cells #[.string a1_0] 9 (0,0)) (Y6 BK255.out) hb);have n2_ := Yd (Kept.below (S := (fun k_ => P0_ k_)) (by repeat (first | (with_reducible first | exact HK.out | apply Kept.alloc | apply Kept.drewN | apply Kept.drew | refine Kept.setCell ?_ (.inr GW255.out) _) | exact HK.out)) hb);have n3_ := Yd (below_step (by first | exact Y4 HB.out GE255.out | exact Y3 HB.out) hb);clear HO0;clear BK255;clear HK;clear HB;have HO0 := n0_;have BK255 := n1_;have HK := n2_;have HB := n3_;clear n0_ n1_ n2_ n3_;(try clear hb);(try clear hb2);(try clear hk);(try clear hi)))
  go_loopg [5,6] k (fun kq v5 v6 w' => ∃ (x0_1 : List (S26)) (x5_1 : Int) (x6_1 : Int),v5 = .int .i64 x5_1 ∧ v6 = .int .i64 x6_1 ∧ Aside0 (api_Hold__c25.l0 kq x0_1 x5_1 x6_1 a1_0 = some r) ∧ Aside0 (kq ≤ k) ∧ Aside0 (Kd.R k26 26 w' w0.heap.size (fun k_ => (P0_ k_ ∨ w.heap.size ≤ k_)) (.slice Ao7 l0.length co7) x0_1) ∧ Aside0 (w'.heap[B1_0_]? = some (.cells #[.string a1_0] 9 (0,0))) ∧ Aside0 (Kept w w' (fun k_ => P0_ k_)) ∧ Aside0 (Below w0.heap.size w0 w'))
  case atStart => exact ⟨(l0),(t256),(wrap64 (t256 + 1)),Y12,Y12,H',⟨Nat.le_refl _⟩,⟨by (with_reducible repeat (first | apply Kd.R_alloc | apply Kd.R_drewN | apply Kd.R_drew));exact Kd.R_mono HO0.out (fun _ hk => hk.1)⟩,⟨Y6 BK255.out⟩,⟨by repeat (first | (with_reducible first | exact HK.out | apply Kept.alloc | apply Kept.drewN | apply Kept.drew | refine Kept.setCell ?_ (.inr GW255.out) _) | exact HK.out)⟩,⟨by repeat (first | (with_reducible first | exact HB.out | apply below_alloc | apply Y15 | apply below_drew1 | refine below_set ?_ GE255.out) | exact HB.out)⟩⟩
  case round =>
   clear H'
   try clear hx1
   try clear c2
   try clear p2
   try clear c3
   try clear c4
   try clear c4b0
   try clear c4b1
   try clear p6
   obtain ⟨x0_1,x5_1,x6_1,rfl,rfl,HA,HK1,HO_0,BK255,HK,HB⟩ := hrel
   have hl0_1 := (Kd.R_reads' HO_0.out).1
   rw [hl0_1] at HO_0
   (try simp only [hl0_1])
   (try simp only [hl0_1] at BK255)
   cases gk with
   | zero => exact absurd HA.out (by simp [api_Hold__c25.l0])
   | succ k1 =>
    have H := HA.out
    clear HA
    simp only [api_Hold__c25.l0] at H
    by_cases c9 : x6_1 < (x0_1.length : Int)
    ·rw [if_pos c9] at H
     have c9b0 : decide (x6_1 < (x0_1.length : Int)) = true := decide_eq_true c9
     (try simp only [hl0_1] at c9b0)
     clear c9
     by_cases c10 : 0 ≤ x6_1
     case neg => rw [if_neg c10] at H;exact absurd H (by simp)
     rw [if_pos c10] at H
     have c10b0 : decide (0 ≤ x6_1) = true := decide_eq_true c10
     clear c10
     replace H := Option.bind_eq_some_iff.mp H
     obtain ⟨t267,A110,H⟩ := H
     replace H : (if t267 = true then (api_Hold__c25.l0 k1 x0_1 x5_1 (wrap64 (x6_1 + 1)) a1_0) else (if 0 ≤ x5_1 then (if x5_1 < (x0_1.length : Int) then (api_Hold__c25.l0 k1 (x0_1.set (x5_1 : Int).toNat (⟨(rd_T26 x0_1 x6_1).f0,(rd_T26 x0_1 x6_1).f1,(rd_T26 x0_1 x6_1).f2,(⟨(rd_T26 x0_1 x6_1).f3.f0,(rd_T26 x0_1 x6_1).f3.f1⟩ : S24),(rd_T26 x0_1 x6_1).f4⟩ : S26)) (wrap64 (x5_1 + 1)) (wrap64 (x6_1 + 1)) a1_0) else (none)) else (none))) = some r := H
     have A11 := Yd A110
     clear A110
     by_cases c12 : t267 = true
     ·subst c12
      have H1 : (api_Hold__c25.l0 k1 x0_1 x5_1 (wrap64 (x6_1 + 1)) a1_0) = some r := by rw [if_pos rfl] at H;exact H
      clear H
      have H := H1
      clear H1
      have H' := Yd H
      clear H
      have p265 : 0 ≤ (x6_1 : Int) := Y9
      have q265 : x6_1 < (x0_1.length : Int) := Y9
      obtain ⟨ad265,e265,hx265_0,hx265_1,hx265_2,hx265_3,hx265_4,hx265_5⟩ := at_T26 (Kd.R_reads' HO_0.out).2.2 x6_1 p265 q265
      cases e265
      replace p265 := eq_true p265
      replace q265 := eq_true q265
      go_wp2_with (first | ((with_reducible refine gate_dst (N := 7) rfl ?_);refine box_event ?hg (N := 7) ?hd (cs := #[.string (⟨#[]⟩ : ByteArray),.int .i64 0,.int .i64 0,.int .i64 0,.int .i64 0,.int .i64 0]) (t := 26) ?hr ?_;(case hd => rfl);(case hg => rfl);(case hr => first | (go_simp;done) | (go_simp;rfl));intro gb266 hg w13 hbox hb;have n0_ := Yd (Kd.R_below (Kd.R_elderB (Y5 HO_0.out) gb266 (Nat.le_of_eq hg.symm)) hb);have n1_ := Yd (blk_below (g := B1_0_) (o := .cells #[.string a1_0] 9 (0,0)) (Y6 BK255.out) hb);have n2_ := Yd (Kept.below (S := (fun k_ => P0_ k_)) (by repeat (first | (with_reducible first | exact HK.out | apply Kept.alloc | apply Kept.drewN | apply Kept.drew | refine Kept.setCell ?_ (.inr GW255.out) _) | exact HK.out)) hb);have n3_ := Yd (below_step (by first | exact Y4 HB.out GE255.out | exact Y3 HB.out) hb);have n4_ := Yd (hbox);have n5_ := Yd ((by rw [hg];exact (by first | exact HK.out.1 | exact (show Kept w _ (fun k_ => P0_ k_) from by repeat (first | (with_reducible first | exact HK.out | apply Kept.alloc | apply Kept.drewN | apply Kept.drew | refine Kept.setCell ?_ (.inr GW255.out) _) | exact HK.out)).1) : w.heap.size ≤ gb266));have n6_ := Yd ((by rw [hg];exact (below_size (by first | exact Y4 HB.out GE255.out | exact Y3 HB.out)) : w0.heap.size ≤ gb266));have n7_ := Yd ((by rw [hg];exact Nat.ne_of_lt (blk_lt (g := B1_0_) (o := .cells #[.string a1_0] 9 (0,0)) (Y6 BK255.out)) : B1_0_ ≠ gb266));have n8_ := Yd ((by rw [hg];exact Nat.ne_of_gt (blk_lt (g := B1_0_) (o := .cells #[.string a1_0] 9 (0,0)) (Y6 BK255.out)) : gb266 ≠ B1_0_));clear HO_0;clear BK255;clear HK;clear HB;have HO_0 := n0_;have BK255 := n1_;have HK := n2_;have HB := n3_;have BK266 := n4_;have GW266 := n5_;have GE266 := n6_;have NB255_266 := n7_;have NB266_255 := n8_;clear n0_ n1_ n2_ n3_ n4_ n5_ n6_ n7_ n8_;clear hb hbox hg;have hnb14 := NB266_255.out;have hnc14 := NB255_266.out;have hcz15_0 : w13.cell? ⟨gb266,0,none⟩ = some (.string (⟨#[]⟩ : ByteArray)) := (blk_cell BK266.out 0).trans rfl;have hcz15_1 : w13.cell? ⟨gb266,1,none⟩ = some (.int .i64 0) := (blk_cell BK266.out 1).trans rfl;have hcz15_2 : w13.cell? ⟨gb266,2,none⟩ = some (.int .i64 0) := (blk_cell BK266.out 2).trans rfl;have hcz15_3 : w13.cell? ⟨gb266,3,none⟩ = some (.int .i64 0) := (blk_cell BK266.out 3).trans rfl;have hcz15_4 : w13.cell? ⟨gb266,4,none⟩ = some (.int .i64 0) := (blk_cell BK266.out 4).trans rfl;have hcz15_5 : w13.cell? ⟨gb266,5,none⟩ = some (.int .i64 0) := (blk_cell BK266.out 5).trans rfl;have hfz15_0 := blk_frozen BK266.out 0;have hfz15_1 := blk_frozen BK266.out 1;have hfz15_2 := blk_frozen BK266.out 2;have hfz15_3 := blk_frozen BK266.out 3;have hfz15_4 := blk_frozen BK266.out 4;have hfz15_5 := blk_frozen BK266.out 5) | (go_at_call 25;(with_reducible refine (override_Remove_1_.calls ((rd_T26 x0_1 x6_1).f0) ((rd_T26 x0_1 x6_1).f1) ((rd_T26 x0_1 x6_1).f2) ((rd_T26 x0_1 x6_1).f3.f0) ((rd_T26 x0_1 x6_1).f3.f1) ((rd_T26 x0_1 x6_1).f4) B1_0_ a1_0 true _ ?side1 A11.out).mono ?_);(case side1 => exact (by (with_reducible repeat (first | refine blk_drewN ?_ _ | refine blk_drew ?_ | refine blk_alloc ?_ _));refine blk_far ?_ NB255_266.out _;(with_reducible repeat (first | refine blk_drewN ?_ _ | refine blk_drew ?_ | refine blk_alloc ?_ _));refine blk_far ?_ NB255_266.out _;(with_reducible repeat (first | refine blk_drewN ?_ _ | refine blk_drew ?_ | refine blk_alloc ?_ _));refine blk_far ?_ NB255_266.out _;(with_reducible repeat (first | refine blk_drewN ?_ _ | refine blk_drew ?_ | refine blk_alloc ?_ _));refine blk_far ?_ NB255_266.out _;(with_reducible repeat (first | refine blk_drewN ?_ _ | refine blk_drew ?_ | refine blk_alloc ?_ _));refine blk_far ?_ NB255_266.out _;(with_reducible repeat (first | refine blk_drewN ?_ _ | refine blk_drew ?_ | refine blk_alloc ?_ _));refine blk_far ?_ NB255_266.out _;(with_reducible repeat (first | refine blk_drewN ?_ _ | refine blk_drew ?_ | refine blk_alloc ?_ _));exact BK255.out));rintro e w16 ⟨rfl,hb⟩;have n0_ := Yd (Kd.R_below (by (with_reducible repeat (first | apply Kd.R_alloc | apply Kd.R_drewN | apply Kd.R_drew));exact (Kd.R_mono (Kd.R_far (p := ⟨gb266,5,none⟩) (Kd.R_far (p := ⟨gb266,4,none⟩) (Kd.R_far (p := ⟨gb266,3,none⟩) (Kd.R_far (p := ⟨gb266,2,none⟩) (Kd.R_far (p := ⟨gb266,1,none⟩) (Kd.R_far (p := ⟨gb266,0,none⟩) (Kd.R_mono HO_0.out (fun k_ hk => (⟨hk,hk.2⟩ : _ ∧ k_ ≠ gb266))) (fun _ hk => hk.2) (.string ((rd_T26 x0_1 x6_1).f0))) (fun _ hk => hk.2) (.int .i64 ((rd_T26 x0_1 x6_1).f1))) (fun _ hk => hk.2) (.int .i64 ((rd_T26 x0_1 x6_1).f2))) (fun _ hk => hk.2) (.int .i64 ((rd_T26 x0_1 x6_1).f3.f0))) (fun _ hk => hk.2) (.int .i64 ((rd_T26 x0_1 x6_1).f3.f1))) (fun _ hk => hk.2) (.int .i64 ((rd_T26 x0_1 x6_1).f4))) (fun _ h_ => h_.1))) hb);have n1_ := Yd (blk_below (g := B1_0_) (o := .cells #[.string a1_0] 9 (0,0)) (by (with_reducible repeat (first | refine blk_drewN ?_ _ | refine blk_drew ?_ | refine blk_alloc ?_ _));refine blk_far ?_ NB255_266.out _;(with_reducible repeat (first | refine blk_drewN ?_ _ | refine blk_drew ?_ | refine blk_alloc ?_ _));refine blk_far ?_ NB255_266.out _;(with_reducible repeat (first | refine blk_drewN ?_ _ | refine blk_drew ?_ | refine blk_alloc ?_ _));refine blk_far ?_ NB255_266.out _;(with_reducible repeat (first | refine blk_drewN ?_ _ | refine blk_drew ?_ | refine blk_alloc ?_ _));refine blk_far ?_ NB255_266.out _;(with_reducible repeat (first | refine blk_drewN ?_ _ | refine blk_drew ?_ | refine blk_alloc ?_ _));refine blk_far ?_ NB255_266.out _;(with_reducible repeat (first | refine blk_drewN ?_ _ | refine blk_drew ?_ | refine blk_alloc ?_ _));refine blk_far ?_ NB255_266.out _;(with_reducible repeat (first | refine blk_drewN ?_ _ | refine blk_drew ?_ | refine blk_alloc ?_ _));exact BK255.out) hb);have n2_ := Yd (blk_below (g := gb266) (o := .cells #[.string ((rd_T26 x0_1 x6_1).f0),.int .i64 ((rd_T26 x0_1 x6_1).f1),.int .i64 ((rd_T26 x0_1 x6_1).f2),.int .i64 ((rd_T26 x0_1 x6_1).f3.f0),.int .i64 ((rd_T26 x0_1 x6_1).f3.f1),.int .i64 ((rd_T26 x0_1 x6_1).f4)] 26 (0,0)) (by (with_reducible repeat (first | refine blk_drewN ?_ _ | refine blk_drew ?_ | refine blk_alloc ?_ _));refine blk_put (cs := #[.string ((rd_T26 x0_1 x6_1).f0),.int .i64 ((rd_T26 x0_1 x6_1).f1),.int .i64 ((rd_T26 x0_1 x6_1).f2),.int .i64 ((rd_T26 x0_1 x6_1).f3.f0),.int .i64 ((rd_T26 x0_1 x6_1).f3.f1),.int .i64 0]) ?_ 5 _ rfl;(with_reducible repeat (first | refine blk_drewN ?_ _ | refine blk_drew ?_ | refine blk_alloc ?_ _));refine blk_put (cs := #[.string ((rd_T26 x0_1 x6_1).f0),.int .i64 ((rd_T26 x0_1 x6_1).f1),.int .i64 ((rd_T26 x0_1 x6_1).f2),.int .i64 ((rd_T26 x0_1 x6_1).f3.f0),.int .i64 0,.int .i64 0]) ?_ 4 _ rfl;(with_reducible repeat (first | refine blk_drewN ?_ _ | refine blk_drew ?_ | refine blk_alloc ?_ _));refine blk_put (cs := #[.string ((rd_T26 x0_1 x6_1).f0),.int .i64 ((rd_T26 x0_1 x6_1).f1),.int .i64 ((rd_T26 x0_1 x6_1).f2),.int .i64 0,.int .i64 0,.int .i64 0]) ?_ 3 _ rfl;(with_reducible repeat (first | refine blk_drewN ?_ _ | refine blk_drew ?_ | refine blk_alloc ?_ _));refine blk_put (cs := #[.string ((rd_T26 x0_1 x6_1).f0),.int .i64 ((rd_T26 x0_1 x6_1).f1),.int .i64 0,.int .i64 0,.int .i64 0,.int .i64 0]) ?_ 2 _ rfl;(with_reducible repeat (first | refine blk_drewN ?_ _ | refine blk_drew ?_ | refine blk_alloc ?_ _));refine blk_put (cs := #[.string ((rd_T26 x0_1 x6_1).f0),.int .i64 0,.int .i64 0,.int .i64 0,.int .i64 0,.int .i64 0]) ?_ 1 _ rfl;(with_reducible repeat (first | refine blk_drewN ?_ _ | refine blk_drew ?_ | refine blk_alloc ?_ _));refine blk_put (cs := #[.string (⟨#[]⟩ : ByteArray),.int .i64 0,.int .i64 0,.int .i64 0,.int .i64 0,.int .i64 0]) ?_ 0 _ rfl;(with_reducible repeat (first | refine blk_drewN ?_ _ | refine blk_drew ?_ | refine blk_alloc ?_ _));exact BK266.out) hb);have n3_ := Yd (Kept.below (S := (fun k_ => P0_ k_)) (by repeat (first | (with_reducible first | exact HK.out | apply Kept.alloc | apply Kept.drewN | apply Kept.drew | refine Kept.setCell ?_ (.inr GW255.out) _ | refine Kept.setCell ?_ (.inr GW266.out) _) | exact HK.out)) hb);have n4_ := Yd (below_step (by repeat (first | (with_reducible first | exact HB.out | apply below_alloc | apply Y15 | apply below_drew1 | refine below_set ?_ GE255.out | refine below_set ?_ GE266.out) | exact HB.out)) hb);clear HO_0;clear BK255;clear BK266;clear HK;clear HB;have HO_0 := n0_;have BK255 := n1_;have BK266 := n2_;have HK := n3_;have HB := n4_;clear n0_ n1_ n2_ n3_ n4_;(try clear hb);(try clear hb2);(try clear hk);(try clear hi)))
      (try simp only [← hl0_1])
      go_roundg k1
      case measure => have := HK1.out;omega
      case rel => exact ⟨(x0_1),(x5_1),(wrap64 (x6_1 + 1)),Y12,Y12,H',⟨by have := HK1.out;omega⟩,⟨by (try simp only [hl0_1]);(with_reducible repeat (first | apply Kd.R_alloc | apply Kd.R_drewN | apply Kd.R_drew));exact Kd.R_mono HO_0.out (fun _ hk => hk.1)⟩,⟨by (try simp only [hl0_1]);(with_reducible repeat (first | refine blk_drewN ?_ _ | refine blk_drew ?_ | refine blk_alloc ?_ _));exact BK255.out⟩,⟨by repeat (first | (with_reducible first | exact HK.out | apply Kept.alloc | apply Kept.drewN | apply Kept.drew | refine Kept.setCell ?_ (.inr GW255.out) _ | refine Kept.setCell ?_ (.inr GW266.out) _) | exact HK.out)⟩,⟨by repeat (first | (with_reducible first | exact HB.out | apply below_alloc | apply Y15 | apply below_drew1 | refine below_set ?_ GE255.out | refine below_set ?_ GE266.out) | exact HB.out)⟩⟩
     ·replace c12 := Bool.eq_false_iff.mpr c12
      subst c12
      have H1 : (if 0 ≤ x5_1 then (if x5_1 < (x0_1.length : Int) then (api_Hold__c25.l0 k1 (x0_1.set (x5_1 : Int).toNat (⟨(rd_T26 x0_1 x6_1).f0,(rd_T26 x0_1 x6_1).f1,(rd_T26 x0_1 x6_1).f2,(⟨(rd_T26 x0_1 x6_1).f3.f0,(rd_T26 x0_1 x6_1).f3.f1⟩ : S24),(rd_T26 x0_1 x6_1).f4⟩ : S26)) (wrap64 (x5_1 + 1)) (wrap64 (x6_1 + 1)) a1_0) else (none)) else (none)) = some r := by rw [if_neg (show ¬ (false = true) by decide)] at H;exact H
      clear H
      have H := H1
      clear H1
      by_cases c17 : 0 ≤ x5_1
      case neg => rw [if_neg c17] at H;exact absurd H (by simp)
      rw [if_pos c17] at H
      have c17b0 : decide (0 ≤ x5_1) = true := decide_eq_true c17
      clear c17
      by_cases c18 : x5_1 < (x0_1.length : Int)
      case neg => rw [if_neg c18] at H;exact absurd H (by simp)
      rw [if_pos c18] at H
      have c18b0 : decide (x5_1 < (x0_1.length : Int)) = true := decide_eq_true c18
      (try simp only [hl0_1] at c18b0)
      clear c18
      obtain ⟨y268,hy268⟩ : ∃ y_ : List (S26),y_ = (x0_1.set (x5_1 : Int).toNat (⟨(rd_T26 x0_1 x6_1).f0,(rd_T26 x0_1 x6_1).f1,(rd_T26 x0_1 x6_1).f2,(⟨(rd_T26 x0_1 x6_1).f3.f0,(rd_T26 x0_1 x6_1).f3.f1⟩ : S24),(rd_T26 x0_1 x6_1).f4⟩ : S26)) := ⟨_,rfl⟩
      replace H : (api_Hold__c25.l0 k1 y268 (wrap64 (x5_1 + 1)) (wrap64 (x6_1 + 1)) a1_0) = some r := by first | (rw [hy268];with_reducible exact H) | (have H2_ := (Option.bind_some _ _).symm.trans H;rw [hy268];with_reducible exact H2_) | (have H2_ := (Option.bind_some _ _).symm.trans H;with_reducible exact H2_) | with_reducible exact H | (rw [hy268];exact H) | exact H
      have Ny268 := Yd hy268
      clear hy268
      have H' := Yd H
      clear H
      have p265 : 0 ≤ (x6_1 : Int) := Y9
      have q265 : x6_1 < (x0_1.length : Int) := Y9
      obtain ⟨ad265,e265,hx265_0,hx265_1,hx265_2,hx265_3,hx265_4,hx265_5⟩ := at_T26 (Kd.R_reads' HO_0.out).2.2 x6_1 p265 q265
      cases e265
      replace p265 := eq_true p265
      replace q265 := eq_true q265
      go_wp2_with (first | ((with_reducible refine gate_dst (N := 7) rfl ?_);refine box_event ?hg (N := 7) ?hd (cs := #[.string (⟨#[]⟩ : ByteArray),.int .i64 0,.int .i64 0,.int .i64 0,.int .i64 0,.int .i64 0]) (t := 26) ?hr ?_;(case hd => rfl);(case hg => rfl);(case hr => first | (go_simp;done) | (go_simp;rfl));intro gb266 hg w20 hbox hb;have n0_ := Yd (Kd.R_below (Kd.R_elderB (Y5 HO_0.out) gb266 (Nat.le_of_eq hg.symm)) hb);have n1_ := Yd (blk_below (g := B1_0_) (o := .cells #[.string a1_0] 9 (0,0)) (Y6 BK255.out) hb);have n2_ := Yd (Kept.below (S := (fun k_ => P0_ k_)) (by repeat (first | (with_reducible first | exact HK.out | apply Kept.alloc | apply Kept.drewN | apply Kept.drew | refine Kept.setCell ?_ (.inr GW255.out) _) | exact HK.out)) hb);have n3_ := Yd (below_step (by first | exact Y4 HB.out GE255.out | exact Y3 HB.out) hb);have n4_ := Yd (hbox);have n5_ := Yd ((by rw [hg];exact (by first | exact HK.out.1 | exact (show Kept w _ (fun k_ => P0_ k_) from by repeat (first | (with_reducible first | exact HK.out | apply Kept.alloc | apply Kept.drewN | apply Kept.drew | refine Kept.setCell ?_ (.inr GW255.out) _) | exact HK.out)).1) : w.heap.size ≤ gb266));have n6_ := Yd ((by rw [hg];exact (below_size (by first | exact Y4 HB.out GE255.out | exact Y3 HB.out)) : w0.heap.size ≤ gb266));have n7_ := Yd ((by rw [hg];exact Nat.ne_of_lt (blk_lt (g := B1_0_) (o := .cells #[.string a1_0] 9 (0,0)) (Y6 BK255.out)) : B1_0_ ≠ gb266));have n8_ := Yd ((by rw [hg];exact Nat.ne_of_gt (blk_lt (g := B1_0_) (o := .cells #[.string a1_0] 9 (0,0)) (Y6 BK255.out)) : gb266 ≠ B1_0_));clear HO_0;clear BK255;clear HK;clear HB;have HO_0 := n0_;have BK255 := n1_;have HK := n2_;have HB := n3_;have BK266 := n4_;have GW266 := n5_;have GE266 := n6_;have NB255_266 := n7_;have NB266_255 := n8_;clear n0_ n1_ n2_ n3_ n4_ n5_ n6_ n7_ n8_;clear hb hbox hg;have hnb21 := NB266_255.out;have hnc21 := NB255_266.out;have hcz22_0 : w20.cell? ⟨gb266,0,none⟩ = some (.string (⟨#[]⟩ : ByteArray)) := (blk_cell BK266.out 0).trans rfl;have hcz22_1 : w20.cell? ⟨gb266,1,none⟩ = some (.int .i64 0) := (blk_cell BK266.out 1).trans rfl;have hcz22_2 : w20.cell? ⟨gb266,2,none⟩ = some (.int .i64 0) := (blk_cell BK266.out 2).trans rfl;have hcz22_3 : w20.cell? ⟨gb266,3,none⟩ = some (.int .i64 0) := (blk_cell BK266.out 3).trans rfl;have hcz22_4 : w20.cell? ⟨gb266,4,none⟩ = some (.int .i64 0) := (blk_cell BK266.out 4).trans rfl;have hcz22_5 : w20.cell? ⟨gb266,5,none⟩ = some (.int .i64 0) := (blk_cell BK266.out 5).trans rfl;have hfz22_0 := blk_frozen BK266.out 0;have hfz22_1 := blk_frozen BK266.out 1;have hfz22_2 := blk_frozen BK266.out 2;have hfz22_3 := blk_frozen BK266.out 3;have hfz22_4 := blk_frozen BK266.out 4;have hfz22_5 := blk_frozen BK266.out 5) | (go_at_call 25;(with_reducible refine (override_Remove_1_.calls ((rd_T26 x0_1 x6_1).f0) ((rd_T26 x0_1 x6_1).f1) ((rd_T26 x0_1 x6_1).f2) ((rd_T26 x0_1 x6_1).f3.f0) ((rd_T26 x0_1 x6_1).f3.f1) ((rd_T26 x0_1 x6_1).f4) B1_0_ a1_0 false _ ?side1 A11.out).mono ?_);(case side1 => exact (by (with_reducible repeat (first | refine blk_drewN ?_ _ | refine blk_drew ?_ | refine blk_alloc ?_ _));refine blk_far ?_ NB255_266.out _;(with_reducible repeat (first | refine blk_drewN ?_ _ | refine blk_drew ?_ | refine blk_alloc ?_ _));refine blk_far ?_ NB255_266.out _;(with_reducible repeat (first | refine blk_drewN ?_ _ | refine blk_drew ?_ | refine blk_alloc ?_ _));refine blk_far ?_ NB255_266.out _;(with_reducible repeat (first | refine blk_drewN ?_ _ | refine blk_drew ?_ | refine blk_alloc ?_ _));refine blk_far ?_ NB255_266.out _;(with_reducible repeat (first | refine blk_drewN ?_ _ | refine blk_drew ?_ | refine blk_alloc ?_ _));refine blk_far ?_ NB255_266.out _;(with_reducible repeat (first | refine blk_drewN ?_ _ | refine blk_drew ?_ | refine blk_alloc ?_ _));refine blk_far ?_ NB255_266.out _;(with_reducible repeat (first | refine blk_drewN ?_ _ | refine blk_drew ?_ | refine blk_alloc ?_ _));exact BK255.out));rintro e w23 ⟨rfl,hb⟩;have n0_ := Yd (Kd.R_below (by (with_reducible repeat (first | apply Kd.R_alloc | apply Kd.R_drewN | apply Kd.R_drew));exact (Kd.R_mono (Kd.R_far (p := ⟨gb266,5,none⟩) (Kd.R_far (p := ⟨gb266,4,none⟩) (Kd.R_far (p := ⟨gb266,3,none⟩) (Kd.R_far (p := ⟨gb266,2,none⟩) (Kd.R_far (p := ⟨gb266,1,none⟩) (Kd.R_far (p := ⟨gb266,0,none⟩) (Kd.R_mono HO_0.out (fun k_ hk => (⟨hk,hk.2⟩ : _ ∧ k_ ≠ gb266))) (fun _ hk => hk.2) (.string ((rd_T26 x0_1 x6_1).f0))) (fun _ hk => hk.2) (.int .i64 ((rd_T26 x0_1 x6_1).f1))) (fun _ hk => hk.2) (.int .i64 ((rd_T26 x0_1 x6_1).f2))) (fun _ hk => hk.2) (.int .i64 ((rd_T26 x0_1 x6_1).f3.f0))) (fun _ hk => hk.2) (.int .i64 ((rd_T26 x0_1 x6_1).f3.f1))) (fun _ hk => hk.2) (.int .i64 ((rd_T26 x0_1 x6_1).f4))) (fun _ h_ => h_.1))) hb);have n1_ := Yd (blk_below (g := B1_0_) (o := .cells #[.string a1_0] 9 (0,0)) (by (with_reducible repeat (first | refine blk_drewN ?_ _ | refine blk_drew ?_ | refine blk_alloc ?_ _));refine blk_far ?_ NB255_266.out _;(with_reducible repeat (first | refine blk_drewN ?_ _ | refine blk_drew ?_ | refine blk_alloc ?_ _));refine blk_far ?_ NB255_266.out _;(with_reducible repeat (first | refine blk_drewN ?_ _ | refine blk_drew ?_ | refine blk_alloc ?_ _));refine blk_far ?_ NB255_266.out _;(with_reducible repeat (first | refine blk_drewN ?_ _ | refine blk_drew ?_ | refine blk_alloc ?_ _));refine blk_far ?_ NB255_266.out _;(with_reducible repeat (first | refine blk_drewN ?_ _ | refine blk_drew ?_ | refine blk_alloc ?_ _));refine blk_far ?_ NB255_266.out _;(with_reducible repeat (first | refine blk_drewN ?_ _ | refine blk_drew ?_ | refine blk_alloc ?_ _));refine blk_far ?_ NB255_266.out _;(with_reducible repeat (first | refine blk_drewN ?_ _ | refine blk_drew ?_ | refine blk_alloc ?_ _));exact BK255.out) hb);have n2_ := Yd (blk_below (g := gb266) (o := .cells #[.string ((rd_T26 x0_1 x6_1).f0),.int .i64 ((rd_T26 x0_1 x6_1).f1),.int .i64 ((rd_T26 x0_1 x6_1).f2),.int .i64 ((rd_T26 x0_1 x6_1).f3.f0),.int .i64 ((rd_T26 x0_1 x6_1).f3.f1),.int .i64 ((rd_T26 x0_1 x6_1).f4)] 26 (0,0)) (by (with_reducible repeat (first | refine blk_drewN ?_ _ | refine blk_drew ?_ | refine blk_alloc ?_ _));refine blk_put (cs := #[.string ((rd_T26 x0_1 x6_1).f0),.int .i64 ((rd_T26 x0_1 x6_1).f1),.int .i64 ((rd_T26 x0_1 x6_1).f2),.int .i64 ((rd_T26 x0_1 x6_1).f3.f0),.int .i64 ((rd_T26 x0_1 x6_1).f3.f1),.int .i64 0]) ?_ 5 _ rfl;(with_reducible repeat (first | refine blk_drewN ?_ _ | refine blk_drew ?_ | refine blk_alloc ?_ _));refine blk_put (cs := #[.string ((rd_T26 x0_1 x6_1).f0),.int .i64 ((rd_T26 x0_1 x6_1).f1),.int .i64 ((rd_T26 x0_1 x6_1).f2),.int .i64 ((rd_T26 x0_1 x6_1).f3.f0),.int .i64 0,.int .i64 0]) ?_ 4 _ rfl;(with_reducible repeat (first | refine blk_drewN ?_ _ | refine blk_drew ?_ | refine blk_alloc ?_ _));refine blk_put (cs := #[.string ((rd_T26 x0_1 x6_1).f0),.int .i64 ((rd_T26 x0_1 x6_1).f1),.int .i64 ((rd_T26 x0_1 x6_1).f2),.int .i64 0,.int .i64 0,.int .i64 0]) ?_ 3 _ rfl;(with_reducible repeat (first | refine blk_drewN ?_ _ | refine blk_drew ?_ | refine blk_alloc ?_ _));refine blk_put (cs := #[.string ((rd_T26 x0_1 x6_1).f0),.int .i64 ((rd_T26 x0_1 x6_1).f1),.int .i64 0,.int .i64 0,.int .i64 0,.int .i64 0]) ?_ 2 _ rfl;(with_reducible repeat (first | refine blk_drewN ?_ _ | refine blk_drew ?_ | refine blk_alloc ?_ _));refine blk_put (cs := #[.string ((rd_T26 x0_1 x6_1).f0),.int .i64 0,.int .i64 0,.int .i64 0,.int .i64 0,.int .i64 0]) ?_ 1 _ rfl;(with_reducible repeat (first | refine blk_drewN ?_ _ | refine blk_drew ?_ | refine blk_alloc ?_ _));refine blk_put (cs := #[.string (⟨#[]⟩ : ByteArray),.int .i64 0,.int .i64 0,.int .i64 0,.int .i64 0,.int .i64 0]) ?_ 0 _ rfl;(with_reducible repeat (first | refine blk_drewN ?_ _ | refine blk_drew ?_ | refine blk_alloc ?_ _));exact BK266.out) hb);have n3_ := Yd (Kept.below (S := (fun k_ => P0_ k_)) (by repeat (first | (with_reducible first | exact HK.out | apply Kept.alloc | apply Kept.drewN | apply Kept.drew | refine Kept.setCell ?_ (.inr GW255.out) _ | refine Kept.setCell ?_ (.inr GW266.out) _) | exact HK.out)) hb);have n4_ := Yd (below_step (by repeat (first | (with_reducible first | exact HB.out | apply below_alloc | apply Y15 | apply below_drew1 | refine below_set ?_ GE255.out | refine below_set ?_ GE266.out) | exact HB.out)) hb);clear HO_0;clear BK255;clear BK266;clear HK;clear HB;have HO_0 := n0_;have BK255 := n1_;have BK266 := n2_;have HK := n3_;have HB := n4_;clear n0_ n1_ n2_ n3_ n4_;(try clear hb);(try clear hb2);(try clear hk);(try clear hi);have hcz24_0 : w23.cell? ⟨gb266,0,none⟩ = some (.string ((rd_T26 x0_1 x6_1).f0)) := (blk_cell BK266.out 0).trans rfl;have hcz24_1 : w23.cell? ⟨gb266,1,none⟩ = some (.int .i64 ((rd_T26 x0_1 x6_1).f1)) := (blk_cell BK266.out 1).trans rfl;have hcz24_2 : w23.cell? ⟨gb266,2,none⟩ = some (.int .i64 ((rd_T26 x0_1 x6_1).f2)) := (blk_cell BK266.out 2).trans rfl;have hcz24_3 : w23.cell? ⟨gb266,3,none⟩ = some (.int .i64 ((rd_T26 x0_1 x6_1).f3.f0)) := (blk_cell BK266.out 3).trans rfl;have hcz24_4 : w23.cell? ⟨gb266,4,none⟩ = some (.int .i64 ((rd_T26 x0_1 x6_1).f3.f1)) := (blk_cell BK266.out 4).trans rfl;have hcz24_5 : w23.cell? ⟨gb266,5,none⟩ = some (.int .i64 ((rd_T26 x0_1 x6_1).f4)) := (blk_cell BK266.out 5).trans rfl;have hfz24_0 := blk_frozen BK266.out 0;have hfz24_1 := blk_frozen BK266.out 1;have hfz24_2 := blk_frozen BK266.out 2;have hfz24_3 := blk_frozen BK266.out 3;have hfz24_4 := blk_frozen BK266.out 4;have hfz24_5 := blk_frozen BK266.out 5;have p19 : 0 ≤ (x5_1 : Int) := Y9;have q19 : (x5_1 : Int) < ((x0_1.length : Int) : Int) := Y9;obtain ⟨go19,co19,eo19,gb19,gl19,cl19,HG19⟩ := Kd.R_form HO_0.out (by omega);(first | cases eo19 | (injection eo19 with ea_ en_ ec_;(first | subst ea_ | (injection ea_ with ea_;subst ea_));subst ec_;clear en_));have GB19 := Yd gb19;have GG19 := Yd HG19;clear gb19 gl19 HG19;have HMgo19 := Yd (show (P0_ go19 ∨ w.heap.size ≤ go19) from (HO_0.out.1 _ rfl).1);(first | simp only [add_plain] at hx265_0 | skip);(first | simp only [add_plain] at hx265_1 | skip);(first | simp only [add_plain] at hx265_2 | skip);(first | simp only [add_plain] at hx265_3 | skip);(first | simp only [add_plain] at hx265_4 | skip);(first | simp only [add_plain] at hx265_5 | skip);obtain ⟨ce19,hcl19,hM19,hcc19,hfr19⟩ := Kd.R_elem HO_0.out z26 (x5_1 : Int) p19 q19;obtain rfl := k26_openM hM19;have hx19_0 : w23.cell? ⟨go19,(x5_1 : Int).toNat * 6,none⟩ = some (.string ((rd_T26 x0_1 x5_1).f0)) := hcc19 0 _ rfl;have hx19_1 : w23.cell? ⟨go19,(x5_1 : Int).toNat * 6 + 1,none⟩ = some (.int .i64 ((rd_T26 x0_1 x5_1).f1)) := hcc19 1 _ rfl;have hx19_2 : w23.cell? ⟨go19,(x5_1 : Int).toNat * 6 + 2,none⟩ = some (.int .i64 ((rd_T26 x0_1 x5_1).f2)) := hcc19 2 _ rfl;have hx19_3 : w23.cell? ⟨go19,(x5_1 : Int).toNat * 6 + 3,none⟩ = some (.int .i64 ((rd_T26 x0_1 x5_1).f3.f0)) := hcc19 3 _ rfl;have hx19_4 : w23.cell? ⟨go19,(x5_1 : Int).toNat * 6 + 4,none⟩ = some (.int .i64 ((rd_T26 x0_1 x5_1).f3.f1)) := hcc19 4 _ rfl;have hx19_5 : w23.cell? ⟨go19,(x5_1 : Int).toNat * 6 + 5,none⟩ = some (.int .i64 ((rd_T26 x0_1 x5_1).f4)) := hcc19 5 _ rfl;have hf19_0 : w23.frozen? ⟨go19,(x5_1 : Int).toNat * 6,none⟩ = false := hfr19 0;have hf19_1 : w23.frozen? ⟨go19,(x5_1 : Int).toNat * 6 + 1,none⟩ = false := hfr19 1;have hf19_2 : w23.frozen? ⟨go19,(x5_1 : Int).toNat * 6 + 2,none⟩ = false := hfr19 2;have hf19_3 : w23.frozen? ⟨go19,(x5_1 : Int).toNat * 6 + 3,none⟩ = false := hfr19 3;have hf19_4 : w23.frozen? ⟨go19,(x5_1 : Int).toNat * 6 + 4,none⟩ = false := hfr19 4;have hf19_5 : w23.frozen? ⟨go19,(x5_1 : Int).toNat * 6 + 5,none⟩ = false := hfr19 5;clear hcl19 hcc19 hfr19 hM19;replace p19 := eq_true p19;replace q19 := eq_true q19;have HX25 := Yd (show Kd.R k26 26 w23 w0.heap.size (fun k_ => (P0_ k_ ∨ w.heap.size ≤ k_) ∧ k_ ≠ gb266) (.slice (some ⟨go19,0,none⟩) x0_1.length co7) x0_1 from (Y5 HO_0.out));obtain ⟨ce25,hcl25,hM25,hcc25,hfr25⟩ := Kd.R_elem HX25.out z26 (x5_1 : Int) (Y9) (by have h_ : (x5_1 : Int) < ((x0_1.length : Int) : Int) := Y9;first | exact h_ | (have e_ := (Kd.R_reads' HO_0.out).1;omega) | simpa using h_);obtain rfl := k26_openM hM25;have HP25 := Kd.R_seg HX25.out (x5_1 : Int) (Y9) (by have h_ : (x5_1 : Int) < ((x0_1.length : Int) : Int) := Y9;first | exact h_ | (have e_ := (Kd.R_reads' HO_0.out).1;omega) | simpa using h_) (seg := [.string ((rd_T26 x0_1 x6_1).f0),.int .i64 ((rd_T26 x0_1 x6_1).f1),.int .i64 ((rd_T26 x0_1 x6_1).f2),.int .i64 ((rd_T26 x0_1 x6_1).f3.f0),.int .i64 ((rd_T26 x0_1 x6_1).f3.f1),.int .i64 ((rd_T26 x0_1 x6_1).f4)]) (j := 0) hcl25 hcc25 (show 6 ≤ 6 from by decide) (x' := (⟨(rd_T26 x0_1 x6_1).f0,(rd_T26 x0_1 x6_1).f1,(rd_T26 x0_1 x6_1).f2,(⟨(rd_T26 x0_1 x6_1).f3.f0,(rd_T26 x0_1 x6_1).f3.f1⟩ : S24),(rd_T26 x0_1 x6_1).f4⟩ : S26)) (k26_mkM _ _ _ (⟨(rd_T26 x0_1 x6_1).f0,(rd_T26 x0_1 x6_1).f1,(rd_T26 x0_1 x6_1).f2,(⟨(rd_T26 x0_1 x6_1).f3.f0,(rd_T26 x0_1 x6_1).f3.f1⟩ : S24),(rd_T26 x0_1 x6_1).f4⟩ : S26) ) (fun _ hk => hk);have hx25_0 := hcc25 0 _ rfl;(try simp only [show (k26).sz = 6 from rfl,Nat.mul_one,Nat.add_zero] at hx25_0);have hf25_0 := hfr25 0;(try simp only [show (k26).sz = 6 from rfl,Nat.mul_one,Nat.add_zero] at hf25_0);have hx25_1 := hcc25 1 _ rfl;(try simp only [show (k26).sz = 6 from rfl,Nat.mul_one,Nat.add_zero] at hx25_1);have hf25_1 := hfr25 1;(try simp only [show (k26).sz = 6 from rfl,Nat.mul_one,Nat.add_zero] at hf25_1);have hx25_2 := hcc25 2 _ rfl;(try simp only [show (k26).sz = 6 from rfl,Nat.mul_one,Nat.add_zero] at hx25_2);have hf25_2 := hfr25 2;(try simp only [show (k26).sz = 6 from rfl,Nat.mul_one,Nat.add_zero] at hf25_2);have hx25_3 := hcc25 3 _ rfl;(try simp only [show (k26).sz = 6 from rfl,Nat.mul_one,Nat.add_zero] at hx25_3);have hf25_3 := hfr25 3;(try simp only [show (k26).sz = 6 from rfl,Nat.mul_one,Nat.add_zero] at hf25_3);have hx25_4 := hcc25 4 _ rfl;(try simp only [show (k26).sz = 6 from rfl,Nat.mul_one,Nat.add_zero] at hx25_4);have hf25_4 := hfr25 4;(try simp only [show (k26).sz = 6 from rfl,Nat.mul_one,Nat.add_zero] at hf25_4);have hx25_5 := hcc25 5 _ rfl;(try simp only [show (k26).sz = 6 from rfl,Nat.mul_one,Nat.add_zero] at hx25_5);have hf25_5 := hfr25 5;(try simp only [show (k26).sz = 6 from rfl,Nat.mul_one,Nat.add_zero] at hf25_5);clear hcl25 hcc25 hfr25 hM25) | ((with_reducible refine gate_store (t := 26) (p := 33) rfl ?_);refine store_event (t := 26) (p := 33) (v := ?vo_w26) (w1 := ((((((w23.setCell ⟨go19,(x5_1 : Int).toNat * 6,none⟩ (.string ((rd_T26 x0_1 x6_1).f0))).setCell ⟨go19,(x5_1 : Int).toNat * 6 + 1,none⟩ (.int .i64 ((rd_T26 x0_1 x6_1).f1))).setCell ⟨go19,(x5_1 : Int).toNat * 6 + 2,none⟩ (.int .i64 ((rd_T26 x0_1 x6_1).f2))).setCell ⟨go19,(x5_1 : Int).toNat * 6 + 3,none⟩ (.int .i64 ((rd_T26 x0_1 x6_1).f3.f0))).setCell ⟨go19,(x5_1 : Int).toNat * 6 + 4,none⟩ (.int .i64 ((rd_T26 x0_1 x6_1).f3.f1))).setCell ⟨go19,(x5_1 : Int).toNat * 6 + 5,none⟩ (.int .i64 ((rd_T26 x0_1 x6_1).f4)))) ?hg ?ho ?hn ?hr ?_;(case ho => rfl);(case hg => rfl);(case hn => rfl);(case hr => first | (go_simp;done) | (go_simp;rfl));intro w26 hw;have hg : w23.grownBy w26 (some go19) := (by rw [hw];exact HP25.2);have hp_ : Kd.R k26 26 w26 w0.heap.size (fun k_ => (P0_ k_ ∨ w.heap.size ≤ k_) ∧ k_ ≠ gb266) (.slice (some ⟨go19,0,none⟩) x0_1.length co7) y268 := (by rw [hw,Ny268.out];exact HP25.1);clear HP25;have n0_ := Yd (hp_);have n1_ := Yd (blk_grown (g := B1_0_) (o := .cells #[.string a1_0] 9 (0,0)) (Y6 BK255.out) hg (Kd.R_ne HO_0.out BK255.out (by decide)));have n2_ := Yd (blk_grown (g := gb266) (o := .cells #[.string ((rd_T26 x0_1 x6_1).f0),.int .i64 ((rd_T26 x0_1 x6_1).f1),.int .i64 ((rd_T26 x0_1 x6_1).f2),.int .i64 ((rd_T26 x0_1 x6_1).f3.f0),.int .i64 ((rd_T26 x0_1 x6_1).f3.f1),.int .i64 ((rd_T26 x0_1 x6_1).f4)] 26 (0,0)) (Y6 BK266.out) hg (Kd.R_away HO_0.out (fun _ hk => hk.2)));have n3_ := Yd ((by rw [hw];exact below_set (below_set (below_set (below_set (below_set (below_set (HB.out) GB19.out) GB19.out) GB19.out) GB19.out) GB19.out) GB19.out : Below w0.heap.size w0 w26));have n4_ := Yd (Kept.of_grown (S := (fun k_ => P0_ k_)) hg (by repeat (first | (with_reducible first | exact HK.out | apply Kept.alloc | apply Kept.drewN | apply Kept.drew | refine Kept.setCell ?_ (.inr GW255.out) _ | refine Kept.setCell ?_ (.inr GW266.out) _) | exact HK.out)) (fun k_ e_ => (HO_0.out.1 k_ e_).1));clear HO_0;clear BK255;clear BK266;clear HB;clear HK;have HO_0 := n0_;have BK255 := n1_;have BK266 := n2_;have HB := n3_;have HK := n4_;clear n0_ n1_ n2_ n3_ n4_;clear hg hw hp_))
      (try simp only [← hl0_1])
      go_roundg k1
      case measure => have := HK1.out;omega
      case rel => exact ⟨(y268),(wrap64 (x5_1 + 1)),(wrap64 (x6_1 + 1)),Y12,Y12,H',⟨by have := HK1.out;omega⟩,⟨by (try simp only [hl0_1]);(with_reducible repeat (first | apply Kd.R_alloc | apply Kd.R_drewN | apply Kd.R_drew));exact Kd.R_mono HO_0.out (fun _ hk => hk.1)⟩,⟨by (try simp only [hl0_1]);(with_reducible repeat (first | refine blk_drewN ?_ _ | refine blk_drew ?_ | refine blk_alloc ?_ _));exact BK255.out⟩,⟨by repeat (first | (with_reducible first | exact HK.out | apply Kept.alloc | apply Kept.drewN | apply Kept.drew | refine Kept.setCell ?_ (.inr GW255.out) _ | refine Kept.setCell ?_ (.inr GW266.out) _) | exact HK.out)⟩,⟨by repeat (first | (with_reducible first | exact HB.out | apply below_alloc | apply Y15 | apply below_drew1 | refine below_set ?_ GE255.out | refine below_set ?_ GE266.out) | exact HB.out)⟩⟩
    ·rw [if_neg c9] at H
     have c9b0 : decide (x6_1 < (x0_1.length : Int)) = false := decide_eq_false c9
     (try simp only [hl0_1] at c9b0)
     clear c9
     by_cases c27 : 0 ≤ x5_1
     case neg => rw [if_neg c27] at H;exact absurd H (by simp)
     rw [if_pos c27] at H
     have c27b0 := eq_true c27
     have c27b1 : decide (0 ≤ x5_1) = true := decide_eq_true c27
     clear c27
     by_cases c28 : x5_1 ≤ (x0_1.length : Int)
     case neg => rw [if_neg c28] at H;exact absurd H (by simp)
     rw [if_pos c28] at H
     have c28b0 := eq_true c28
     have c28b1 : decide (x5_1 ≤ (x0_1.length : Int)) = true := decide_eq_true c28
     clear c28
     obtain ⟨y257,hy257⟩ : ∃ y_ : List (S26),y_ = (x0_1.drop (x5_1 : Int).toNat) := ⟨_,rfl⟩
     replace H : (some ((x0_1.take (x5_1 : Int).toNat ++ List.replicate (x0_1.length - (x5_1 : Int).toNat) z26).take (x5_1 : Int).toNat)) = some r := by first | (rw [hy257];with_reducible exact H) | (have H2_ := (Option.bind_some _ _).symm.trans H;rw [hy257];with_reducible exact H2_) | (have H2_ := (Option.bind_some _ _).symm.trans H;with_reducible exact H2_) | with_reducible exact H | (rw [hy257];exact H) | exact H
     have Ny257 := Yd hy257
     clear hy257
     obtain ⟨y261,hy261⟩ : ∃ y_ : List (S26),y_ = (x0_1.take (x5_1 : Int).toNat ++ List.replicate (x0_1.length - (x5_1 : Int).toNat) z26) := ⟨_,rfl⟩
     replace H : (some (y261.take (x5_1 : Int).toNat)) = some r := by first | (rw [hy261];with_reducible exact H) | (have H2_ := (Option.bind_some _ _).symm.trans H;rw [hy261];with_reducible exact H2_) | (have H2_ := (Option.bind_some _ _).symm.trans H;with_reducible exact H2_) | with_reducible exact H | (rw [hy261];exact H) | exact H
     have Ny261 := Yd hy261
     clear hy261
     have c29b0 := eq_true (Y9 : x5_1 ≤ (x0_1.length : Int))
     obtain ⟨y262,hy262⟩ : ∃ y_ : List (S26),y_ = (y261.take (x5_1 : Int).toNat) := ⟨_,rfl⟩
     replace H : (some y262) = some r := by first | (rw [hy262];with_reducible exact H) | (have H2_ := (Option.bind_some _ _).symm.trans H;rw [hy262];with_reducible exact H2_) | (have H2_ := (Option.bind_some _ _).symm.trans H;with_reducible exact H2_) | with_reducible exact H | (rw [hy262];exact H) | exact H
     have Ny262 := Yd hy262
     clear hy262
     obtain rfl := Option.some.inj H
     have q30 : (x5_1 : Int) ≤ ((x0_1.length : Int) : Int) := Y9
     obtain ⟨i030,hi030,_,hsz30,_⟩ := info_parts info26
     have hroom30 : x0_1.length ≤ co7 := (Kd.R_reads' HO_0.out).2.1
     have hC30 : Kd.C k26 _ Ao7 x0_1.length x0_1 := (Kd.R_reads' HO_0.out).2.2
     have q030 : (0 : Int) ≤ (x5_1 : Int) := Y9
     have hcut30 := cut_from (P := Try.prog) 22 26 .i64 Try.underlying22 hi030 6 hsz30 Ao7 x0_1.length co7 x5_1 q030 q30
     have hr30 := Kd.C_drop (m := (x5_1 : Int).toNat) (c := co7) hC30 (by omega) hroom30
     obtain ⟨A30,hA30⟩ : ∃ A1,A1 = (if co7 = (x5_1 : Int).toNat then Ao7 else (Ao7 : Option Addr).map (·.add ((x5_1 : Int).toNat * 6))) := ⟨_,rfl⟩
     obtain ⟨c30,hc30⟩ : ∃ c1,c1 = co7 - (x5_1 : Int).toNat := ⟨_,rfl⟩
     have hy30 : y257.length = x0_1.length - (x5_1 : Int).toNat := (by rw [Ny257.out,List.length_drop] <;> omega)
     rw [show (x0_1).drop (x5_1 : Int).toNat = y257 from Ny257.out.symm] at hr30
     replace hr30 : Kd.C k26 _ A30 y257.length y257 := (by rw [hA30];exact hr30)
     rw [← hy30,← hA30,← hc30] at hcut30
     have HR260 := Yd hr30
     have HC260 := Yd (show y257.length ≤ c30 from by rw [hy30,hc30];exact Nat.sub_le_sub_right hroom30 _)
     clear hr30 hC30 hroom30 hi030 hsz30 hc30
     have KY30 := Yd hy30
     have KA30 := Yd hA30
     clear hy30 hA30
     have KL30 := Yd (show (x5_1 : Int).toNat ≤ x0_1.length from by omega)
     replace q30 := eq_true q30
     go_wp2_with (first | ((with_reducible refine gate_builtin (b := .clear) (xs := #[.tmp 38]) rfl ?_);have hy1_ := KY30.out;have hj_ : 0 ≤ (x5_1 : Int) := Y9;have hh_ : (x5_1 : Int) ≤ (x0_1.length : Int) := Y9;refine Kd.R_clear k26 (w0 := w0) w0.heap.size rfl (.tmp 38) 22 26 (.agg #[(.string ⟨#[]⟩),(.int .i64 0),(.int .i64 0),(.int .i64 0),(.int .i64 0),(.int .i64 0)]) z26 rfl Try.underlying22 (fun _ => rfl) rfl (by decide) (fun _ _ _ => k26_mkM _ _ _ z26) (n := x0_1.length) (c := co7) (k := (x5_1 : Int).toNat) rfl ?hA ?hm (Y5 HO_0.out) ?hk (by first | exact Y4 HB.out GE255.out | exact Y3 HB.out) (below_size (by first | exact Y4 HB.out GE255.out | exact Y3 HB.out)) ?_;(case hA => first | exact KA30.out | rfl);(case hm => first | exact hy1_ | omega);(case hk => omega);intro w31 ho hb hg;clear hh_ hy1_;(try clear hj_);rw [← Ny261.out] at ho;have n0_ := Yd (ho);have n1_ := Yd (blk_grown (g := B1_0_) (o := .cells #[.string a1_0] 9 (0,0)) (Y6 BK255.out) hg (Kd.R_ne HO_0.out BK255.out (by decide)));have n2_ := Yd (hb);have n3_ := Yd (Kept.of_grown (S := (fun k_ => P0_ k_)) hg (by repeat (first | (with_reducible first | exact HK.out | apply Kept.alloc | apply Kept.drewN | apply Kept.drew | refine Kept.setCell ?_ (.inr GW255.out) _) | exact HK.out)) (fun k_ e_ => (HO_0.out.1 k_ e_)));clear HO_0;clear BK255;clear HB;clear HK;have HO_0 := n0_;have BK255 := n1_;have HB := n2_;have HK := n3_;clear n0_ n1_ n2_ n3_;clear ho hb hg;have q32 : (x5_1 : Int) ≤ ((x0_1.length : Int) : Int) := Y9;obtain ⟨i032,hi032,_,hsz32,_⟩ := info_parts info26;have hcut32 := cut_to (P := Try.prog) 22 26 .i64 Try.underlying22 hi032 Ao7 x0_1.length co7 x5_1 (Y9) q32 (Kd.R_reads' HO_0.out).2.1;have hr32 := Kd.R_take (m := (x5_1 : Int).toNat) HO_0.out (by have e_ := (Kd.R_reads' HO_0.out).1;omega);have hy32 : y262.length = (x5_1 : Int).toNat := (by have e_ := (Kd.R_reads' HO_0.out).1;rw [Ny262.out,List.length_take];omega);rw [← Ny262.out] at hr32;rw [← hy32] at hr32 hcut32;clear hy32 hi032 hsz32 HO_0;have HO264 := Yd hr32;clear hr32;replace q32 := eq_true q32))
     go_ret
     exact ⟨_,by first | rfl | (simp [errW_none,errW_some] <;> rfl) | (simp [*,errW_none,errW_some] <;> rfl),by (with_reducible repeat (first | apply Kd.R_alloc | apply Kd.R_drewN | apply Kd.R_drew));exact HO264.out,by repeat (first | (with_reducible first | exact HB.out | apply below_alloc | apply Y15 | apply below_drew1 | refine below_set ?_ GE255.out) | exact HB.out),by repeat (first | (with_reducible first | exact HK.out | apply Kept.alloc | apply Kept.drewN | apply Kept.drew | refine Kept.setCell ?_ (.inr GW255.out) _) | exact HK.out)⟩
def override_Remove.f (k : Nat) (l0 : List (S26)) (a1 : ByteArray) : Option ((List (S26)) × Int) := (override_Check.f k l0).bind fun t270 => (if t270 = 0 then ((api_Hold_22.f l0).bind fun t271 => ((api_Hold__c25.f k t271 a1).bind fun t274 => (if (t274.length : Int) = (l0.length : Int) then (some (([] : List (S26)),9)) else (some (t274,0))))) else (some (([] : List (S26)),t270)))
theorem override_Remove.mono : ∀ a0 a1 k,LeO (override_Remove.f k a0 a1) (override_Remove.f (k + 1) a0 a1) := by
 intro a0 a1 k
 unfold override_Remove.f
 repeat' first
   | (with_reducible exact api_Hold__c25.mono _ _ _)
   | (with_reducible exact override_Check.mono _ _)
   | (with_reducible exact LeO.refl _)
   | (with_reducible exact LeO.none _)
   | (with_reducible refine LeO.ite ?_ ?_)
   | (with_reducible refine LeO.bind ?_ (fun _ => ?_))
   | exact api_Hold__c25.mono _ _ _
   | exact override_Check.mono _ _
   | exact LeO.none _
   | refine LeO.ite ?_ ?_
   | refine LeO.bind ?_ (fun _ => ?_)
set_option maxHeartbeats 100000000 in
set_option maxRecDepth 100000 in
theorem override_Remove.calls (k : Nat) (A0 : Option Addr) (c0 : Nat) (l0 : List (S26)) (a1 : ByteArray) (r1 : List (S26)) (r2 : Int) (w : World) (hr0 : Kd.C k26 w A0 l0.length l0) (hc0 : l0.length ≤ c0) (h : override_Remove.f k l0 a1 = some (r1,r2)) :
  Calls Try.prog 9 #[.slice A0 l0.length c0,.string a1] w fun e w' => ∃ v0_ : Value,e = .returned (.tuple #[v0_,.int .i64 r2]) ∧ Kd.R k26 26 w' w.heap.size (fun _ => True) v0_ r1 ∧ Below w.heap.size w w' := by
 have HR0 := Yd hr0
 have HC0 := Yd hc0
 clear hr0 hc0
 have HB := Yd (Below.refl w.heap.size w)
 have H : ((override_Check.f k l0).bind fun t270 => (if t270 = 0 then ((api_Hold_22.f l0).bind fun t271 => ((api_Hold__c25.f k t271 a1).bind fun t274 => (if (t274.length : Int) = (l0.length : Int) then (some (([] : List (S26)),9)) else (some (t274,0))))) else (some (([] : List (S26)),t270)))) = some (r1,r2) := h
 clear h
 replace H := Option.bind_eq_some_iff.mp H
 obtain ⟨t270,A30,H⟩ := H
 replace H : (if t270 = 0 then ((api_Hold_22.f l0).bind fun t271 => ((api_Hold__c25.f k t271 a1).bind fun t274 => (if (t274.length : Int) = (l0.length : Int) then (some (([] : List (S26)),9)) else (some (t274,0))))) else (some (([] : List (S26)),t270))) = some (r1,r2) := H
 have A3 := Yd A30
 clear A30
 by_cases c4 : t270 = 0
 ·rw [if_pos c4] at H
  have c4b0 : (t270 == 0) = true := beq_iff_eq.mpr c4
  have c4b1 : (t270 != 0) = false := bne_eq_false_iff_eq.mpr c4
  clear c4
  replace H := Option.bind_eq_some_iff.mp H
  obtain ⟨t271,A50,H⟩ := H
  replace H : ((api_Hold__c25.f k t271 a1).bind fun t274 => (if (t274.length : Int) = (l0.length : Int) then (some (([] : List (S26)),9)) else (some (t274,0)))) = some (r1,r2) := H
  have A5 := Yd A50
  clear A50
  replace H := Option.bind_eq_some_iff.mp H
  obtain ⟨t274,A60,H⟩ := H
  replace H : (if (t274.length : Int) = (l0.length : Int) then (some (([] : List (S26)),9)) else (some (t274,0))) = some (r1,r2) := H
  have A6 := Yd A60
  clear A60
  by_cases c7 : (t274.length : Int) = (l0.length : Int)
  ·rw [if_pos c7] at H
   have c7b0 : ((t274.length : Int) == (l0.length : Int)) = true := beq_iff_eq.mpr c7
   have c7b1 : ((t274.length : Int) != (l0.length : Int)) = false := bne_eq_false_iff_eq.mpr c7
   have c7b2 : (t274.length == l0.length) = true := by first | simpa using c7 | (simp at c7 ⊢;omega)
   clear c7
   simp only [Option.some.injEq,Prod.mk.injEq] at H
   obtain ⟨rfl,rfl⟩ := H
   go_enter Try.func9,Try.ntmps9
   go_wp2_with (first | ((with_reducible refine gate_dst (N := 3) rfl ?_);refine box_event ?hg (N := 3) ?hd (cs := #[.string a1]) (t := 9) ?hr ?_;(case hd => rfl);(case hg => rfl);(case hr => first | (go_simp;done) | (go_simp;rfl));intro gb269 hg w8 hbox hb;have n0_ := Yd (below_step (Y3 HB.out) hb);have n1_ := Yd (hbox);have n2_ := Yd ((by rw [hg];exact (below_size (Y3 HB.out)) : w.heap.size ≤ gb269));have n3_ := Yd ((by rw [hg];exact (below_size (Y3 HB.out)) : w.heap.size ≤ gb269));clear HB;have HB := n0_;have BK269 := n1_;have GW269 := n2_;have GE269 := n3_;clear n0_ n1_ n2_ n3_;clear hb hbox hg) | ((with_reducible refine gate_callee (f := 16) rfl ?_);refine goesL_ (some 9) rfl rfl Try.func16 (by kernel_rfl) rfl #[.slice A0 l0.length c0] rfl Y8 ?_;(with_reducible refine (override_Check.calls k _ _ l0 t270 _ ?side1 ?side2 A3.out).mono ?_);(case side1 => exact Y11 (Kd.C_below HR0.out HB.out));(case side2 => exact HC0.out);rintro e w9 ⟨rfl,hb⟩;refine ⟨_,rfl,?_⟩;have n0_ := Yd (blk_below (g := gb269) (o := .cells #[.string a1] 9 (0,0)) (Y6 BK269.out) hb);have n1_ := Yd (below_step (by first | exact Y4 HB.out GE269.out | exact Y3 HB.out) hb);clear BK269;clear HB;have BK269 := n0_;have HB := n1_;clear n0_ n1_;(try clear hb);(try clear hb2);(try clear hk);(try clear hi)) | ((with_reducible refine gate_callee (f := 22) rfl ?_);refine goesL_ (some 14) rfl rfl Try.func22 (by kernel_rfl) rfl #[.slice A0 l0.length c0] rfl Y8 ?_;(with_reducible refine (api_Hold_22.calls _ _ l0 t271 _ ?side1 ?side2 A5.out).mono ?_);(case side1 => exact Y11 (Kd.C_below HR0.out HB.out));(case side2 => exact HC0.out);rintro e w10 ⟨v272,rfl,ho0,hb⟩;refine ⟨_,rfl,?_⟩;have n0_ := Yd (Kd.R_lower ho0 (below_size (by first | exact Y4 HB.out GE269.out | exact Y3 HB.out)));have n1_ := Yd (blk_below (g := gb269) (o := .cells #[.string a1] 9 (0,0)) (Y6 BK269.out) hb);have n2_ := Yd (below_step (by first | exact Y4 HB.out GE269.out | exact Y3 HB.out) hb);clear BK269;clear HB;have HO273 := n0_;have BK269 := n1_;have HB := n2_;clear n0_ n1_ n2_;(try clear hb);(try clear hb2);(try clear hk);(try clear hi);(try clear ho0);obtain ⟨Ao11,co11,eo11⟩ := Kd.R_slice HO273.out;subst eo11) | ((with_reducible refine gate_callee (f := 21) rfl ?_);refine goesL_ (some 16) rfl rfl Try.func21 (by kernel_rfl) rfl #[.slice Ao11 t271.length co11,.func (.func 25) #[] #[.pointer (some ⟨gb269,0,none⟩)]] rfl Y8 ?_;(with_reducible refine (api_Hold__c25.calls k (fun k_ => some k_ = (.slice Ao11 t271.length co11 : Value).ownBlock) (.slice Ao11 t271.length co11) t271 gb269 a1 t274 w _ ?side1 ?side2 ?side3 ?side4 A6.out).mono ?_);(case side1 => repeat (first | (with_reducible first | exact HB.out | apply below_alloc | apply Y15 | apply below_drew1 | refine below_set ?_ GE269.out) | exact HB.out));(case side2 => exact Kd.R_tight rfl HO273.out);(case side3 => exact (Y6 BK269.out));(case side4 => exact fun hs_ => (fun e_ => (Kd.R_ne HO273.out BK269.out (by decide)) e_) hs_);rintro e w12 ⟨v275,rfl,ho0,hb,hkp⟩;refine ⟨_,rfl,?_⟩;have n0_ := Yd (blk_kept (Y6 BK269.out) hkp (fun hs_ => (fun e_ => (Kd.R_ne HO273.out BK269.out (by decide)) e_) hs_));have n1_ := Yd (Kd.R_mono (ok' := fun k_ => True) ho0 (fun k_ hk_ => trivial));have n2_ := Yd (hb);clear BK269;clear HB;clear HO273;have BK269 := n0_;have HO276 := n1_;have HB := n2_;clear n0_ n1_ n2_;(try clear hb);(try clear hkp);(try clear ho0);obtain ⟨Ao13,co13,eo13⟩ := Kd.R_slice HO276.out;subst eo13))
   go_ret2
   exact ⟨_,by first | rfl | (simp [errW_none,errW_some] <;> rfl) | (simp [*,errW_none,errW_some] <;> rfl),by first | exact Kd.R_nil _ _ _ _ _ | exact Kd.N_nil _ _ _ _ _ | exact Kd.V_nil _ _ _ _ _ | exact Kd.Q_nil _ _ _ _ _ | exact Kd.S_nil _ _ _ _ _,by repeat (first | (with_reducible first | exact HB.out | apply below_alloc | apply Y15 | apply below_drew1 | refine below_set ?_ GE269.out) | exact HB.out)⟩
  ·rw [if_neg c7] at H
   have c7b0 : ((t274.length : Int) == (l0.length : Int)) = false := beq_eq_false_iff_ne.mpr c7
   have c7b1 : ((t274.length : Int) != (l0.length : Int)) = true := bne_iff_ne.mpr c7
   have c7b2 : (t274.length == l0.length) = false := by first | simpa using c7 | (simp at c7 ⊢;omega)
   simp only [Option.some.injEq,Prod.mk.injEq] at H
   obtain ⟨rfl,rfl⟩ := H
   go_enter Try.func9,Try.ntmps9
   go_wp2_with (first | ((with_reducible refine gate_dst (N := 3) rfl ?_);refine box_event ?hg (N := 3) ?hd (cs := #[.string a1]) (t := 9) ?hr ?_;(case hd => rfl);(case hg => rfl);(case hr => first | (go_simp;done) | (go_simp;rfl));intro gb269 hg w14 hbox hb;have n0_ := Yd (below_step (Y3 HB.out) hb);have n1_ := Yd (hbox);have n2_ := Yd ((by rw [hg];exact (below_size (Y3 HB.out)) : w.heap.size ≤ gb269));have n3_ := Yd ((by rw [hg];exact (below_size (Y3 HB.out)) : w.heap.size ≤ gb269));clear HB;have HB := n0_;have BK269 := n1_;have GW269 := n2_;have GE269 := n3_;clear n0_ n1_ n2_ n3_;clear hb hbox hg) | ((with_reducible refine gate_callee (f := 16) rfl ?_);refine goesL_ (some 9) rfl rfl Try.func16 (by kernel_rfl) rfl #[.slice A0 l0.length c0] rfl Y8 ?_;(with_reducible refine (override_Check.calls k _ _ l0 t270 _ ?side1 ?side2 A3.out).mono ?_);(case side1 => exact Y11 (Kd.C_below HR0.out HB.out));(case side2 => exact HC0.out);rintro e w15 ⟨rfl,hb⟩;refine ⟨_,rfl,?_⟩;have n0_ := Yd (blk_below (g := gb269) (o := .cells #[.string a1] 9 (0,0)) (Y6 BK269.out) hb);have n1_ := Yd (below_step (by first | exact Y4 HB.out GE269.out | exact Y3 HB.out) hb);clear BK269;clear HB;have BK269 := n0_;have HB := n1_;clear n0_ n1_;(try clear hb);(try clear hb2);(try clear hk);(try clear hi)) | ((with_reducible refine gate_callee (f := 22) rfl ?_);refine goesL_ (some 14) rfl rfl Try.func22 (by kernel_rfl) rfl #[.slice A0 l0.length c0] rfl Y8 ?_;(with_reducible refine (api_Hold_22.calls _ _ l0 t271 _ ?side1 ?side2 A5.out).mono ?_);(case side1 => exact Y11 (Kd.C_below HR0.out HB.out));(case side2 => exact HC0.out);rintro e w16 ⟨v272,rfl,ho0,hb⟩;refine ⟨_,rfl,?_⟩;have n0_ := Yd (Kd.R_lower ho0 (below_size (by first | exact Y4 HB.out GE269.out | exact Y3 HB.out)));have n1_ := Yd (blk_below (g := gb269) (o := .cells #[.string a1] 9 (0,0)) (Y6 BK269.out) hb);have n2_ := Yd (below_step (by first | exact Y4 HB.out GE269.out | exact Y3 HB.out) hb);clear BK269;clear HB;have HO273 := n0_;have BK269 := n1_;have HB := n2_;clear n0_ n1_ n2_;(try clear hb);(try clear hb2);(try clear hk);(try clear hi);(try clear ho0);obtain ⟨Ao17,co17,eo17⟩ := Kd.R_slice HO273.out;subst eo17) | ((with_reducible refine gate_callee (f := 21) rfl ?_);refine goesL_ (some 16) rfl rfl Try.func21 (by kernel_rfl) rfl #[.slice Ao17 t271.length co17,.func (.func 25) #[] #[.pointer (some ⟨gb269,0,none⟩)]] rfl Y8 ?_;(with_reducible refine (api_Hold__c25.calls k (fun k_ => some k_ = (.slice Ao17 t271.length co17 : Value).ownBlock) (.slice Ao17 t271.length co17) t271 gb269 a1 t274 w _ ?side1 ?side2 ?side3 ?side4 A6.out).mono ?_);(case side1 => repeat (first | (with_reducible first | exact HB.out | apply below_alloc | apply Y15 | apply below_drew1 | refine below_set ?_ GE269.out) | exact HB.out));(case side2 => exact Kd.R_tight rfl HO273.out);(case side3 => exact (Y6 BK269.out));(case side4 => exact fun hs_ => (fun e_ => (Kd.R_ne HO273.out BK269.out (by decide)) e_) hs_);rintro e w18 ⟨v275,rfl,ho0,hb,hkp⟩;refine ⟨_,rfl,?_⟩;have n0_ := Yd (blk_kept (Y6 BK269.out) hkp (fun hs_ => (fun e_ => (Kd.R_ne HO273.out BK269.out (by decide)) e_) hs_));have n1_ := Yd (Kd.R_mono (ok' := fun k_ => True) ho0 (fun k_ hk_ => trivial));have n2_ := Yd (hb);clear BK269;clear HB;clear HO273;have BK269 := n0_;have HO276 := n1_;have HB := n2_;clear n0_ n1_ n2_;(try clear hb);(try clear hkp);(try clear ho0);obtain ⟨Ao19,co19,eo19⟩ := Kd.R_slice HO276.out;subst eo19))
   go_ret2
   exact ⟨_,by first | rfl | (simp [errW_none,errW_some] <;> rfl) | (simp [*,errW_none,errW_some] <;> rfl),by (with_reducible repeat (first | apply Kd.R_alloc | apply Kd.R_drewN | apply Kd.R_drew));exact HO276.out,by repeat (first | (with_reducible first | exact HB.out | apply below_alloc | apply Y15 | apply below_drew1 | refine below_set ?_ GE269.out) | exact HB.out)⟩
 ·rw [if_neg c4] at H
  have c4b0 : (t270 == 0) = false := beq_eq_false_iff_ne.mpr c4
  have c4b1 : (t270 != 0) = true := bne_iff_ne.mpr c4
  simp only [Option.some.injEq,Prod.mk.injEq] at H
  obtain ⟨rfl,rfl⟩ := H
  go_enter Try.func9,Try.ntmps9
  go_wp2_with (first | ((with_reducible refine gate_dst (N := 3) rfl ?_);refine box_event ?hg (N := 3) ?hd (cs := #[.string a1]) (t := 9) ?hr ?_;(case hd => rfl);(case hg => rfl);(case hr => first | (go_simp;done) | (go_simp;rfl));intro gb269 hg w20 hbox hb;have n0_ := Yd (below_step (Y3 HB.out) hb);have n1_ := Yd (hbox);have n2_ := Yd ((by rw [hg];exact (below_size (Y3 HB.out)) : w.heap.size ≤ gb269));have n3_ := Yd ((by rw [hg];exact (below_size (Y3 HB.out)) : w.heap.size ≤ gb269));clear HB;have HB := n0_;have BK269 := n1_;have GW269 := n2_;have GE269 := n3_;clear n0_ n1_ n2_ n3_;clear hb hbox hg) | ((with_reducible refine gate_callee (f := 16) rfl ?_);refine goesL_ (some 9) rfl rfl Try.func16 (by kernel_rfl) rfl #[.slice A0 l0.length c0] rfl Y8 ?_;(with_reducible refine (override_Check.calls k _ _ l0 t270 _ ?side1 ?side2 A3.out).mono ?_);(case side1 => exact Y11 (Kd.C_below HR0.out HB.out));(case side2 => exact HC0.out);rintro e w21 ⟨rfl,hb⟩;refine ⟨_,rfl,?_⟩;have n0_ := Yd (blk_below (g := gb269) (o := .cells #[.string a1] 9 (0,0)) (Y6 BK269.out) hb);have n1_ := Yd (below_step (by first | exact Y4 HB.out GE269.out | exact Y3 HB.out) hb);clear BK269;clear HB;have BK269 := n0_;have HB := n1_;clear n0_ n1_;(try clear hb);(try clear hb2);(try clear hk);(try clear hi)))
  go_ret2
  exact ⟨_,by first | rfl | (simp [errW_none,errW_some] <;> rfl) | (simp [*,errW_none,errW_some] <;> rfl),by first | exact Kd.R_nil _ _ _ _ _ | exact Kd.N_nil _ _ _ _ _ | exact Kd.V_nil _ _ _ _ _ | exact Kd.Q_nil _ _ _ _ _ | exact Kd.S_nil _ _ _ _ _,by repeat (first | (with_reducible first | exact HB.out | apply below_alloc | apply Y15 | apply below_drew1 | refine below_set ?_ GE269.out) | exact HB.out)⟩
mutual
def plenumref10_Name.l0 : Nat → ByteArray → Int → Option (Bool)
 | 0,_,_ => none
 | k + 1,x0,x3 => if x3 < (x0.size : Int) then (if 0 ≤ x3 then (if (bt x0 x3) ≥ 97 then (if ((bt x0 x3) ≤ 122) then (plenumref10_Name.j1 k x0 x3 false) else (if x3 = 0 then (plenumref10_Name.j1 k x0 x3 true) else (if (bt x0 x3) ≥ 48 then (if ((bt x0 x3) ≤ 57) then (plenumref10_Name.j1 k x0 x3 false) else (plenumref10_Name.j1 k x0 x3 ((bt x0 x3) != 95))) else (plenumref10_Name.j1 k x0 x3 ((bt x0 x3) != 95))))) else (if x3 = 0 then (plenumref10_Name.j1 k x0 x3 true) else (if (bt x0 x3) ≥ 48 then (if ((bt x0 x3) ≤ 57) then (plenumref10_Name.j1 k x0 x3 false) else (plenumref10_Name.j1 k x0 x3 ((bt x0 x3) != 95))) else (plenumref10_Name.j1 k x0 x3 ((bt x0 x3) != 95))))) else (none)) else (if (x0.size : Int) ≥ 1 then (some (decide ((x0.size : Int) ≤ 24))) else (some false))
def plenumref10_Name.j1 : Nat → ByteArray → Int → Bool → Option (Bool)
 | 0,_,_,_ => none
 | k + 1,x0,x3,x37 => if x37 = true then (some false) else (plenumref10_Name.l0 k x0 (wrap64 (x3 + 1)))
end
def plenumref10_Name.f (k : Nat) (a0 : ByteArray) : Option (Bool) := plenumref10_Name.l0 k a0 0
theorem plenumref10_Name.mono_l : ∀ k,(∀ y0 y1,LeO (plenumref10_Name.l0 k y0 y1) (plenumref10_Name.l0 (k + 1) y0 y1)) ∧ (∀ y0 y1 y2,LeO (plenumref10_Name.j1 k y0 y1 y2) (plenumref10_Name.j1 (k + 1) y0 y1 y2))
 | 0 => ⟨fun _ _ r h => by simp [plenumref10_Name.l0] at h,fun _ _ _ r h => by simp [plenumref10_Name.j1] at h⟩
 | k + 1 => by
  obtain ⟨ih0,ih1⟩ := plenumref10_Name.mono_l k
  refine ⟨?_,?_⟩
  ·intro y0 y1
   unfold plenumref10_Name.l0
   repeat' first
   | (with_reducible exact ih0 _ _)
   | (with_reducible exact ih1 _ _ _)
   | (with_reducible exact LeO.refl _)
   | (with_reducible exact LeO.none _)
   | (with_reducible refine LeO.ite ?_ ?_)
   | (with_reducible refine LeO.bind ?_ (fun _ => ?_))
   | exact ih0 _ _
   | exact ih1 _ _ _
   | exact LeO.none _
   | refine LeO.ite ?_ ?_
   | refine LeO.bind ?_ (fun _ => ?_)
  ·intro y0 y1 y2
   unfold plenumref10_Name.j1
   repeat' first
   | (with_reducible exact ih0 _ _)
   | (with_reducible exact ih1 _ _ _)
   | (with_reducible exact LeO.refl _)
   | (with_reducible exact LeO.none _)
   | (with_reducible refine LeO.ite ?_ ?_)
   | (with_reducible refine LeO.bind ?_ (fun _ => ?_))
   | exact ih0 _ _
   | exact ih1 _ _ _
   | exact LeO.none _
   | refine LeO.ite ?_ ?_
   | refine LeO.bind ?_ (fun _ => ?_)
theorem plenumref10_Name.mono : ∀ a0 k,LeO (plenumref10_Name.f k a0) (plenumref10_Name.f (k + 1) a0) := by
 intro a0 k
 obtain ⟨ih0,ih1⟩ := plenumref10_Name.mono_l k
 unfold plenumref10_Name.f
 repeat' first
   | (with_reducible exact ih0 _ _)
   | (with_reducible exact ih1 _ _ _)
   | (with_reducible exact LeO.refl _)
   | (with_reducible exact LeO.none _)
   | (with_reducible refine LeO.ite ?_ ?_)
   | (with_reducible refine LeO.bind ?_ (fun _ => ?_))
   | exact ih0 _ _
   | exact ih1 _ _ _
   | exact LeO.none _
   | refine LeO.ite ?_ ?_
   | refine LeO.bind ?_ (fun _ => ?_)
set_option maxHeartbeats 100000000 in
set_option maxRecDepth 100000 in
theorem plenumref10_Name.calls (k : Nat) (a0 : ByteArray) (r : Bool) (w : World) (h : plenumref10_Name.f k a0 = some r) :
  Calls Try.prog 26 #[.string a0] w fun e w' => e = .returned (.bool r) ∧ Drawn0 w w' := by
 have H : (plenumref10_Name.l0 k a0 0) = some r := h
 clear h
 have H' := Yd H
 clear H
 go_enter Try.func26,Try.ntmps26
 go_wp2
 go_loopg [3] k (fun kq v3 w' => ∃ (x3_1 : Int),v3 = .int .i64 x3_1 ∧ Aside0 (plenumref10_Name.l0 kq a0 x3_1 = some r) ∧ Aside0 (kq ≤ k) ∧ Drawn0 w w')
 case atStart => exact ⟨(0),Y12,H',⟨Nat.le_refl _⟩,by repeat (first | exact Drawn0.refl _ | apply Drawn0.step)⟩
 case round =>
  clear H'
  obtain ⟨x3_1,rfl,HA,HK1,⟨m1,rfl⟩⟩ := hrel
  cases gk with
  | zero => exact absurd HA.out (by simp [plenumref10_Name.l0])
  | succ k1 =>
   have H := HA.out
   clear HA
   simp only [plenumref10_Name.l0] at H
   by_cases c2 : x3_1 < (a0.size : Int)
   ·rw [if_pos c2] at H
    have c2b0 : decide (x3_1 < (a0.size : Int)) = true := decide_eq_true c2
    clear c2
    by_cases c3 : 0 ≤ x3_1
    case neg => rw [if_neg c3] at H;exact absurd H (by simp)
    rw [if_pos c3] at H
    have c3b0 : decide (0 ≤ x3_1) = true := decide_eq_true c3
    clear c3
    have HC5 := Yd H
    clear H
    have p4 : 0 ≤ (x3_1 : Int) := Y9
    have q4 : x3_1 < (a0.size : Int) := Y9
    have hx4 := bt_at a0 x3_1
    replace p4 := eq_true p4
    replace q4 := eq_true q4
    go_upto_region 5 with (fail)
    go_cut [37] (fun v37 wc => ∃ (kq : Nat) (x37_4 : Bool),v37 = .bool x37_4 ∧ Aside0 (plenumref10_Name.j1 kq a0 x3_1 x37_4 = some r) ∧ Aside0 (kq ≤ k1) ∧ Drawn0 w wc)
    case first =>
     have H := HC5.out
     clear HC5
     by_cases c6 : (bt a0 x3_1) ≥ 97
     ·rw [if_pos c6] at H
      have c6b0 : decide (97 ≤ (bt a0 x3_1)) = true := decide_eq_true c6
      clear c6
      (first | rw [c6b0] | (simp only [i64_w,i32_w];rw [c6b0]) | skip)
      by_cases c7 : ((bt a0 x3_1) ≤ 122)
      ·rw [if_pos c7] at H
       have c7b0 : decide ((bt a0 x3_1) ≤ 122) = true := decide_eq_true c7
       clear c7
       have H' := Yd H
       clear H
       go_wp2
       go_meet
       case rel => exact ⟨_,(false),Y12,H',⟨by have := HK1.out;first | omega | exact Nat.le_refl _⟩,by repeat (first | exact Drawn0.refl _ | apply Drawn0.step)⟩
      ·rw [if_neg c7] at H
       have c7b0 : decide ((bt a0 x3_1) ≤ 122) = false := decide_eq_false c7
       clear c7
       by_cases c8 : x3_1 = 0
       ·rw [if_pos c8] at H
        have c8b0 : (x3_1 == 0) = true := beq_iff_eq.mpr c8
        have c8b1 : (x3_1 != 0) = false := bne_eq_false_iff_eq.mpr c8
        clear c8
        have H' := Yd H
        clear H
        go_wp2
        go_meet
        case rel => exact ⟨_,(true),Y12,H',⟨by have := HK1.out;first | omega | exact Nat.le_refl _⟩,by repeat (first | exact Drawn0.refl _ | apply Drawn0.step)⟩
       ·rw [if_neg c8] at H
        have c8b0 : (x3_1 == 0) = false := beq_eq_false_iff_ne.mpr c8
        have c8b1 : (x3_1 != 0) = true := bne_iff_ne.mpr c8
        by_cases c9 : (bt a0 x3_1) ≥ 48
        ·rw [if_pos c9] at H
         have c9b0 : decide (48 ≤ (bt a0 x3_1)) = true := decide_eq_true c9
         clear c9
         by_cases c10 : ((bt a0 x3_1) ≤ 57)
         ·rw [if_pos c10] at H
          have c10b0 : decide ((bt a0 x3_1) ≤ 57) = true := decide_eq_true c10
          clear c10
          have H' := Yd H
          clear H
          go_wp2
          go_meet
          case rel => exact ⟨_,(false),Y12,H',⟨by have := HK1.out;first | omega | exact Nat.le_refl _⟩,by repeat (first | exact Drawn0.refl _ | apply Drawn0.step)⟩
         ·rw [if_neg c10] at H
          have c10b0 : decide ((bt a0 x3_1) ≤ 57) = false := decide_eq_false c10
          clear c10
          have H' := Yd H
          clear H
          go_wp2
          go_meet
          case rel => exact ⟨_,(((bt a0 x3_1) != 95)),Y12,H',⟨by have := HK1.out;first | omega | exact Nat.le_refl _⟩,by repeat (first | exact Drawn0.refl _ | apply Drawn0.step)⟩
        ·rw [if_neg c9] at H
         have c9b0 : decide (48 ≤ (bt a0 x3_1)) = false := decide_eq_false c9
         clear c9
         have H' := Yd H
         clear H
         go_wp2
         go_meet
         case rel => exact ⟨_,(((bt a0 x3_1) != 95)),Y12,H',⟨by have := HK1.out;first | omega | exact Nat.le_refl _⟩,by repeat (first | exact Drawn0.refl _ | apply Drawn0.step)⟩
     ·rw [if_neg c6] at H
      have c6b0 : decide (97 ≤ (bt a0 x3_1)) = false := decide_eq_false c6
      clear c6
      (first | rw [c6b0] | (simp only [i64_w,i32_w];rw [c6b0]) | skip)
      by_cases c11 : x3_1 = 0
      ·rw [if_pos c11] at H
       have c11b0 : (x3_1 == 0) = true := beq_iff_eq.mpr c11
       have c11b1 : (x3_1 != 0) = false := bne_eq_false_iff_eq.mpr c11
       clear c11
       have H' := Yd H
       clear H
       go_wp2
       go_meet
       case rel => exact ⟨_,(true),Y12,H',⟨by have := HK1.out;first | omega | exact Nat.le_refl _⟩,by repeat (first | exact Drawn0.refl _ | apply Drawn0.step)⟩
      ·rw [if_neg c11] at H
       have c11b0 : (x3_1 == 0) = false := beq_eq_false_iff_ne.mpr c11
       have c11b1 : (x3_1 != 0) = true := bne_iff_ne.mpr c11
       by_cases c12 : (bt a0 x3_1) ≥ 48
       ·rw [if_pos c12] at H
        have c12b0 : decide (48 ≤ (bt a0 x3_1)) = true := decide_eq_true c12
        clear c12
        by_cases c13 : ((bt a0 x3_1) ≤ 57)
        ·rw [if_pos c13] at H
         have c13b0 : decide ((bt a0 x3_1) ≤ 57) = true := decide_eq_true c13
         clear c13
         have H' := Yd H
         clear H
         go_wp2
         go_meet
         case rel => exact ⟨_,(false),Y12,H',⟨by have := HK1.out;first | omega | exact Nat.le_refl _⟩,by repeat (first | exact Drawn0.refl _ | apply Drawn0.step)⟩
        ·rw [if_neg c13] at H
         have c13b0 : decide ((bt a0 x3_1) ≤ 57) = false := decide_eq_false c13
         clear c13
         have H' := Yd H
         clear H
         go_wp2
         go_meet
         case rel => exact ⟨_,(((bt a0 x3_1) != 95)),Y12,H',⟨by have := HK1.out;first | omega | exact Nat.le_refl _⟩,by repeat (first | exact Drawn0.refl _ | apply Drawn0.step)⟩
       ·rw [if_neg c12] at H
        have c12b0 : decide (48 ≤ (bt a0 x3_1)) = false := decide_eq_false c12
        clear c12
        have H' := Yd H
        clear H
        go_wp2
        go_meet
        case rel => exact ⟨_,(((bt a0 x3_1) != 95)),Y12,H',⟨by have := HK1.out;first | omega | exact Nat.le_refl _⟩,by repeat (first | exact Drawn0.refl _ | apply Drawn0.step)⟩
    case rest =>
     clear HC5
     try clear c1
     try clear c2
     try clear c2b0
     try clear p2
     try clear c3
     try clear c3b0
     try clear p4
     try clear q4
     try clear hx4
     try clear c6
     try clear c6b0
     try clear c7
     try clear c7b0
     try clear c8
     try clear c8b0
     try clear c8b1
     try clear c9
     try clear c9b0
     try clear c10
     try clear c10b0
     try clear c11
     try clear c11b0
     try clear c11b1
     try clear c12
     try clear c12b0
     try clear c13
     try clear c13b0
     try clear p4
     try clear q4
     obtain ⟨kq,x37_4,rfl,HA,HJ4,⟨mc4,rfl⟩⟩ := hcut
     cases kq with
     | zero => exact absurd HA.out (by simp [plenumref10_Name.j1])
     | succ kj4 =>
      have H := HA.out
      clear HA
      simp only [plenumref10_Name.j1] at H
      by_cases c14 : x37_4 = true
      ·subst c14
       have H1 : (some false) = some r := by rw [if_pos rfl] at H;exact H
       clear H
       have H := H1
       clear H1
       obtain rfl := Option.some.inj H
       go_wp2
       go_ret
       exact ⟨by first | rfl | (simp;done) | (simp [*];done),by repeat (first | exact Drawn0.refl _ | apply Drawn0.step)⟩
      ·replace c14 := Bool.eq_false_iff.mpr c14
       subst c14
       have H1 : (plenumref10_Name.l0 kj4 a0 (wrap64 (x3_1 + 1))) = some r := by rw [if_neg (show ¬ (false = true) by decide)] at H;exact H
       clear H
       have H := H1
       clear H1
       have H' := Yd H
       clear H
       go_wp2
       go_roundg kj4
       case measure => have := HK1.out;have := HJ4.out;omega
       case rel => exact ⟨(wrap64 (x3_1 + 1)),Y12,H',⟨by have := HK1.out;have := HJ4.out;omega⟩,by repeat (first | exact Drawn0.refl _ | apply Drawn0.step)⟩
   ·rw [if_neg c2] at H
    have c2b0 : decide (x3_1 < (a0.size : Int)) = false := decide_eq_false c2
    clear c2
    by_cases c15 : (a0.size : Int) ≥ 1
    ·rw [if_pos c15] at H
     have c15b0 : decide (1 ≤ (a0.size : Int)) = true := decide_eq_true c15
     have c15b1 : decide (1 ≤ a0.size) = true := decide_eq_true (by omega)
     clear c15
     obtain rfl := Option.some.inj H
     go_wp2
     go_ret
     exact ⟨by first | rfl | (simp;done) | (simp [*];done),by repeat (first | exact Drawn0.refl _ | apply Drawn0.step)⟩
    ·rw [if_neg c15] at H
     have c15b0 : decide (1 ≤ (a0.size : Int)) = false := decide_eq_false c15
     have c15b1 : decide (1 ≤ a0.size) = false := decide_eq_false (by omega)
     clear c15
     obtain rfl := Option.some.inj H
     go_wp2
     go_ret
     exact ⟨by first | rfl | (simp;done) | (simp [*];done),by repeat (first | exact Drawn0.refl _ | apply Drawn0.step)⟩
def plenumref34_in.f (a0 : Int) (a1 : Int) (a2 : Int) : Option (Bool) := if a0 ≥ a1 then (some (decide (a0 ≤ a2))) else (some false)
set_option maxHeartbeats 100000000 in
set_option maxRecDepth 100000 in
theorem plenumref34_in.calls (a0 : Int) (a1 : Int) (a2 : Int) (r : Bool) (w : World) (h : plenumref34_in.f a0 a1 a2 = some r) :
  Calls Try.prog 27 #[.int .i64 a0,.int .i64 a1,.int .i64 a2] w fun e w' => e = .returned (.bool r) ∧ Drawn0 w w' := by
 have H : (if a0 ≥ a1 then (some (decide (a0 ≤ a2))) else (some false)) = some r := h
 clear h
 by_cases c4 : a0 ≥ a1
 ·rw [if_pos c4] at H
  have c4b0 : decide (a1 ≤ a0) = true := decide_eq_true c4
  clear c4
  obtain rfl := Option.some.inj H
  go_enter Try.func27,Try.ntmps27
  go_wp2
  go_ret
  exact ⟨by first | rfl | (simp;done) | (simp [*];done),by repeat (first | exact Drawn0.refl _ | apply Drawn0.step)⟩
 ·rw [if_neg c4] at H
  have c4b0 : decide (a1 ≤ a0) = false := decide_eq_false c4
  clear c4
  obtain rfl := Option.some.inj H
  go_enter Try.func27,Try.ntmps27
  go_wp2
  go_ret
  exact ⟨by first | rfl | (simp;done) | (simp [*];done),by repeat (first | exact Drawn0.refl _ | apply Drawn0.step)⟩
end Go.Proofs.Ytaoicdkjjjlmeaa.PD34
namespace Go.Proofs.Ytaoicdkjjjlmeaa.PD34
open Go.RowKit Go.Proofs.YtaoicdkjjjlmeaaW.PrintWords Go.Proofs.YtaoicdkjjjlmeaaW.PrintLast Go.Proofs.YtaoicdkjjjlmeaaW.PrintMore
attribute [local go_sem] max2_int min2_int max_two min_two max_three min_three max_four min_four
def override_Expire_1_.f (a0_0 : ByteArray) (a0_1 : Int) (a0_2 : Int) (a0_3 : Int) (a0_4 : Int) (a0_5 : Int) (a1_0 : Int) : Option (Bool) := some (decide (a0_2 ≤ a1_0))
set_option maxHeartbeats 100000000 in
set_option maxRecDepth 100000 in
theorem override_Expire_1_.calls (a0_0 : ByteArray) (a0_1 : Int) (a0_2 : Int) (a0_3 : Int) (a0_4 : Int) (a0_5 : Int) (B1_0_ : Nat) (a1_0 : Int) (r : Bool) (w : World) (hx1_0_ : w.heap[B1_0_]? = some (.cells #[.int .i64 a1_0] 3 (0,0))) (h : override_Expire_1_.f a0_0 a0_1 a0_2 a0_3 a0_4 a0_5 a1_0 = some r) :
  Calls Try.prog 28 #[.agg #[.string a0_0,.int .i64 a0_1,.int .i64 a0_2,.int .i64 a0_3,.int .i64 a0_4,.int .i64 a0_5],.pointer (some ⟨B1_0_,0,none⟩)] w fun e w' => e = .returned (.bool r) ∧ Below w.heap.size w w' := by
 have hu26 := Try.underlying26
 have BK290 := Yd hx1_0_
 clear hx1_0_
 have HB := Yd (Below.refl w.heap.size w)
 have H : (some (decide (a0_2 ≤ a1_0))) = some r := h
 clear h
 obtain rfl := Option.some.inj H
 go_enter Try.func28,Try.ntmps28
 go_wp2_with (first | ((with_reducible refine gate_dst (N := 2) rfl ?_);refine box_event ?hg (N := 2) ?hd (cs := #[.string a0_0,.int .i64 a0_1,.int .i64 a0_2,.int .i64 a0_3,.int .i64 a0_4,.int .i64 a0_5]) (t := 26) ?hr ?_;(case hd => rfl);(case hg => rfl);(case hr => first | (go_simp;done) | (go_simp;rfl));intro gb291 hg w3 hbox hb;have n0_ := Yd (blk_below (g := B1_0_) (o := .cells #[.int .i64 a1_0] 3 (0,0)) (Y6 BK290.out) hb);have n1_ := Yd (below_step (by first | exact Y4 HB.out GE290.out | exact Y3 HB.out) hb);have n2_ := Yd (hbox);have n3_ := Yd ((by rw [hg];exact (below_size (by first | exact Y4 HB.out GE290.out | exact Y3 HB.out)) : w.heap.size ≤ gb291));have n4_ := Yd ((by rw [hg];exact (below_size (by first | exact Y4 HB.out GE290.out | exact Y3 HB.out)) : w.heap.size ≤ gb291));have n5_ := Yd ((by rw [hg];exact Nat.ne_of_lt (blk_lt (g := B1_0_) (o := .cells #[.int .i64 a1_0] 3 (0,0)) (Y6 BK290.out)) : B1_0_ ≠ gb291));have n6_ := Yd ((by rw [hg];exact Nat.ne_of_gt (blk_lt (g := B1_0_) (o := .cells #[.int .i64 a1_0] 3 (0,0)) (Y6 BK290.out)) : gb291 ≠ B1_0_));clear BK290;clear HB;have BK290 := n0_;have HB := n1_;have BK291 := n2_;have GW291 := n3_;have GE291 := n4_;have NB290_291 := n5_;have NB291_290 := n6_;clear n0_ n1_ n2_ n3_ n4_ n5_ n6_;clear hb hbox hg;have hnb4 := NB291_290.out;have hnc4 := NB290_291.out;have hcz5_0 : w3.cell? ⟨gb291,0,none⟩ = some (.string a0_0) := (blk_cell BK291.out 0).trans rfl;have hcz5_1 : w3.cell? ⟨gb291,1,none⟩ = some (.int .i64 a0_1) := (blk_cell BK291.out 1).trans rfl;have hcz5_2 : w3.cell? ⟨gb291,2,none⟩ = some (.int .i64 a0_2) := (blk_cell BK291.out 2).trans rfl;have hcz5_3 : w3.cell? ⟨gb291,3,none⟩ = some (.int .i64 a0_3) := (blk_cell BK291.out 3).trans rfl;have hcz5_4 : w3.cell? ⟨gb291,4,none⟩ = some (.int .i64 a0_4) := (blk_cell BK291.out 4).trans rfl;have hcz5_5 : w3.cell? ⟨gb291,5,none⟩ = some (.int .i64 a0_5) := (blk_cell BK291.out 5).trans rfl;have hfz5_0 := blk_frozen BK291.out 0;have hfz5_1 := blk_frozen BK291.out 1;have hfz5_2 := blk_frozen BK291.out 2;have hfz5_3 := blk_frozen BK291.out 3;have hfz5_4 := blk_frozen BK291.out 4;have hfz5_5 := blk_frozen BK291.out 5;have hcz6_0 : w3.cell? ⟨B1_0_,0,none⟩ = some (.int .i64 a1_0) := (blk_cell BK290.out 0).trans rfl;have hfz6_0 := blk_frozen BK290.out 0))
 go_ret
 exact ⟨by first | rfl | (simp [errW_none,errW_some] <;> rfl) | (simp [*,errW_none,errW_some] <;> rfl),by repeat (first | (with_reducible first | exact HB.out | apply below_alloc | apply Y15 | apply below_drew1 | refine below_set ?_ GE290.out | refine below_set ?_ GE291.out) | exact HB.out)⟩
def api_Hold__c28_.l0 : Nat → List (S26) → Int → Int → Int → Option (Int)
 | 0,_,_,_,_ => none
 | k + 1,x0,x7,x8,x293000 => if x8 < x7 then (if 0 ≤ x8 then (if x8 < (x0.length : Int) then ((override_Expire_1_.f ((rd_T26 x0 x8).f0) ((rd_T26 x0 x8).f1) ((rd_T26 x0 x8).f2) ((rd_T26 x0 x8).f3.f0) ((rd_T26 x0 x8).f3.f1) ((rd_T26 x0 x8).f4) x293000).bind fun t294 => (if t294 = true then (some x8) else (api_Hold__c28_.l0 k x0 x7 (wrap64 (x8 + 1)) x293000))) else (none)) else (none)) else (some (-1))
def api_Hold__c28_.f (k : Nat) (l0 : List (S26)) (a1_0 : Int) : Option (Int) := api_Hold__c28_.l0 k l0 (l0.length : Int) 0 a1_0
theorem api_Hold__c28_.mono_l : ∀ k,(∀ y0 y1 y2 y3,LeO (api_Hold__c28_.l0 k y0 y1 y2 y3) (api_Hold__c28_.l0 (k + 1) y0 y1 y2 y3))
 | 0 => fun _ _ _ _ r h => by simp [api_Hold__c28_.l0] at h
 | k + 1 => by
  have ih0 := api_Hold__c28_.mono_l k
  ·intro y0 y1 y2 y3
   unfold api_Hold__c28_.l0
   repeat' first
   | (with_reducible exact ih0 _ _ _ _)
   | (with_reducible exact LeO.refl _)
   | (with_reducible exact LeO.none _)
   | (with_reducible refine LeO.ite ?_ ?_)
   | (with_reducible refine LeO.bind ?_ (fun _ => ?_))
   | exact ih0 _ _ _ _
   | exact LeO.none _
   | refine LeO.ite ?_ ?_
   | refine LeO.bind ?_ (fun _ => ?_)
theorem api_Hold__c28_.mono : ∀ a0 a1 k,LeO (api_Hold__c28_.f k a0 a1) (api_Hold__c28_.f (k + 1) a0 a1) := by
 intro a0 a1 k
 have ih0 := api_Hold__c28_.mono_l k
 unfold api_Hold__c28_.f
 repeat' first
   | (with_reducible exact ih0 _ _ _ _)
   | (with_reducible exact LeO.refl _)
   | (with_reducible exact LeO.none _)
   | (with_reducible refine LeO.ite ?_ ?_)
   | (with_reducible refine LeO.bind ?_ (fun _ => ?_))
   | exact ih0 _ _ _ _
   | exact LeO.none _
   | refine LeO.ite ?_ ?_
   | refine LeO.bind ?_ (fun _ => ?_)
set_option maxHeartbeats 100000000 in
set_option maxRecDepth 100000 in
theorem api_Hold__c28_.calls (k : Nat) (A0 : Option Addr) (c0 : Nat) (l0 : List (S26)) (B1_0_ : Nat) (a1_0 : Int) (r : Int) (w : World) (hr0 : Kd.C k26 w A0 l0.length l0) (hc0 : l0.length ≤ c0) (hx1_0_ : w.heap[B1_0_]? = some (.cells #[.int .i64 a1_0] 3 (0,0))) (h : api_Hold__c28_.f k l0 a1_0 = some r) :
  Calls Try.prog 39 #[.slice A0 l0.length c0,.func (.func 28) #[] #[.pointer (some ⟨B1_0_,0,none⟩)]] w fun e w' => e = .returned (.int .i64 r) ∧ Below w.heap.size w w' := by
 have hu26 := Try.underlying26
 have HR0 := Yd hr0
 have HC0 := Yd hc0
 clear hr0 hc0
 have BK292 := Yd hx1_0_
 clear hx1_0_
 have HB := Yd (Below.refl w.heap.size w)
 have H : (api_Hold__c28_.l0 k l0 (l0.length : Int) 0 a1_0) = some r := h
 clear h
 have H' := Yd H
 clear H
 go_enter Try.func39,Try.ntmps39
 go_wp2
 go_loopg [8] k (fun kq v8 w' => ∃ (x8_1 : Int),v8 = .int .i64 x8_1 ∧ Aside0 (api_Hold__c28_.l0 kq l0 (l0.length : Int) x8_1 a1_0 = some r) ∧ Aside0 (kq ≤ k) ∧ Aside0 (w'.heap[B1_0_]? = some (.cells #[.int .i64 a1_0] 3 (0,0))) ∧ Aside0 (Below w.heap.size w w'))
 case atStart => exact ⟨(0),Y12,H',⟨Nat.le_refl _⟩,⟨Y6 BK292.out⟩,⟨by repeat (first | (with_reducible first | exact HB.out | apply below_alloc | apply Y15 | apply below_drew1 | refine below_set ?_ GE292.out) | exact HB.out)⟩⟩
 case round =>
  clear H'
  try clear hx1
  try clear c2
  try clear p2
  obtain ⟨x8_1,rfl,HA,HK1,BK292,HB⟩ := hrel
  cases gk with
  | zero => exact absurd HA.out (by simp [api_Hold__c28_.l0])
  | succ k1 =>
   have H := HA.out
   clear HA
   simp only [api_Hold__c28_.l0] at H
   by_cases c3 : x8_1 < (l0.length : Int)
   ·rw [if_pos c3] at H
    have c3b0 : decide (x8_1 < (l0.length : Int)) = true := decide_eq_true c3
    clear c3
    by_cases c4 : 0 ≤ x8_1
    case neg => rw [if_neg c4] at H;exact absurd H (by simp)
    rw [if_pos c4] at H
    have c4b0 : decide (0 ≤ x8_1) = true := decide_eq_true c4
    clear c4
    by_cases c5 : x8_1 < (l0.length : Int)
    case neg => rw [if_neg c5] at H;exact absurd H (by simp)
    rw [if_pos c5] at H
    have c5b0 : decide (x8_1 < (l0.length : Int)) = true := decide_eq_true c5
    clear c5
    replace H := Option.bind_eq_some_iff.mp H
    obtain ⟨t294,A60,H⟩ := H
    replace H : (if t294 = true then (some x8_1) else (api_Hold__c28_.l0 k1 l0 (l0.length : Int) (wrap64 (x8_1 + 1)) a1_0)) = some r := H
    have A6 := Yd A60
    clear A60
    by_cases c7 : t294 = true
    ·subst c7
     have H1 : (some x8_1) = some r := by rw [if_pos rfl] at H;exact H
     clear H
     have H := H1
     clear H1
     obtain rfl := Option.some.inj H
     have p293 : 0 ≤ (x8_1 : Int) := Y9
     have q293 : x8_1 < (l0.length : Int) := Y9
     obtain ⟨ad293,e293,hx293_0,hx293_1,hx293_2,hx293_3,hx293_4,hx293_5⟩ := at_T26 HR0.out x8_1 p293 q293
     cases e293
     replace hx293_0 := Y10 HB.out hx293_0
     replace hx293_1 := Y10 HB.out hx293_1
     replace hx293_2 := Y10 HB.out hx293_2
     replace hx293_3 := Y10 HB.out hx293_3
     replace hx293_4 := Y10 HB.out hx293_4
     replace hx293_5 := Y10 HB.out hx293_5
     replace p293 := eq_true p293
     replace q293 := eq_true q293
     go_wp2_with (first | (go_at_call 28;(with_reducible refine (override_Expire_1_.calls ((rd_T26 l0 x8_1).f0) ((rd_T26 l0 x8_1).f1) ((rd_T26 l0 x8_1).f2) ((rd_T26 l0 x8_1).f3.f0) ((rd_T26 l0 x8_1).f3.f1) ((rd_T26 l0 x8_1).f4) B1_0_ a1_0 true _ ?side1 A6.out).mono ?_);(case side1 => exact (Y6 BK292.out));rintro e w8 ⟨rfl,hb⟩;have n0_ := Yd (blk_below (g := B1_0_) (o := .cells #[.int .i64 a1_0] 3 (0,0)) (Y6 BK292.out) hb);have n1_ := Yd (below_step (by first | exact Y4 HB.out GE292.out | exact Y3 HB.out) hb);clear BK292;clear HB;have BK292 := n0_;have HB := n1_;clear n0_ n1_;(try clear hb);(try clear hb2);(try clear hk);(try clear hi)))
     go_ret
     exact ⟨by first | rfl | (simp [errW_none,errW_some] <;> rfl) | (simp [*,errW_none,errW_some] <;> rfl),by repeat (first | (with_reducible first | exact HB.out | apply below_alloc | apply Y15 | apply below_drew1 | refine below_set ?_ GE292.out) | exact HB.out)⟩
    ·replace c7 := Bool.eq_false_iff.mpr c7
     subst c7
     have H1 : (api_Hold__c28_.l0 k1 l0 (l0.length : Int) (wrap64 (x8_1 + 1)) a1_0) = some r := by rw [if_neg (show ¬ (false = true) by decide)] at H;exact H
     clear H
     have H := H1
     clear H1
     have H' := Yd H
     clear H
     have p293 : 0 ≤ (x8_1 : Int) := Y9
     have q293 : x8_1 < (l0.length : Int) := Y9
     obtain ⟨ad293,e293,hx293_0,hx293_1,hx293_2,hx293_3,hx293_4,hx293_5⟩ := at_T26 HR0.out x8_1 p293 q293
     cases e293
     replace hx293_0 := Y10 HB.out hx293_0
     replace hx293_1 := Y10 HB.out hx293_1
     replace hx293_2 := Y10 HB.out hx293_2
     replace hx293_3 := Y10 HB.out hx293_3
     replace hx293_4 := Y10 HB.out hx293_4
     replace hx293_5 := Y10 HB.out hx293_5
     replace p293 := eq_true p293
     replace q293 := eq_true q293
     go_wp2_with (first | (go_at_call 28;(with_reducible refine (override_Expire_1_.calls ((rd_T26 l0 x8_1).f0) ((rd_T26 l0 x8_1).f1) ((rd_T26 l0 x8_1).f2) ((rd_T26 l0 x8_1).f3.f0) ((rd_T26 l0 x8_1).f3.f1) ((rd_T26 l0 x8_1).f4) B1_0_ a1_0 false _ ?side1 A6.out).mono ?_);(case side1 => exact (Y6 BK292.out));rintro e w9 ⟨rfl,hb⟩;have n0_ := Yd (blk_below (g := B1_0_) (o := .cells #[.int .i64 a1_0] 3 (0,0)) (Y6 BK292.out) hb);have n1_ := Yd (below_step (by first | exact Y4 HB.out GE292.out | exact Y3 HB.out) hb);clear BK292;clear HB;have BK292 := n0_;have HB := n1_;clear n0_ n1_;(try clear hb);(try clear hb2);(try clear hk);(try clear hi)))
     go_roundg k1
     case measure => have := HK1.out;omega
     case rel => exact ⟨(wrap64 (x8_1 + 1)),Y12,H',⟨by have := HK1.out;omega⟩,⟨Y6 BK292.out⟩,⟨by repeat (first | (with_reducible first | exact HB.out | apply below_alloc | apply Y15 | apply below_drew1 | refine below_set ?_ GE292.out) | exact HB.out)⟩⟩
   ·rw [if_neg c3] at H
    have c3b0 : decide (x8_1 < (l0.length : Int)) = false := decide_eq_false c3
    clear c3
    obtain rfl := Option.some.inj H
    go_wp2
    go_ret
    exact ⟨by first | rfl | (simp [errW_none,errW_some] <;> rfl) | (simp [*,errW_none,errW_some] <;> rfl),by repeat (first | (with_reducible first | exact HB.out | apply below_alloc | apply Y15 | apply below_drew1 | refine below_set ?_ GE292.out) | exact HB.out)⟩
def api_Hold__c28.l0 : Nat → List (S26) → Int → Int → Int → Option ((List (S26)))
 | 0,_,_,_,_ => none
 | k + 1,x0,x5,x6,x296000 => if x6 < (x0.length : Int) then (if 0 ≤ x6 then ((override_Expire_1_.f ((rd_T26 x0 x6).f0) ((rd_T26 x0 x6).f1) ((rd_T26 x0 x6).f2) ((rd_T26 x0 x6).f3.f0) ((rd_T26 x0 x6).f3.f1) ((rd_T26 x0 x6).f4) x296000).bind fun t307 => (if t307 = true then (api_Hold__c28.l0 k x0 x5 (wrap64 (x6 + 1)) x296000) else (if 0 ≤ x5 then (if x5 < (x0.length : Int) then (api_Hold__c28.l0 k (x0.set (x5 : Int).toNat (⟨(rd_T26 x0 x6).f0,(rd_T26 x0 x6).f1,(rd_T26 x0 x6).f2,(⟨(rd_T26 x0 x6).f3.f0,(rd_T26 x0 x6).f3.f1⟩ : S24),(rd_T26 x0 x6).f4⟩ : S26)) (wrap64 (x5 + 1)) (wrap64 (x6 + 1)) x296000) else (none)) else (none)))) else (none)) else (if 0 ≤ x5 then (if x5 ≤ (x0.length : Int) then (some ((x0.take (x5 : Int).toNat ++ List.replicate (x0.length - (x5 : Int).toNat) z26).take (x5 : Int).toNat)) else (none)) else (none))
def api_Hold__c28.f (k : Nat) (l0 : List (S26)) (a1_0 : Int) : Option ((List (S26))) := (api_Hold__c28_.f k l0 a1_0).bind fun t296 => (if t296 = (-1) then (some l0) else (api_Hold__c28.l0 k l0 t296 (wrap64 (t296 + 1)) a1_0))
theorem api_Hold__c28.mono_l : ∀ k,(∀ y0 y1 y2 y3,LeO (api_Hold__c28.l0 k y0 y1 y2 y3) (api_Hold__c28.l0 (k + 1) y0 y1 y2 y3))
 | 0 => fun _ _ _ _ r h => by simp [api_Hold__c28.l0] at h
 | k + 1 => by
  have ih0 := api_Hold__c28.mono_l k
  ·intro y0 y1 y2 y3
   unfold api_Hold__c28.l0
   repeat' first
   | (with_reducible exact ih0 _ _ _ _)
   | (with_reducible exact api_Hold__c28_.mono _ _ _)
   | (with_reducible exact LeO.refl _)
   | (with_reducible exact LeO.none _)
   | (with_reducible refine LeO.ite ?_ ?_)
   | (with_reducible refine LeO.bind ?_ (fun _ => ?_))
   | exact ih0 _ _ _ _
   | exact api_Hold__c28_.mono _ _ _
   | exact LeO.none _
   | refine LeO.ite ?_ ?_
   | refine LeO.bind ?_ (fun _ => ?_)
theorem api_Hold__c28.mono : ∀ a0 a1 k,LeO (api_Hold__c28.f k a0 a1) (api_Hold__c28.f (k + 1) a0 a1) := by
 intro a0 a1 k
 have ih0 := api_Hold__c28.mono_l k
 unfold api_Hold__c28.f
 repeat' first
   | (with_reducible exact ih0 _ _ _ _)
   | (with_reducible exact api_Hold__c28_.mono _ _ _)
   | (with_reducible exact LeO.refl _)
   | (with_reducible exact LeO.none _)
   | (with_reducible refine LeO.ite ?_ ?_)
   | (with_reducible refine LeO.bind ?_ (fun _ => ?_))
   | exact ih0 _ _ _ _
   | exact api_Hold__c28_.mono _ _ _
   | exact LeO.none _
   | refine LeO.ite ?_ ?_
   | refine LeO.bind ?_ (fun _ => ?_)
set_option maxHeartbeats 100000000 in
set_option maxRecDepth 100000 in
theorem api_Hold__c28.calls (k : Nat) (P0_ : Nat → Prop) (u9000_ : Value) (l0 : List (S26)) (B1_0_ : Nat) (a1_0 : Int) (r : List (S26)) (w0 w : World) (hB : Below w0.heap.size w0 w) (ho0 : Kd.R k26 26 w w0.heap.size P0_ u9000_ l0) (hx1_0_ : w.heap[B1_0_]? = some (.cells #[.int .i64 a1_0] 3 (0,0))) (hn1_0_ : ¬ P0_ B1_0_) (h : api_Hold__c28.f k l0 a1_0 = some r) :
  Calls Try.prog 21 #[u9000_,.func (.func 28) #[] #[.pointer (some ⟨B1_0_,0,none⟩)]] w fun e w' => ∃ v0_ : Value,e = .returned (v0_) ∧ Kd.R k26 26 w' w0.heap.size (fun k_ => (P0_ k_ ∨ w.heap.size ≤ k_)) v0_ r ∧ Below w0.heap.size w0 w' ∧ Kept w w' (fun k_ => P0_ k_) := by
 have hu26 := Try.underlying26
 have HO0 := Yd (show Kd.R k26 26 w w0.heap.size (fun k_ => (P0_ k_ ∨ w.heap.size ≤ k_) ∧ k_ ≠ B1_0_) u9000_ l0 from Kd.R_mono ho0 (fun k_ hk => ⟨(.inl hk),fun e_ => hn1_0_ (e_ ▸ hk)⟩))
 have BK295 := Yd hx1_0_
 clear hx1_0_
 have HK := Yd (Kept.refl w (fun k_ => P0_ k_))
 have HW0 := Yd hB.size
 have HB := Yd hB
 clear hB
 have H : ((api_Hold__c28_.f k l0 a1_0).bind fun t296 => (if t296 = (-1) then (some l0) else (api_Hold__c28.l0 k l0 t296 (wrap64 (t296 + 1)) a1_0))) = some r := h
 clear h
 replace H := Option.bind_eq_some_iff.mp H
 obtain ⟨t296,A30,H⟩ := H
 replace H : (if t296 = (-1) then (some l0) else (api_Hold__c28.l0 k l0 t296 (wrap64 (t296 + 1)) a1_0)) = some r := H
 have A3 := Yd A30
 clear A30
 by_cases c4 : t296 = (-1)
 ·rw [if_pos c4] at H
  have c4b0 : (t296 == (-1)) = true := beq_iff_eq.mpr c4
  have c4b1 : (t296 != (-1)) = false := bne_eq_false_iff_eq.mpr c4
  clear c4
  obtain rfl := Option.some.inj H
  obtain ⟨Ao5,co5,eo5⟩ := Kd.R_slice HO0.out
  subst eo5
  go_enter Try.func21,Try.ntmps21
  go_wp2_with (first | ((with_reducible refine gate_callee (f := 39) rfl ?_);refine goesL_ (some 10) rfl rfl Try.func39 (by kernel_rfl) rfl #[.slice Ao5 l0.length co5,.func (.func 28) #[] #[.pointer (some ⟨B1_0_,0,none⟩)]] rfl Y8 ?_;(with_reducible refine (api_Hold__c28_.calls k _ _ l0 B1_0_ a1_0 t296 _ ?side1 ?side2 ?side3 A3.out).mono ?_);(case side1 => repeat (first | exact (Kd.R_reads' HO0.out).2.2 | (with_reducible refine Kd.C_alloc ?_ _) | (with_reducible refine Kd.C_drewN ?_ _) | (with_reducible refine Kd.C_drew ?_)));(case side2 => exact (Kd.R_reads' HO0.out).2.1);(case side3 => exact (Y6 BK295.out));rintro e w6 ⟨rfl,hb⟩;refine ⟨_,rfl,?_⟩;have n0_ := Yd (Kd.R_below (Y5 HO0.out) hb);have n1_ := Yd (blk_below (g := B1_0_) (o := .cells #[.int .i64 a1_0] 3 (0,0)) (Y6 BK295.out) hb);have n2_ := Yd (Kept.below (S := (fun k_ => P0_ k_)) (by repeat (first | (with_reducible first | exact HK.out | apply Kept.alloc | apply Kept.drewN | apply Kept.drew | refine Kept.setCell ?_ (.inr GW295.out) _) | exact HK.out)) hb);have n3_ := Yd (below_step (by first | exact Y4 HB.out GE295.out | exact Y3 HB.out) hb);clear HO0;clear BK295;clear HK;clear HB;have HO0 := n0_;have BK295 := n1_;have HK := n2_;have HB := n3_;clear n0_ n1_ n2_ n3_;(try clear hb);(try clear hb2);(try clear hk);(try clear hi)))
  go_ret
  exact ⟨_,by first | rfl | (simp [errW_none,errW_some] <;> rfl) | (simp [*,errW_none,errW_some] <;> rfl),by (with_reducible repeat (first | apply Kd.R_alloc | apply Kd.R_drewN | apply Kd.R_drew));exact Kd.R_mono HO0.out (fun _ hk => hk.1),by repeat (first | (with_reducible first | exact HB.out | apply below_alloc | apply Y15 | apply below_drew1 | refine below_set ?_ GE295.out) | exact HB.out),by repeat (first | (with_reducible first | exact HK.out | apply Kept.alloc | apply Kept.drewN | apply Kept.drew | refine Kept.setCell ?_ (.inr GW295.out) _) | exact HK.out)⟩
 ·rw [if_neg c4] at H
  have c4b0 : (t296 == (-1)) = false := beq_eq_false_iff_ne.mpr c4
  have c4b1 : (t296 != (-1)) = true := bne_iff_ne.mpr c4
  have H' := Yd H
  clear H
  obtain ⟨Ao7,co7,eo7⟩ := Kd.R_slice HO0.out
  subst eo7
  go_enter Try.func21,Try.ntmps21
  go_wp2_with (first | ((with_reducible refine gate_callee (f := 39) rfl ?_);refine goesL_ (some 10) rfl rfl Try.func39 (by kernel_rfl) rfl #[.slice Ao7 l0.length co7,.func (.func 28) #[] #[.pointer (some ⟨B1_0_,0,none⟩)]] rfl Y8 ?_;(with_reducible refine (api_Hold__c28_.calls k _ _ l0 B1_0_ a1_0 t296 _ ?side1 ?side2 ?side3 A3.out).mono ?_);(case side1 => repeat (first | exact (Kd.R_reads' HO0.out).2.2 | (with_reducible refine Kd.C_alloc ?_ _) | (with_reducible refine Kd.C_drewN ?_ _) | (with_reducible refine Kd.C_drew ?_)));(case side2 => exact (Kd.R_reads' HO0.out).2.1);(case side3 => exact (Y6 BK295.out));rintro e w8 ⟨rfl,hb⟩;refine ⟨_,rfl,?_⟩;have n0_ := Yd (Kd.R_below (Y5 HO0.out) hb);have n1_ := Yd (blk_below (g := B1_0_) (o := .cells #[.int .i64 a1_0] 3 (0,0)) (Y6 BK295.out) hb);have n2_ := Yd (Kept.below (S := (fun k_ => P0_ k_)) (by repeat (first | (with_reducible first | exact HK.out | apply Kept.alloc | apply Kept.drewN | apply Kept.drew | refine Kept.setCell ?_ (.inr GW295.out) _) | exact HK.out)) hb);have n3_ := Yd (below_step (by first | exact Y4 HB.out GE295.out | exact Y3 HB.out) hb);clear HO0;clear BK295;clear HK;clear HB;have HO0 := n0_;have BK295 := n1_;have HK := n2_;have HB := n3_;clear n0_ n1_ n2_ n3_;(try clear hb);(try clear hb2);(try clear hk);(try clear hi)))
  go_loopg [5,6] k (fun kq v5 v6 w' => ∃ (x0_1 : List (S26)) (x5_1 : Int) (x6_1 : Int),v5 = .int .i64 x5_1 ∧ v6 = .int .i64 x6_1 ∧ Aside0 (api_Hold__c28.l0 kq x0_1 x5_1 x6_1 a1_0 = some r) ∧ Aside0 (kq ≤ k) ∧ Aside0 (Kd.R k26 26 w' w0.heap.size (fun k_ => (P0_ k_ ∨ w.heap.size ≤ k_)) (.slice Ao7 l0.length co7) x0_1) ∧ Aside0 (w'.heap[B1_0_]? = some (.cells #[.int .i64 a1_0] 3 (0,0))) ∧ Aside0 (Kept w w' (fun k_ => P0_ k_)) ∧ Aside0 (Below w0.heap.size w0 w'))
  case atStart => exact ⟨(l0),(t296),(wrap64 (t296 + 1)),Y12,Y12,H',⟨Nat.le_refl _⟩,⟨by (with_reducible repeat (first | apply Kd.R_alloc | apply Kd.R_drewN | apply Kd.R_drew));exact Kd.R_mono HO0.out (fun _ hk => hk.1)⟩,⟨Y6 BK295.out⟩,⟨by repeat (first | (with_reducible first | exact HK.out | apply Kept.alloc | apply Kept.drewN | apply Kept.drew | refine Kept.setCell ?_ (.inr GW295.out) _) | exact HK.out)⟩,⟨by repeat (first | (with_reducible first | exact HB.out | apply below_alloc | apply Y15 | apply below_drew1 | refine below_set ?_ GE295.out) | exact HB.out)⟩⟩
  case round =>
   clear H'
   try clear hx1
   try clear c2
   try clear p2
   try clear c3
   try clear c4
   try clear c4b0
   try clear c4b1
   try clear p6
   obtain ⟨x0_1,x5_1,x6_1,rfl,rfl,HA,HK1,HO_0,BK295,HK,HB⟩ := hrel
   have hl0_1 := (Kd.R_reads' HO_0.out).1
   rw [hl0_1] at HO_0
   (try simp only [hl0_1])
   (try simp only [hl0_1] at BK295)
   cases gk with
   | zero => exact absurd HA.out (by simp [api_Hold__c28.l0])
   | succ k1 =>
    have H := HA.out
    clear HA
    simp only [api_Hold__c28.l0] at H
    by_cases c9 : x6_1 < (x0_1.length : Int)
    ·rw [if_pos c9] at H
     have c9b0 : decide (x6_1 < (x0_1.length : Int)) = true := decide_eq_true c9
     (try simp only [hl0_1] at c9b0)
     clear c9
     by_cases c10 : 0 ≤ x6_1
     case neg => rw [if_neg c10] at H;exact absurd H (by simp)
     rw [if_pos c10] at H
     have c10b0 : decide (0 ≤ x6_1) = true := decide_eq_true c10
     clear c10
     replace H := Option.bind_eq_some_iff.mp H
     obtain ⟨t307,A110,H⟩ := H
     replace H : (if t307 = true then (api_Hold__c28.l0 k1 x0_1 x5_1 (wrap64 (x6_1 + 1)) a1_0) else (if 0 ≤ x5_1 then (if x5_1 < (x0_1.length : Int) then (api_Hold__c28.l0 k1 (x0_1.set (x5_1 : Int).toNat (⟨(rd_T26 x0_1 x6_1).f0,(rd_T26 x0_1 x6_1).f1,(rd_T26 x0_1 x6_1).f2,(⟨(rd_T26 x0_1 x6_1).f3.f0,(rd_T26 x0_1 x6_1).f3.f1⟩ : S24),(rd_T26 x0_1 x6_1).f4⟩ : S26)) (wrap64 (x5_1 + 1)) (wrap64 (x6_1 + 1)) a1_0) else (none)) else (none))) = some r := H
     have A11 := Yd A110
     clear A110
     by_cases c12 : t307 = true
     ·subst c12
      have H1 : (api_Hold__c28.l0 k1 x0_1 x5_1 (wrap64 (x6_1 + 1)) a1_0) = some r := by rw [if_pos rfl] at H;exact H
      clear H
      have H := H1
      clear H1
      have H' := Yd H
      clear H
      have p305 : 0 ≤ (x6_1 : Int) := Y9
      have q305 : x6_1 < (x0_1.length : Int) := Y9
      obtain ⟨ad305,e305,hx305_0,hx305_1,hx305_2,hx305_3,hx305_4,hx305_5⟩ := at_T26 (Kd.R_reads' HO_0.out).2.2 x6_1 p305 q305
      cases e305
      replace p305 := eq_true p305
      replace q305 := eq_true q305
      go_wp2_with (first | ((with_reducible refine gate_dst (N := 7) rfl ?_);refine box_event ?hg (N := 7) ?hd (cs := #[.string (⟨#[]⟩ : ByteArray),.int .i64 0,.int .i64 0,.int .i64 0,.int .i64 0,.int .i64 0]) (t := 26) ?hr ?_;(case hd => rfl);(case hg => rfl);(case hr => first | (go_simp;done) | (go_simp;rfl));intro gb306 hg w13 hbox hb;have n0_ := Yd (Kd.R_below (Kd.R_elderB (Y5 HO_0.out) gb306 (Nat.le_of_eq hg.symm)) hb);have n1_ := Yd (blk_below (g := B1_0_) (o := .cells #[.int .i64 a1_0] 3 (0,0)) (Y6 BK295.out) hb);have n2_ := Yd (Kept.below (S := (fun k_ => P0_ k_)) (by repeat (first | (with_reducible first | exact HK.out | apply Kept.alloc | apply Kept.drewN | apply Kept.drew | refine Kept.setCell ?_ (.inr GW295.out) _) | exact HK.out)) hb);have n3_ := Yd (below_step (by first | exact Y4 HB.out GE295.out | exact Y3 HB.out) hb);have n4_ := Yd (hbox);have n5_ := Yd ((by rw [hg];exact (by first | exact HK.out.1 | exact (show Kept w _ (fun k_ => P0_ k_) from by repeat (first | (with_reducible first | exact HK.out | apply Kept.alloc | apply Kept.drewN | apply Kept.drew | refine Kept.setCell ?_ (.inr GW295.out) _) | exact HK.out)).1) : w.heap.size ≤ gb306));have n6_ := Yd ((by rw [hg];exact (below_size (by first | exact Y4 HB.out GE295.out | exact Y3 HB.out)) : w0.heap.size ≤ gb306));have n7_ := Yd ((by rw [hg];exact Nat.ne_of_lt (blk_lt (g := B1_0_) (o := .cells #[.int .i64 a1_0] 3 (0,0)) (Y6 BK295.out)) : B1_0_ ≠ gb306));have n8_ := Yd ((by rw [hg];exact Nat.ne_of_gt (blk_lt (g := B1_0_) (o := .cells #[.int .i64 a1_0] 3 (0,0)) (Y6 BK295.out)) : gb306 ≠ B1_0_));clear HO_0;clear BK295;clear HK;clear HB;have HO_0 := n0_;have BK295 := n1_;have HK := n2_;have HB := n3_;have BK306 := n4_;have GW306 := n5_;have GE306 := n6_;have NB295_306 := n7_;have NB306_295 := n8_;clear n0_ n1_ n2_ n3_ n4_ n5_ n6_ n7_ n8_;clear hb hbox hg;have hnb14 := NB306_295.out;have hnc14 := NB295_306.out;have hcz15_0 : w13.cell? ⟨gb306,0,none⟩ = some (.string (⟨#[]⟩ : ByteArray)) := (blk_cell BK306.out 0).trans rfl;have hcz15_1 : w13.cell? ⟨gb306,1,none⟩ = some (.int .i64 0) := (blk_cell BK306.out 1).trans rfl;have hcz15_2 : w13.cell? ⟨gb306,2,none⟩ = some (.int .i64 0) := (blk_cell BK306.out 2).trans rfl;have hcz15_3 : w13.cell? ⟨gb306,3,none⟩ = some (.int .i64 0) := (blk_cell BK306.out 3).trans rfl;have hcz15_4 : w13.cell? ⟨gb306,4,none⟩ = some (.int .i64 0) := (blk_cell BK306.out 4).trans rfl;have hcz15_5 : w13.cell? ⟨gb306,5,none⟩ = some (.int .i64 0) := (blk_cell BK306.out 5).trans rfl;have hfz15_0 := blk_frozen BK306.out 0;have hfz15_1 := blk_frozen BK306.out 1;have hfz15_2 := blk_frozen BK306.out 2;have hfz15_3 := blk_frozen BK306.out 3;have hfz15_4 := blk_frozen BK306.out 4;have hfz15_5 := blk_frozen BK306.out 5) | (go_at_call 28;(with_reducible refine (override_Expire_1_.calls ((rd_T26 x0_1 x6_1).f0) ((rd_T26 x0_1 x6_1).f1) ((rd_T26 x0_1 x6_1).f2) ((rd_T26 x0_1 x6_1).f3.f0) ((rd_T26 x0_1 x6_1).f3.f1) ((rd_T26 x0_1 x6_1).f4) B1_0_ a1_0 true _ ?side1 A11.out).mono ?_);(case side1 => exact (by (with_reducible repeat (first | refine blk_drewN ?_ _ | refine blk_drew ?_ | refine blk_alloc ?_ _));refine blk_far ?_ NB295_306.out _;(with_reducible repeat (first | refine blk_drewN ?_ _ | refine blk_drew ?_ | refine blk_alloc ?_ _));refine blk_far ?_ NB295_306.out _;(with_reducible repeat (first | refine blk_drewN ?_ _ | refine blk_drew ?_ | refine blk_alloc ?_ _));refine blk_far ?_ NB295_306.out _;(with_reducible repeat (first | refine blk_drewN ?_ _ | refine blk_drew ?_ | refine blk_alloc ?_ _));refine blk_far ?_ NB295_306.out _;(with_reducible repeat (first | refine blk_drewN ?_ _ | refine blk_drew ?_ | refine blk_alloc ?_ _));refine blk_far ?_ NB295_306.out _;(with_reducible repeat (first | refine blk_drewN ?_ _ | refine blk_drew ?_ | refine blk_alloc ?_ _));refine blk_far ?_ NB295_306.out _;(with_reducible repeat (first | refine blk_drewN ?_ _ | refine blk_drew ?_ | refine blk_alloc ?_ _));exact BK295.out));rintro e w16 ⟨rfl,hb⟩;have n0_ := Yd (Kd.R_below (by (with_reducible repeat (first | apply Kd.R_alloc | apply Kd.R_drewN | apply Kd.R_drew));exact (Kd.R_mono (Kd.R_far (p := ⟨gb306,5,none⟩) (Kd.R_far (p := ⟨gb306,4,none⟩) (Kd.R_far (p := ⟨gb306,3,none⟩) (Kd.R_far (p := ⟨gb306,2,none⟩) (Kd.R_far (p := ⟨gb306,1,none⟩) (Kd.R_far (p := ⟨gb306,0,none⟩) (Kd.R_mono HO_0.out (fun k_ hk => (⟨hk,hk.2⟩ : _ ∧ k_ ≠ gb306))) (fun _ hk => hk.2) (.string ((rd_T26 x0_1 x6_1).f0))) (fun _ hk => hk.2) (.int .i64 ((rd_T26 x0_1 x6_1).f1))) (fun _ hk => hk.2) (.int .i64 ((rd_T26 x0_1 x6_1).f2))) (fun _ hk => hk.2) (.int .i64 ((rd_T26 x0_1 x6_1).f3.f0))) (fun _ hk => hk.2) (.int .i64 ((rd_T26 x0_1 x6_1).f3.f1))) (fun _ hk => hk.2) (.int .i64 ((rd_T26 x0_1 x6_1).f4))) (fun _ h_ => h_.1))) hb);have n1_ := Yd (blk_below (g := B1_0_) (o := .cells #[.int .i64 a1_0] 3 (0,0)) (by (with_reducible repeat (first | refine blk_drewN ?_ _ | refine blk_drew ?_ | refine blk_alloc ?_ _));refine blk_far ?_ NB295_306.out _;(with_reducible repeat (first | refine blk_drewN ?_ _ | refine blk_drew ?_ | refine blk_alloc ?_ _));refine blk_far ?_ NB295_306.out _;(with_reducible repeat (first | refine blk_drewN ?_ _ | refine blk_drew ?_ | refine blk_alloc ?_ _));refine blk_far ?_ NB295_306.out _;(with_reducible repeat (first | refine blk_drewN ?_ _ | refine blk_drew ?_ | refine blk_alloc ?_ _));refine blk_far ?_ NB295_306.out _;(with_reducible repeat (first | refine blk_drewN ?_ _ | refine blk_drew ?_ | refine blk_alloc ?_ _));refine blk_far ?_ NB295_306.out _;(with_reducible repeat (first | refine blk_drewN ?_ _ | refine blk_drew ?_ | refine blk_alloc ?_ _));refine blk_far ?_ NB295_306.out _;(with_reducible repeat (first | refine blk_drewN ?_ _ | refine blk_drew ?_ | refine blk_alloc ?_ _));exact BK295.out) hb);have n2_ := Yd (blk_below (g := gb306) (o := .cells #[.string ((rd_T26 x0_1 x6_1).f0),.int .i64 ((rd_T26 x0_1 x6_1).f1),.int .i64 ((rd_T26 x0_1 x6_1).f2),.int .i64 ((rd_T26 x0_1 x6_1).f3.f0),.int .i64 ((rd_T26 x0_1 x6_1).f3.f1),.int .i64 ((rd_T26 x0_1 x6_1).f4)] 26 (0,0)) (by (with_reducible repeat (first | refine blk_drewN ?_ _ | refine blk_drew ?_ | refine blk_alloc ?_ _));refine blk_put (cs := #[.string ((rd_T26 x0_1 x6_1).f0),.int .i64 ((rd_T26 x0_1 x6_1).f1),.int .i64 ((rd_T26 x0_1 x6_1).f2),.int .i64 ((rd_T26 x0_1 x6_1).f3.f0),.int .i64 ((rd_T26 x0_1 x6_1).f3.f1),.int .i64 0]) ?_ 5 _ rfl;(with_reducible repeat (first | refine blk_drewN ?_ _ | refine blk_drew ?_ | refine blk_alloc ?_ _));refine blk_put (cs := #[.string ((rd_T26 x0_1 x6_1).f0),.int .i64 ((rd_T26 x0_1 x6_1).f1),.int .i64 ((rd_T26 x0_1 x6_1).f2),.int .i64 ((rd_T26 x0_1 x6_1).f3.f0),.int .i64 0,.int .i64 0]) ?_ 4 _ rfl;(with_reducible repeat (first | refine blk_drewN ?_ _ | refine blk_drew ?_ | refine blk_alloc ?_ _));refine blk_put (cs := #[.string ((rd_T26 x0_1 x6_1).f0),.int .i64 ((rd_T26 x0_1 x6_1).f1),.int .i64 ((rd_T26 x0_1 x6_1).f2),.int .i64 0,.int .i64 0,.int .i64 0]) ?_ 3 _ rfl;(with_reducible repeat (first | refine blk_drewN ?_ _ | refine blk_drew ?_ | refine blk_alloc ?_ _));refine blk_put (cs := #[.string ((rd_T26 x0_1 x6_1).f0),.int .i64 ((rd_T26 x0_1 x6_1).f1),.int .i64 0,.int .i64 0,.int .i64 0,.int .i64 0]) ?_ 2 _ rfl;(with_reducible repeat (first | refine blk_drewN ?_ _ | refine blk_drew ?_ | refine blk_alloc ?_ _));refine blk_put (cs := #[.string ((rd_T26 x0_1 x6_1).f0),.int .i64 0,.int .i64 0,.int .i64 0,.int .i64 0,.int .i64 0]) ?_ 1 _ rfl;(with_reducible repeat (first | refine blk_drewN ?_ _ | refine blk_drew ?_ | refine blk_alloc ?_ _));refine blk_put (cs := #[.string (⟨#[]⟩ : ByteArray),.int .i64 0,.int .i64 0,.int .i64 0,.int .i64 0,.int .i64 0]) ?_ 0 _ rfl;(with_reducible repeat (first | refine blk_drewN ?_ _ | refine blk_drew ?_ | refine blk_alloc ?_ _));exact BK306.out) hb);have n3_ := Yd (Kept.below (S := (fun k_ => P0_ k_)) (by repeat (first | (with_reducible first | exact HK.out | apply Kept.alloc | apply Kept.drewN | apply Kept.drew | refine Kept.setCell ?_ (.inr GW295.out) _ | refine Kept.setCell ?_ (.inr GW306.out) _) | exact HK.out)) hb);have n4_ := Yd (below_step (by repeat (first | (with_reducible first | exact HB.out | apply below_alloc | apply Y15 | apply below_drew1 | refine below_set ?_ GE295.out | refine below_set ?_ GE306.out) | exact HB.out)) hb);clear HO_0;clear BK295;clear BK306;clear HK;clear HB;have HO_0 := n0_;have BK295 := n1_;have BK306 := n2_;have HK := n3_;have HB := n4_;clear n0_ n1_ n2_ n3_ n4_;(try clear hb);(try clear hb2);(try clear hk);(try clear hi)))
      (try simp only [← hl0_1])
      go_roundg k1
      case measure => have := HK1.out;omega
      case rel => exact ⟨(x0_1),(x5_1),(wrap64 (x6_1 + 1)),Y12,Y12,H',⟨by have := HK1.out;omega⟩,⟨by (try simp only [hl0_1]);(with_reducible repeat (first | apply Kd.R_alloc | apply Kd.R_drewN | apply Kd.R_drew));exact Kd.R_mono HO_0.out (fun _ hk => hk.1)⟩,⟨by (try simp only [hl0_1]);(with_reducible repeat (first | refine blk_drewN ?_ _ | refine blk_drew ?_ | refine blk_alloc ?_ _));exact BK295.out⟩,⟨by repeat (first | (with_reducible first | exact HK.out | apply Kept.alloc | apply Kept.drewN | apply Kept.drew | refine Kept.setCell ?_ (.inr GW295.out) _ | refine Kept.setCell ?_ (.inr GW306.out) _) | exact HK.out)⟩,⟨by repeat (first | (with_reducible first | exact HB.out | apply below_alloc | apply Y15 | apply below_drew1 | refine below_set ?_ GE295.out | refine below_set ?_ GE306.out) | exact HB.out)⟩⟩
     ·replace c12 := Bool.eq_false_iff.mpr c12
      subst c12
      have H1 : (if 0 ≤ x5_1 then (if x5_1 < (x0_1.length : Int) then (api_Hold__c28.l0 k1 (x0_1.set (x5_1 : Int).toNat (⟨(rd_T26 x0_1 x6_1).f0,(rd_T26 x0_1 x6_1).f1,(rd_T26 x0_1 x6_1).f2,(⟨(rd_T26 x0_1 x6_1).f3.f0,(rd_T26 x0_1 x6_1).f3.f1⟩ : S24),(rd_T26 x0_1 x6_1).f4⟩ : S26)) (wrap64 (x5_1 + 1)) (wrap64 (x6_1 + 1)) a1_0) else (none)) else (none)) = some r := by rw [if_neg (show ¬ (false = true) by decide)] at H;exact H
      clear H
      have H := H1
      clear H1
      by_cases c17 : 0 ≤ x5_1
      case neg => rw [if_neg c17] at H;exact absurd H (by simp)
      rw [if_pos c17] at H
      have c17b0 : decide (0 ≤ x5_1) = true := decide_eq_true c17
      clear c17
      by_cases c18 : x5_1 < (x0_1.length : Int)
      case neg => rw [if_neg c18] at H;exact absurd H (by simp)
      rw [if_pos c18] at H
      have c18b0 : decide (x5_1 < (x0_1.length : Int)) = true := decide_eq_true c18
      (try simp only [hl0_1] at c18b0)
      clear c18
      obtain ⟨y308,hy308⟩ : ∃ y_ : List (S26),y_ = (x0_1.set (x5_1 : Int).toNat (⟨(rd_T26 x0_1 x6_1).f0,(rd_T26 x0_1 x6_1).f1,(rd_T26 x0_1 x6_1).f2,(⟨(rd_T26 x0_1 x6_1).f3.f0,(rd_T26 x0_1 x6_1).f3.f1⟩ : S24),(rd_T26 x0_1 x6_1).f4⟩ : S26)) := ⟨_,rfl⟩
      replace H : (api_Hold__c28.l0 k1 y308 (wrap64 (x5_1 + 1)) (wrap64 (x6_1 + 1)) a1_0) = some r := by first | (rw [hy308];with_reducible exact H) | (have H2_ := (Option.bind_some _ _).symm.trans H;rw [hy308];with_reducible exact H2_) | (have H2_ := (Option.bind_some _ _).symm.trans H;with_reducible exact H2_) | with_reducible exact H | (rw [hy308];exact H) | exact H
      have Ny308 := Yd hy308
      clear hy308
      have H' := Yd H
      clear H
      have p305 : 0 ≤ (x6_1 : Int) := Y9
      have q305 : x6_1 < (x0_1.length : Int) := Y9
      obtain ⟨ad305,e305,hx305_0,hx305_1,hx305_2,hx305_3,hx305_4,hx305_5⟩ := at_T26 (Kd.R_reads' HO_0.out).2.2 x6_1 p305 q305
      cases e305
      replace p305 := eq_true p305
      replace q305 := eq_true q305
      go_wp2_with (first | ((with_reducible refine gate_dst (N := 7) rfl ?_);refine box_event ?hg (N := 7) ?hd (cs := #[.string (⟨#[]⟩ : ByteArray),.int .i64 0,.int .i64 0,.int .i64 0,.int .i64 0,.int .i64 0]) (t := 26) ?hr ?_;(case hd => rfl);(case hg => rfl);(case hr => first | (go_simp;done) | (go_simp;rfl));intro gb306 hg w20 hbox hb;have n0_ := Yd (Kd.R_below (Kd.R_elderB (Y5 HO_0.out) gb306 (Nat.le_of_eq hg.symm)) hb);have n1_ := Yd (blk_below (g := B1_0_) (o := .cells #[.int .i64 a1_0] 3 (0,0)) (Y6 BK295.out) hb);have n2_ := Yd (Kept.below (S := (fun k_ => P0_ k_)) (by repeat (first | (with_reducible first | exact HK.out | apply Kept.alloc | apply Kept.drewN | apply Kept.drew | refine Kept.setCell ?_ (.inr GW295.out) _) | exact HK.out)) hb);have n3_ := Yd (below_step (by first | exact Y4 HB.out GE295.out | exact Y3 HB.out) hb);have n4_ := Yd (hbox);have n5_ := Yd ((by rw [hg];exact (by first | exact HK.out.1 | exact (show Kept w _ (fun k_ => P0_ k_) from by repeat (first | (with_reducible first | exact HK.out | apply Kept.alloc | apply Kept.drewN | apply Kept.drew | refine Kept.setCell ?_ (.inr GW295.out) _) | exact HK.out)).1) : w.heap.size ≤ gb306));have n6_ := Yd ((by rw [hg];exact (below_size (by first | exact Y4 HB.out GE295.out | exact Y3 HB.out)) : w0.heap.size ≤ gb306));have n7_ := Yd ((by rw [hg];exact Nat.ne_of_lt (blk_lt (g := B1_0_) (o := .cells #[.int .i64 a1_0] 3 (0,0)) (Y6 BK295.out)) : B1_0_ ≠ gb306));have n8_ := Yd ((by rw [hg];exact Nat.ne_of_gt (blk_lt (g := B1_0_) (o := .cells #[.int .i64 a1_0] 3 (0,0)) (Y6 BK295.out)) : gb306 ≠ B1_0_));clear HO_0;clear BK295;clear HK;clear HB;have HO_0 := n0_;have BK295 := n1_;have HK := n2_;have HB := n3_;have BK306 := n4_;have GW306 := n5_;have GE306 := n6_;have NB295_306 := n7_;have NB306_295 := n8_;clear n0_ n1_ n2_ n3_ n4_ n5_ n6_ n7_ n8_;clear hb hbox hg;have hnb21 := NB306_295.out;have hnc21 := NB295_306.out;have hcz22_0 : w20.cell? ⟨gb306,0,none⟩ = some (.string (⟨#[]⟩ : ByteArray)) := (blk_cell BK306.out 0).trans rfl;have hcz22_1 : w20.cell? ⟨gb306,1,none⟩ = some (.int .i64 0) := (blk_cell BK306.out 1).trans rfl;have hcz22_2 : w20.cell? ⟨gb306,2,none⟩ = some (.int .i64 0) := (blk_cell BK306.out 2).trans rfl;have hcz22_3 : w20.cell? ⟨gb306,3,none⟩ = some (.int .i64 0) := (blk_cell BK306.out 3).trans rfl;have hcz22_4 : w20.cell? ⟨gb306,4,none⟩ = some (.int .i64 0) := (blk_cell BK306.out 4).trans rfl;have hcz22_5 : w20.cell? ⟨gb306,5,none⟩ = some (.int .i64 0) := (blk_cell BK306.out 5).trans rfl;have hfz22_0 := blk_frozen BK306.out 0;have hfz22_1 := blk_frozen BK306.out 1;have hfz22_2 := blk_frozen BK306.out 2;have hfz22_3 := blk_frozen BK306.out 3;have hfz22_4 := blk_frozen BK306.out 4;have hfz22_5 := blk_frozen BK306.out 5) | (go_at_call 28;(with_reducible refine (override_Expire_1_.calls ((rd_T26 x0_1 x6_1).f0) ((rd_T26 x0_1 x6_1).f1) ((rd_T26 x0_1 x6_1).f2) ((rd_T26 x0_1 x6_1).f3.f0) ((rd_T26 x0_1 x6_1).f3.f1) ((rd_T26 x0_1 x6_1).f4) B1_0_ a1_0 false _ ?side1 A11.out).mono ?_);(case side1 => exact (by (with_reducible repeat (first | refine blk_drewN ?_ _ | refine blk_drew ?_ | refine blk_alloc ?_ _));refine blk_far ?_ NB295_306.out _;(with_reducible repeat (first | refine blk_drewN ?_ _ | refine blk_drew ?_ | refine blk_alloc ?_ _));refine blk_far ?_ NB295_306.out _;(with_reducible repeat (first | refine blk_drewN ?_ _ | refine blk_drew ?_ | refine blk_alloc ?_ _));refine blk_far ?_ NB295_306.out _;(with_reducible repeat (first | refine blk_drewN ?_ _ | refine blk_drew ?_ | refine blk_alloc ?_ _));refine blk_far ?_ NB295_306.out _;(with_reducible repeat (first | refine blk_drewN ?_ _ | refine blk_drew ?_ | refine blk_alloc ?_ _));refine blk_far ?_ NB295_306.out _;(with_reducible repeat (first | refine blk_drewN ?_ _ | refine blk_drew ?_ | refine blk_alloc ?_ _));refine blk_far ?_ NB295_306.out _;(with_reducible repeat (first | refine blk_drewN ?_ _ | refine blk_drew ?_ | refine blk_alloc ?_ _));exact BK295.out));rintro e w23 ⟨rfl,hb⟩;have n0_ := Yd (Kd.R_below (by (with_reducible repeat (first | apply Kd.R_alloc | apply Kd.R_drewN | apply Kd.R_drew));exact (Kd.R_mono (Kd.R_far (p := ⟨gb306,5,none⟩) (Kd.R_far (p := ⟨gb306,4,none⟩) (Kd.R_far (p := ⟨gb306,3,none⟩) (Kd.R_far (p := ⟨gb306,2,none⟩) (Kd.R_far (p := ⟨gb306,1,none⟩) (Kd.R_far (p := ⟨gb306,0,none⟩) (Kd.R_mono HO_0.out (fun k_ hk => (⟨hk,hk.2⟩ : _ ∧ k_ ≠ gb306))) (fun _ hk => hk.2) (.string ((rd_T26 x0_1 x6_1).f0))) (fun _ hk => hk.2) (.int .i64 ((rd_T26 x0_1 x6_1).f1))) (fun _ hk => hk.2) (.int .i64 ((rd_T26 x0_1 x6_1).f2))) (fun _ hk => hk.2) (.int .i64 ((rd_T26 x0_1 x6_1).f3.f0))) (fun _ hk => hk.2) (.int .i64 ((rd_T26 x0_1 x6_1).f3.f1))) (fun _ hk => hk.2) (.int .i64 ((rd_T26 x0_1 x6_1).f4))) (fun _ h_ => h_.1))) hb);have n1_ := Yd (blk_below (g := B1_0_) (o := .cells #[.int .i64 a1_0] 3 (0,0)) (by (with_reducible repeat (first | refine blk_drewN ?_ _ | refine blk_drew ?_ | refine blk_alloc ?_ _));refine blk_far ?_ NB295_306.out _;(with_reducible repeat (first | refine blk_drewN ?_ _ | refine blk_drew ?_ | refine blk_alloc ?_ _));refine blk_far ?_ NB295_306.out _;(with_reducible repeat (first | refine blk_drewN ?_ _ | refine blk_drew ?_ | refine blk_alloc ?_ _));refine blk_far ?_ NB295_306.out _;(with_reducible repeat (first | refine blk_drewN ?_ _ | refine blk_drew ?_ | refine blk_alloc ?_ _));refine blk_far ?_ NB295_306.out _;(with_reducible repeat (first | refine blk_drewN ?_ _ | refine blk_drew ?_ | refine blk_alloc ?_ _));refine blk_far ?_ NB295_306.out _;(with_reducible repeat (first | refine blk_drewN ?_ _ | refine blk_drew ?_ | refine blk_alloc ?_ _));refine blk_far ?_ NB295_306.out _;(with_reducible repeat (first | refine blk_drewN ?_ _ | refine blk_drew ?_ | refine blk_alloc ?_ _));exact BK295.out) hb);have n2_ := Yd (blk_below (g := gb306) (o := .cells #[.string ((rd_T26 x0_1 x6_1).f0),.int .i64 ((rd_T26 x0_1 x6_1).f1),.int .i64 ((rd_T26 x0_1 x6_1).f2),.int .i64 ((rd_T26 x0_1 x6_1).f3.f0),.int .i64 ((rd_T26 x0_1 x6_1).f3.f1),.int .i64 ((rd_T26 x0_1 x6_1).f4)] 26 (0,0)) (by (with_reducible repeat (first | refine blk_drewN ?_ _ | refine blk_drew ?_ | refine blk_alloc ?_ _));refine blk_put (cs := #[.string ((rd_T26 x0_1 x6_1).f0),.int .i64 ((rd_T26 x0_1 x6_1).f1),.int .i64 ((rd_T26 x0_1 x6_1).f2),.int .i64 ((rd_T26 x0_1 x6_1).f3.f0),.int .i64 ((rd_T26 x0_1 x6_1).f3.f1),.int .i64 0]) ?_ 5 _ rfl;(with_reducible repeat (first | refine blk_drewN ?_ _ | refine blk_drew ?_ | refine blk_alloc ?_ _));refine blk_put (cs := #[.string ((rd_T26 x0_1 x6_1).f0),.int .i64 ((rd_T26 x0_1 x6_1).f1),.int .i64 ((rd_T26 x0_1 x6_1).f2),.int .i64 ((rd_T26 x0_1 x6_1).f3.f0),.int .i64 0,.int .i64 0]) ?_ 4 _ rfl;(with_reducible repeat (first | refine blk_drewN ?_ _ | refine blk_drew ?_ | refine blk_alloc ?_ _));refine blk_put (cs := #[.string ((rd_T26 x0_1 x6_1).f0),.int .i64 ((rd_T26 x0_1 x6_1).f1),.int .i64 ((rd_T26 x0_1 x6_1).f2),.int .i64 0,.int .i64 0,.int .i64 0]) ?_ 3 _ rfl;(with_reducible repeat (first | refine blk_drewN ?_ _ | refine blk_drew ?_ | refine blk_alloc ?_ _));refine blk_put (cs := #[.string ((rd_T26 x0_1 x6_1).f0),.int .i64 ((rd_T26 x0_1 x6_1).f1),.int .i64 0,.int .i64 0,.int .i64 0,.int .i64 0]) ?_ 2 _ rfl;(with_reducible repeat (first | refine blk_drewN ?_ _ | refine blk_drew ?_ | refine blk_alloc ?_ _));refine blk_put (cs := #[.string ((rd_T26 x0_1 x6_1).f0),.int .i64 0,.int .i64 0,.int .i64 0,.int .i64 0,.int .i64 0]) ?_ 1 _ rfl;(with_reducible repeat (first | refine blk_drewN ?_ _ | refine blk_drew ?_ | refine blk_alloc ?_ _));refine blk_put (cs := #[.string (⟨#[]⟩ : ByteArray),.int .i64 0,.int .i64 0,.int .i64 0,.int .i64 0,.int .i64 0]) ?_ 0 _ rfl;(with_reducible repeat (first | refine blk_drewN ?_ _ | refine blk_drew ?_ | refine blk_alloc ?_ _));exact BK306.out) hb);have n3_ := Yd (Kept.below (S := (fun k_ => P0_ k_)) (by repeat (first | (with_reducible first | exact HK.out | apply Kept.alloc | apply Kept.drewN | apply Kept.drew | refine Kept.setCell ?_ (.inr GW295.out) _ | refine Kept.setCell ?_ (.inr GW306.out) _) | exact HK.out)) hb);have n4_ := Yd (below_step (by repeat (first | (with_reducible first | exact HB.out | apply below_alloc | apply Y15 | apply below_drew1 | refine below_set ?_ GE295.out | refine below_set ?_ GE306.out) | exact HB.out)) hb);clear HO_0;clear BK295;clear BK306;clear HK;clear HB;have HO_0 := n0_;have BK295 := n1_;have BK306 := n2_;have HK := n3_;have HB := n4_;clear n0_ n1_ n2_ n3_ n4_;(try clear hb);(try clear hb2);(try clear hk);(try clear hi);have hcz24_0 : w23.cell? ⟨gb306,0,none⟩ = some (.string ((rd_T26 x0_1 x6_1).f0)) := (blk_cell BK306.out 0).trans rfl;have hcz24_1 : w23.cell? ⟨gb306,1,none⟩ = some (.int .i64 ((rd_T26 x0_1 x6_1).f1)) := (blk_cell BK306.out 1).trans rfl;have hcz24_2 : w23.cell? ⟨gb306,2,none⟩ = some (.int .i64 ((rd_T26 x0_1 x6_1).f2)) := (blk_cell BK306.out 2).trans rfl;have hcz24_3 : w23.cell? ⟨gb306,3,none⟩ = some (.int .i64 ((rd_T26 x0_1 x6_1).f3.f0)) := (blk_cell BK306.out 3).trans rfl;have hcz24_4 : w23.cell? ⟨gb306,4,none⟩ = some (.int .i64 ((rd_T26 x0_1 x6_1).f3.f1)) := (blk_cell BK306.out 4).trans rfl;have hcz24_5 : w23.cell? ⟨gb306,5,none⟩ = some (.int .i64 ((rd_T26 x0_1 x6_1).f4)) := (blk_cell BK306.out 5).trans rfl;have hfz24_0 := blk_frozen BK306.out 0;have hfz24_1 := blk_frozen BK306.out 1;have hfz24_2 := blk_frozen BK306.out 2;have hfz24_3 := blk_frozen BK306.out 3;have hfz24_4 := blk_frozen BK306.out 4;have hfz24_5 := blk_frozen BK306.out 5;have p19 : 0 ≤ (x5_1 : Int) := Y9;have q19 : (x5_1 : Int) < ((x0_1.length : Int) : Int) := Y9;obtain ⟨go19,co19,eo19,gb19,gl19,cl19,HG19⟩ := Kd.R_form HO_0.out (by omega);(first | cases eo19 | (injection eo19 with ea_ en_ ec_;(first | subst ea_ | (injection ea_ with ea_;subst ea_));subst ec_;clear en_));have GB19 := Yd gb19;have GG19 := Yd HG19;clear gb19 gl19 HG19;have HMgo19 := Yd (show (P0_ go19 ∨ w.heap.size ≤ go19) from (HO_0.out.1 _ rfl).1);(first | simp only [add_plain] at hx305_0 | skip);(first | simp only [add_plain] at hx305_1 | skip);(first | simp only [add_plain] at hx305_2 | skip);(first | simp only [add_plain] at hx305_3 | skip);(first | simp only [add_plain] at hx305_4 | skip);(first | simp only [add_plain] at hx305_5 | skip);obtain ⟨ce19,hcl19,hM19,hcc19,hfr19⟩ := Kd.R_elem HO_0.out z26 (x5_1 : Int) p19 q19;obtain rfl := k26_openM hM19;have hx19_0 : w23.cell? ⟨go19,(x5_1 : Int).toNat * 6,none⟩ = some (.string ((rd_T26 x0_1 x5_1).f0)) := hcc19 0 _ rfl;have hx19_1 : w23.cell? ⟨go19,(x5_1 : Int).toNat * 6 + 1,none⟩ = some (.int .i64 ((rd_T26 x0_1 x5_1).f1)) := hcc19 1 _ rfl;have hx19_2 : w23.cell? ⟨go19,(x5_1 : Int).toNat * 6 + 2,none⟩ = some (.int .i64 ((rd_T26 x0_1 x5_1).f2)) := hcc19 2 _ rfl;have hx19_3 : w23.cell? ⟨go19,(x5_1 : Int).toNat * 6 + 3,none⟩ = some (.int .i64 ((rd_T26 x0_1 x5_1).f3.f0)) := hcc19 3 _ rfl;have hx19_4 : w23.cell? ⟨go19,(x5_1 : Int).toNat * 6 + 4,none⟩ = some (.int .i64 ((rd_T26 x0_1 x5_1).f3.f1)) := hcc19 4 _ rfl;have hx19_5 : w23.cell? ⟨go19,(x5_1 : Int).toNat * 6 + 5,none⟩ = some (.int .i64 ((rd_T26 x0_1 x5_1).f4)) := hcc19 5 _ rfl;have hf19_0 : w23.frozen? ⟨go19,(x5_1 : Int).toNat * 6,none⟩ = false := hfr19 0;have hf19_1 : w23.frozen? ⟨go19,(x5_1 : Int).toNat * 6 + 1,none⟩ = false := hfr19 1;have hf19_2 : w23.frozen? ⟨go19,(x5_1 : Int).toNat * 6 + 2,none⟩ = false := hfr19 2;have hf19_3 : w23.frozen? ⟨go19,(x5_1 : Int).toNat * 6 + 3,none⟩ = false := hfr19 3;have hf19_4 : w23.frozen? ⟨go19,(x5_1 : Int).toNat * 6 + 4,none⟩ = false := hfr19 4;have hf19_5 : w23.frozen? ⟨go19,(x5_1 : Int).toNat * 6 + 5,none⟩ = false := hfr19 5;clear hcl19 hcc19 hfr19 hM19;replace p19 := eq_true p19;replace q19 := eq_true q19;have HX25 := Yd (show Kd.R k26 26 w23 w0.heap.size (fun k_ => (P0_ k_ ∨ w.heap.size ≤ k_) ∧ k_ ≠ gb306) (.slice (some ⟨go19,0,none⟩) x0_1.length co7) x0_1 from (Y5 HO_0.out));obtain ⟨ce25,hcl25,hM25,hcc25,hfr25⟩ := Kd.R_elem HX25.out z26 (x5_1 : Int) (Y9) (by have h_ : (x5_1 : Int) < ((x0_1.length : Int) : Int) := Y9;first | exact h_ | (have e_ := (Kd.R_reads' HO_0.out).1;omega) | simpa using h_);obtain rfl := k26_openM hM25;have HP25 := Kd.R_seg HX25.out (x5_1 : Int) (Y9) (by have h_ : (x5_1 : Int) < ((x0_1.length : Int) : Int) := Y9;first | exact h_ | (have e_ := (Kd.R_reads' HO_0.out).1;omega) | simpa using h_) (seg := [.string ((rd_T26 x0_1 x6_1).f0),.int .i64 ((rd_T26 x0_1 x6_1).f1),.int .i64 ((rd_T26 x0_1 x6_1).f2),.int .i64 ((rd_T26 x0_1 x6_1).f3.f0),.int .i64 ((rd_T26 x0_1 x6_1).f3.f1),.int .i64 ((rd_T26 x0_1 x6_1).f4)]) (j := 0) hcl25 hcc25 (show 6 ≤ 6 from by decide) (x' := (⟨(rd_T26 x0_1 x6_1).f0,(rd_T26 x0_1 x6_1).f1,(rd_T26 x0_1 x6_1).f2,(⟨(rd_T26 x0_1 x6_1).f3.f0,(rd_T26 x0_1 x6_1).f3.f1⟩ : S24),(rd_T26 x0_1 x6_1).f4⟩ : S26)) (k26_mkM _ _ _ (⟨(rd_T26 x0_1 x6_1).f0,(rd_T26 x0_1 x6_1).f1,(rd_T26 x0_1 x6_1).f2,(⟨(rd_T26 x0_1 x6_1).f3.f0,(rd_T26 x0_1 x6_1).f3.f1⟩ : S24),(rd_T26 x0_1 x6_1).f4⟩ : S26) ) (fun _ hk => hk);have hx25_0 := hcc25 0 _ rfl;(try simp only [show (k26).sz = 6 from rfl,Nat.mul_one,Nat.add_zero] at hx25_0);have hf25_0 := hfr25 0;(try simp only [show (k26).sz = 6 from rfl,Nat.mul_one,Nat.add_zero] at hf25_0);have hx25_1 := hcc25 1 _ rfl;(try simp only [show (k26).sz = 6 from rfl,Nat.mul_one,Nat.add_zero] at hx25_1);have hf25_1 := hfr25 1;(try simp only [show (k26).sz = 6 from rfl,Nat.mul_one,Nat.add_zero] at hf25_1);have hx25_2 := hcc25 2 _ rfl;(try simp only [show (k26).sz = 6 from rfl,Nat.mul_one,Nat.add_zero] at hx25_2);have hf25_2 := hfr25 2;(try simp only [show (k26).sz = 6 from rfl,Nat.mul_one,Nat.add_zero] at hf25_2);have hx25_3 := hcc25 3 _ rfl;(try simp only [show (k26).sz = 6 from rfl,Nat.mul_one,Nat.add_zero] at hx25_3);have hf25_3 := hfr25 3;(try simp only [show (k26).sz = 6 from rfl,Nat.mul_one,Nat.add_zero] at hf25_3);have hx25_4 := hcc25 4 _ rfl;(try simp only [show (k26).sz = 6 from rfl,Nat.mul_one,Nat.add_zero] at hx25_4);have hf25_4 := hfr25 4;(try simp only [show (k26).sz = 6 from rfl,Nat.mul_one,Nat.add_zero] at hf25_4);have hx25_5 := hcc25 5 _ rfl;(try simp only [show (k26).sz = 6 from rfl,Nat.mul_one,Nat.add_zero] at hx25_5);have hf25_5 := hfr25 5;(try simp only [show (k26).sz = 6 from rfl,Nat.mul_one,Nat.add_zero] at hf25_5);clear hcl25 hcc25 hfr25 hM25) | ((with_reducible refine gate_store (t := 26) (p := 33) rfl ?_);refine store_event (t := 26) (p := 33) (v := ?vo_w26) (w1 := ((((((w23.setCell ⟨go19,(x5_1 : Int).toNat * 6,none⟩ (.string ((rd_T26 x0_1 x6_1).f0))).setCell ⟨go19,(x5_1 : Int).toNat * 6 + 1,none⟩ (.int .i64 ((rd_T26 x0_1 x6_1).f1))).setCell ⟨go19,(x5_1 : Int).toNat * 6 + 2,none⟩ (.int .i64 ((rd_T26 x0_1 x6_1).f2))).setCell ⟨go19,(x5_1 : Int).toNat * 6 + 3,none⟩ (.int .i64 ((rd_T26 x0_1 x6_1).f3.f0))).setCell ⟨go19,(x5_1 : Int).toNat * 6 + 4,none⟩ (.int .i64 ((rd_T26 x0_1 x6_1).f3.f1))).setCell ⟨go19,(x5_1 : Int).toNat * 6 + 5,none⟩ (.int .i64 ((rd_T26 x0_1 x6_1).f4)))) ?hg ?ho ?hn ?hr ?_;(case ho => rfl);(case hg => rfl);(case hn => rfl);(case hr => first | (go_simp;done) | (go_simp;rfl));intro w26 hw;have hg : w23.grownBy w26 (some go19) := (by rw [hw];exact HP25.2);have hp_ : Kd.R k26 26 w26 w0.heap.size (fun k_ => (P0_ k_ ∨ w.heap.size ≤ k_) ∧ k_ ≠ gb306) (.slice (some ⟨go19,0,none⟩) x0_1.length co7) y308 := (by rw [hw,Ny308.out];exact HP25.1);clear HP25;have n0_ := Yd (hp_);have n1_ := Yd (blk_grown (g := B1_0_) (o := .cells #[.int .i64 a1_0] 3 (0,0)) (Y6 BK295.out) hg (Kd.R_ne HO_0.out BK295.out (by decide)));have n2_ := Yd (blk_grown (g := gb306) (o := .cells #[.string ((rd_T26 x0_1 x6_1).f0),.int .i64 ((rd_T26 x0_1 x6_1).f1),.int .i64 ((rd_T26 x0_1 x6_1).f2),.int .i64 ((rd_T26 x0_1 x6_1).f3.f0),.int .i64 ((rd_T26 x0_1 x6_1).f3.f1),.int .i64 ((rd_T26 x0_1 x6_1).f4)] 26 (0,0)) (Y6 BK306.out) hg (Kd.R_away HO_0.out (fun _ hk => hk.2)));have n3_ := Yd ((by rw [hw];exact below_set (below_set (below_set (below_set (below_set (below_set (HB.out) GB19.out) GB19.out) GB19.out) GB19.out) GB19.out) GB19.out : Below w0.heap.size w0 w26));have n4_ := Yd (Kept.of_grown (S := (fun k_ => P0_ k_)) hg (by repeat (first | (with_reducible first | exact HK.out | apply Kept.alloc | apply Kept.drewN | apply Kept.drew | refine Kept.setCell ?_ (.inr GW295.out) _ | refine Kept.setCell ?_ (.inr GW306.out) _) | exact HK.out)) (fun k_ e_ => (HO_0.out.1 k_ e_).1));clear HO_0;clear BK295;clear BK306;clear HB;clear HK;have HO_0 := n0_;have BK295 := n1_;have BK306 := n2_;have HB := n3_;have HK := n4_;clear n0_ n1_ n2_ n3_ n4_;clear hg hw hp_))
      (try simp only [← hl0_1])
      go_roundg k1
      case measure => have := HK1.out;omega
      case rel => exact ⟨(y308),(wrap64 (x5_1 + 1)),(wrap64 (x6_1 + 1)),Y12,Y12,H',⟨by have := HK1.out;omega⟩,⟨by (try simp only [hl0_1]);(with_reducible repeat (first | apply Kd.R_alloc | apply Kd.R_drewN | apply Kd.R_drew));exact Kd.R_mono HO_0.out (fun _ hk => hk.1)⟩,⟨by (try simp only [hl0_1]);(with_reducible repeat (first | refine blk_drewN ?_ _ | refine blk_drew ?_ | refine blk_alloc ?_ _));exact BK295.out⟩,⟨by repeat (first | (with_reducible first | exact HK.out | apply Kept.alloc | apply Kept.drewN | apply Kept.drew | refine Kept.setCell ?_ (.inr GW295.out) _ | refine Kept.setCell ?_ (.inr GW306.out) _) | exact HK.out)⟩,⟨by repeat (first | (with_reducible first | exact HB.out | apply below_alloc | apply Y15 | apply below_drew1 | refine below_set ?_ GE295.out | refine below_set ?_ GE306.out) | exact HB.out)⟩⟩
    ·rw [if_neg c9] at H
     have c9b0 : decide (x6_1 < (x0_1.length : Int)) = false := decide_eq_false c9
     (try simp only [hl0_1] at c9b0)
     clear c9
     by_cases c27 : 0 ≤ x5_1
     case neg => rw [if_neg c27] at H;exact absurd H (by simp)
     rw [if_pos c27] at H
     have c27b0 := eq_true c27
     have c27b1 : decide (0 ≤ x5_1) = true := decide_eq_true c27
     clear c27
     by_cases c28 : x5_1 ≤ (x0_1.length : Int)
     case neg => rw [if_neg c28] at H;exact absurd H (by simp)
     rw [if_pos c28] at H
     have c28b0 := eq_true c28
     have c28b1 : decide (x5_1 ≤ (x0_1.length : Int)) = true := decide_eq_true c28
     clear c28
     obtain ⟨y297,hy297⟩ : ∃ y_ : List (S26),y_ = (x0_1.drop (x5_1 : Int).toNat) := ⟨_,rfl⟩
     replace H : (some ((x0_1.take (x5_1 : Int).toNat ++ List.replicate (x0_1.length - (x5_1 : Int).toNat) z26).take (x5_1 : Int).toNat)) = some r := by first | (rw [hy297];with_reducible exact H) | (have H2_ := (Option.bind_some _ _).symm.trans H;rw [hy297];with_reducible exact H2_) | (have H2_ := (Option.bind_some _ _).symm.trans H;with_reducible exact H2_) | with_reducible exact H | (rw [hy297];exact H) | exact H
     have Ny297 := Yd hy297
     clear hy297
     obtain ⟨y301,hy301⟩ : ∃ y_ : List (S26),y_ = (x0_1.take (x5_1 : Int).toNat ++ List.replicate (x0_1.length - (x5_1 : Int).toNat) z26) := ⟨_,rfl⟩
     replace H : (some (y301.take (x5_1 : Int).toNat)) = some r := by first | (rw [hy301];with_reducible exact H) | (have H2_ := (Option.bind_some _ _).symm.trans H;rw [hy301];with_reducible exact H2_) | (have H2_ := (Option.bind_some _ _).symm.trans H;with_reducible exact H2_) | with_reducible exact H | (rw [hy301];exact H) | exact H
     have Ny301 := Yd hy301
     clear hy301
     have c29b0 := eq_true (Y9 : x5_1 ≤ (x0_1.length : Int))
     obtain ⟨y302,hy302⟩ : ∃ y_ : List (S26),y_ = (y301.take (x5_1 : Int).toNat) := ⟨_,rfl⟩
     replace H : (some y302) = some r := by first | (rw [hy302];with_reducible exact H) | (have H2_ := (Option.bind_some _ _).symm.trans H;rw [hy302];with_reducible exact H2_) | (have H2_ := (Option.bind_some _ _).symm.trans H;with_reducible exact H2_) | with_reducible exact H | (rw [hy302];exact H) | exact H
     have Ny302 := Yd hy302
     clear hy302
     obtain rfl := Option.some.inj H
     have q30 : (x5_1 : Int) ≤ ((x0_1.length : Int) : Int) := Y9
     obtain ⟨i030,hi030,_,hsz30,_⟩ := info_parts info26
     have hroom30 : x0_1.length ≤ co7 := (Kd.R_reads' HO_0.out).2.1
     have hC30 : Kd.C k26 _ Ao7 x0_1.length x0_1 := (Kd.R_reads' HO_0.out).2.2
     have q030 : (0 : Int) ≤ (x5_1 : Int) := Y9
     have hcut30 := cut_from (P := Try.prog) 22 26 .i64 Try.underlying22 hi030 6 hsz30 Ao7 x0_1.length co7 x5_1 q030 q30
     have hr30 := Kd.C_drop (m := (x5_1 : Int).toNat) (c := co7) hC30 (by omega) hroom30
     obtain ⟨A30,hA30⟩ : ∃ A1,A1 = (if co7 = (x5_1 : Int).toNat then Ao7 else (Ao7 : Option Addr).map (·.add ((x5_1 : Int).toNat * 6))) := ⟨_,rfl⟩
     obtain ⟨c30,hc30⟩ : ∃ c1,c1 = co7 - (x5_1 : Int).toNat := ⟨_,rfl⟩
     have hy30 : y297.length = x0_1.length - (x5_1 : Int).toNat := (by rw [Ny297.out,List.length_drop] <;> omega)
     rw [show (x0_1).drop (x5_1 : Int).toNat = y297 from Ny297.out.symm] at hr30
     replace hr30 : Kd.C k26 _ A30 y297.length y297 := (by rw [hA30];exact hr30)
     rw [← hy30,← hA30,← hc30] at hcut30
     have HR300 := Yd hr30
     have HC300 := Yd (show y297.length ≤ c30 from by rw [hy30,hc30];exact Nat.sub_le_sub_right hroom30 _)
     clear hr30 hC30 hroom30 hi030 hsz30 hc30
     have KY30 := Yd hy30
     have KA30 := Yd hA30
     clear hy30 hA30
     have KL30 := Yd (show (x5_1 : Int).toNat ≤ x0_1.length from by omega)
     replace q30 := eq_true q30
     go_wp2_with (first | ((with_reducible refine gate_builtin (b := .clear) (xs := #[.tmp 38]) rfl ?_);have hy1_ := KY30.out;have hj_ : 0 ≤ (x5_1 : Int) := Y9;have hh_ : (x5_1 : Int) ≤ (x0_1.length : Int) := Y9;refine Kd.R_clear k26 (w0 := w0) w0.heap.size rfl (.tmp 38) 22 26 (.agg #[(.string ⟨#[]⟩),(.int .i64 0),(.int .i64 0),(.int .i64 0),(.int .i64 0),(.int .i64 0)]) z26 rfl Try.underlying22 (fun _ => rfl) rfl (by decide) (fun _ _ _ => k26_mkM _ _ _ z26) (n := x0_1.length) (c := co7) (k := (x5_1 : Int).toNat) rfl ?hA ?hm (Y5 HO_0.out) ?hk (by first | exact Y4 HB.out GE295.out | exact Y3 HB.out) (below_size (by first | exact Y4 HB.out GE295.out | exact Y3 HB.out)) ?_;(case hA => first | exact KA30.out | rfl);(case hm => first | exact hy1_ | omega);(case hk => omega);intro w31 ho hb hg;clear hh_ hy1_;(try clear hj_);rw [← Ny301.out] at ho;have n0_ := Yd (ho);have n1_ := Yd (blk_grown (g := B1_0_) (o := .cells #[.int .i64 a1_0] 3 (0,0)) (Y6 BK295.out) hg (Kd.R_ne HO_0.out BK295.out (by decide)));have n2_ := Yd (hb);have n3_ := Yd (Kept.of_grown (S := (fun k_ => P0_ k_)) hg (by repeat (first | (with_reducible first | exact HK.out | apply Kept.alloc | apply Kept.drewN | apply Kept.drew | refine Kept.setCell ?_ (.inr GW295.out) _) | exact HK.out)) (fun k_ e_ => (HO_0.out.1 k_ e_)));clear HO_0;clear BK295;clear HB;clear HK;have HO_0 := n0_;have BK295 := n1_;have HB := n2_;have HK := n3_;clear n0_ n1_ n2_ n3_;clear ho hb hg;have q32 : (x5_1 : Int) ≤ ((x0_1.length : Int) : Int) := Y9;obtain ⟨i032,hi032,_,hsz32,_⟩ := info_parts info26;have hcut32 := cut_to (P := Try.prog) 22 26 .i64 Try.underlying22 hi032 Ao7 x0_1.length co7 x5_1 (Y9) q32 (Kd.R_reads' HO_0.out).2.1;have hr32 := Kd.R_take (m := (x5_1 : Int).toNat) HO_0.out (by have e_ := (Kd.R_reads' HO_0.out).1;omega);have hy32 : y302.length = (x5_1 : Int).toNat := (by have e_ := (Kd.R_reads' HO_0.out).1;rw [Ny302.out,List.length_take];omega);rw [← Ny302.out] at hr32;rw [← hy32] at hr32 hcut32;clear hy32 hi032 hsz32 HO_0;have HO304 := Yd hr32;clear hr32;replace q32 := eq_true q32))
     go_ret
     exact ⟨_,by first | rfl | (simp [errW_none,errW_some] <;> rfl) | (simp [*,errW_none,errW_some] <;> rfl),by (with_reducible repeat (first | apply Kd.R_alloc | apply Kd.R_drewN | apply Kd.R_drew));exact HO304.out,by repeat (first | (with_reducible first | exact HB.out | apply below_alloc | apply Y15 | apply below_drew1 | refine below_set ?_ GE295.out) | exact HB.out),by repeat (first | (with_reducible first | exact HK.out | apply Kept.alloc | apply Kept.drewN | apply Kept.drew | refine Kept.setCell ?_ (.inr GW295.out) _) | exact HK.out)⟩
def override_Expire.f (k : Nat) (l0 : List (S26)) (a1 : Int) : Option ((List (S26))) := (override_Check.f k l0).bind fun t310 => (if t310 = 0 then ((api_Hold_22.f l0).bind fun t311 => ((api_Hold__c28.f k t311 a1).bind fun t314 => (some t314))) else (some ([] : List (S26))))
theorem override_Expire.mono : ∀ a0 a1 k,LeO (override_Expire.f k a0 a1) (override_Expire.f (k + 1) a0 a1) := by
 intro a0 a1 k
 unfold override_Expire.f
 repeat' first
   | (with_reducible exact api_Hold__c28.mono _ _ _)
   | (with_reducible exact override_Check.mono _ _)
   | (with_reducible exact LeO.refl _)
   | (with_reducible exact LeO.none _)
   | (with_reducible refine LeO.ite ?_ ?_)
   | (with_reducible refine LeO.bind ?_ (fun _ => ?_))
   | exact api_Hold__c28.mono _ _ _
   | exact override_Check.mono _ _
   | exact LeO.none _
   | refine LeO.ite ?_ ?_
   | refine LeO.bind ?_ (fun _ => ?_)
set_option maxHeartbeats 100000000 in
set_option maxRecDepth 100000 in
theorem override_Expire.calls (k : Nat) (A0 : Option Addr) (c0 : Nat) (l0 : List (S26)) (a1 : Int) (r : List (S26)) (w : World) (hr0 : Kd.C k26 w A0 l0.length l0) (hc0 : l0.length ≤ c0) (h : override_Expire.f k l0 a1 = some r) :
  Calls Try.prog 14 #[.slice A0 l0.length c0,.int .i64 a1] w fun e w' => ∃ v0_ : Value,e = .returned (v0_) ∧ Kd.R k26 26 w' w.heap.size (fun _ => True) v0_ r ∧ Below w.heap.size w w' := by
 have HR0 := Yd hr0
 have HC0 := Yd hc0
 clear hr0 hc0
 have HB := Yd (Below.refl w.heap.size w)
 have H : ((override_Check.f k l0).bind fun t310 => (if t310 = 0 then ((api_Hold_22.f l0).bind fun t311 => ((api_Hold__c28.f k t311 a1).bind fun t314 => (some t314))) else (some ([] : List (S26))))) = some r := h
 clear h
 replace H := Option.bind_eq_some_iff.mp H
 obtain ⟨t310,A30,H⟩ := H
 replace H : (if t310 = 0 then ((api_Hold_22.f l0).bind fun t311 => ((api_Hold__c28.f k t311 a1).bind fun t314 => (some t314))) else (some ([] : List (S26)))) = some r := H
 have A3 := Yd A30
 clear A30
 by_cases c4 : t310 = 0
 ·rw [if_pos c4] at H
  have c4b0 : (t310 == 0) = true := beq_iff_eq.mpr c4
  have c4b1 : (t310 != 0) = false := bne_eq_false_iff_eq.mpr c4
  clear c4
  replace H := Option.bind_eq_some_iff.mp H
  obtain ⟨t311,A50,H⟩ := H
  replace H : ((api_Hold__c28.f k t311 a1).bind fun t314 => (some t314)) = some r := H
  have A5 := Yd A50
  clear A50
  replace H := Option.bind_eq_some_iff.mp H
  obtain ⟨t314,A60,H⟩ := H
  replace H : (some t314) = some r := H
  have A6 := Yd A60
  clear A60
  obtain rfl := Option.some.inj H
  go_enter Try.func14,Try.ntmps14
  go_wp2_with (first | ((with_reducible refine gate_dst (N := 3) rfl ?_);refine box_event ?hg (N := 3) ?hd (cs := #[.int .i64 a1]) (t := 3) ?hr ?_;(case hd => rfl);(case hg => rfl);(case hr => first | (go_simp;done) | (go_simp;rfl));intro gb309 hg w7 hbox hb;have n0_ := Yd (below_step (Y3 HB.out) hb);have n1_ := Yd (hbox);have n2_ := Yd ((by rw [hg];exact (below_size (Y3 HB.out)) : w.heap.size ≤ gb309));have n3_ := Yd ((by rw [hg];exact (below_size (Y3 HB.out)) : w.heap.size ≤ gb309));clear HB;have HB := n0_;have BK309 := n1_;have GW309 := n2_;have GE309 := n3_;clear n0_ n1_ n2_ n3_;clear hb hbox hg) | ((with_reducible refine gate_callee (f := 16) rfl ?_);refine goesL_ (some 6) rfl rfl Try.func16 (by kernel_rfl) rfl #[.slice A0 l0.length c0] rfl Y8 ?_;(with_reducible refine (override_Check.calls k _ _ l0 t310 _ ?side1 ?side2 A3.out).mono ?_);(case side1 => exact Y11 (Kd.C_below HR0.out HB.out));(case side2 => exact HC0.out);rintro e w8 ⟨rfl,hb⟩;refine ⟨_,rfl,?_⟩;have n0_ := Yd (blk_below (g := gb309) (o := .cells #[.int .i64 a1] 3 (0,0)) (Y6 BK309.out) hb);have n1_ := Yd (below_step (by first | exact Y4 HB.out GE309.out | exact Y3 HB.out) hb);clear BK309;clear HB;have BK309 := n0_;have HB := n1_;clear n0_ n1_;(try clear hb);(try clear hb2);(try clear hk);(try clear hi)) | ((with_reducible refine gate_callee (f := 22) rfl ?_);refine goesL_ (some 9) rfl rfl Try.func22 (by kernel_rfl) rfl #[.slice A0 l0.length c0] rfl Y8 ?_;(with_reducible refine (api_Hold_22.calls _ _ l0 t311 _ ?side1 ?side2 A5.out).mono ?_);(case side1 => exact Y11 (Kd.C_below HR0.out HB.out));(case side2 => exact HC0.out);rintro e w9 ⟨v312,rfl,ho0,hb⟩;refine ⟨_,rfl,?_⟩;have n0_ := Yd (Kd.R_lower ho0 (below_size (by first | exact Y4 HB.out GE309.out | exact Y3 HB.out)));have n1_ := Yd (blk_below (g := gb309) (o := .cells #[.int .i64 a1] 3 (0,0)) (Y6 BK309.out) hb);have n2_ := Yd (below_step (by first | exact Y4 HB.out GE309.out | exact Y3 HB.out) hb);clear BK309;clear HB;have HO313 := n0_;have BK309 := n1_;have HB := n2_;clear n0_ n1_ n2_;(try clear hb);(try clear hb2);(try clear hk);(try clear hi);(try clear ho0);obtain ⟨Ao10,co10,eo10⟩ := Kd.R_slice HO313.out;subst eo10) | ((with_reducible refine gate_callee (f := 21) rfl ?_);refine goesL_ (some 11) rfl rfl Try.func21 (by kernel_rfl) rfl #[.slice Ao10 t311.length co10,.func (.func 28) #[] #[.pointer (some ⟨gb309,0,none⟩)]] rfl Y8 ?_;(with_reducible refine (api_Hold__c28.calls k (fun k_ => some k_ = (.slice Ao10 t311.length co10 : Value).ownBlock) (.slice Ao10 t311.length co10) t311 gb309 a1 t314 w _ ?side1 ?side2 ?side3 ?side4 A6.out).mono ?_);(case side1 => repeat (first | (with_reducible first | exact HB.out | apply below_alloc | apply Y15 | apply below_drew1 | refine below_set ?_ GE309.out) | exact HB.out));(case side2 => exact Kd.R_tight rfl HO313.out);(case side3 => exact (Y6 BK309.out));(case side4 => exact fun hs_ => (fun e_ => (Kd.R_ne HO313.out BK309.out (by decide)) e_) hs_);rintro e w11 ⟨v315,rfl,ho0,hb,hkp⟩;refine ⟨_,rfl,?_⟩;have n0_ := Yd (blk_kept (Y6 BK309.out) hkp (fun hs_ => (fun e_ => (Kd.R_ne HO313.out BK309.out (by decide)) e_) hs_));have n1_ := Yd (Kd.R_mono (ok' := fun k_ => True) ho0 (fun k_ hk_ => trivial));have n2_ := Yd (hb);clear BK309;clear HB;clear HO313;have BK309 := n0_;have HO316 := n1_;have HB := n2_;clear n0_ n1_ n2_;(try clear hb);(try clear hkp);(try clear ho0)))
  go_ret
  exact ⟨_,by first | rfl | (simp [errW_none,errW_some] <;> rfl) | (simp [*,errW_none,errW_some] <;> rfl),by (with_reducible repeat (first | apply Kd.R_alloc | apply Kd.R_drewN | apply Kd.R_drew));exact HO316.out,by repeat (first | (with_reducible first | exact HB.out | apply below_alloc | apply Y15 | apply below_drew1 | refine below_set ?_ GE309.out) | exact HB.out)⟩
 ·rw [if_neg c4] at H
  have c4b0 : (t310 == 0) = false := beq_eq_false_iff_ne.mpr c4
  have c4b1 : (t310 != 0) = true := bne_iff_ne.mpr c4
  obtain rfl := Option.some.inj H
  go_enter Try.func14,Try.ntmps14
  go_wp2_with (first | ((with_reducible refine gate_dst (N := 3) rfl ?_);refine box_event ?hg (N := 3) ?hd (cs := #[.int .i64 a1]) (t := 3) ?hr ?_;(case hd => rfl);(case hg => rfl);(case hr => first | (go_simp;done) | (go_simp;rfl));intro gb309 hg w12 hbox hb;have n0_ := Yd (below_step (Y3 HB.out) hb);have n1_ := Yd (hbox);have n2_ := Yd ((by rw [hg];exact (below_size (Y3 HB.out)) : w.heap.size ≤ gb309));have n3_ := Yd ((by rw [hg];exact (below_size (Y3 HB.out)) : w.heap.size ≤ gb309));clear HB;have HB := n0_;have BK309 := n1_;have GW309 := n2_;have GE309 := n3_;clear n0_ n1_ n2_ n3_;clear hb hbox hg) | ((with_reducible refine gate_callee (f := 16) rfl ?_);refine goesL_ (some 6) rfl rfl Try.func16 (by kernel_rfl) rfl #[.slice A0 l0.length c0] rfl Y8 ?_;(with_reducible refine (override_Check.calls k _ _ l0 t310 _ ?side1 ?side2 A3.out).mono ?_);(case side1 => exact Y11 (Kd.C_below HR0.out HB.out));(case side2 => exact HC0.out);rintro e w13 ⟨rfl,hb⟩;refine ⟨_,rfl,?_⟩;have n0_ := Yd (blk_below (g := gb309) (o := .cells #[.int .i64 a1] 3 (0,0)) (Y6 BK309.out) hb);have n1_ := Yd (below_step (by first | exact Y4 HB.out GE309.out | exact Y3 HB.out) hb);clear BK309;clear HB;have BK309 := n0_;have HB := n1_;clear n0_ n1_;(try clear hb);(try clear hb2);(try clear hk);(try clear hi)))
  go_ret
  exact ⟨_,by first | rfl | (simp [errW_none,errW_some] <;> rfl) | (simp [*,errW_none,errW_some] <;> rfl),by first | exact Kd.R_nil _ _ _ _ _ | exact Kd.N_nil _ _ _ _ _ | exact Kd.V_nil _ _ _ _ _ | exact Kd.Q_nil _ _ _ _ _ | exact Kd.S_nil _ _ _ _ _,by repeat (first | (with_reducible first | exact HB.out | apply below_alloc | apply Y15 | apply below_drew1 | refine below_set ?_ GE309.out) | exact HB.out)⟩
def override_Value.f (k : Nat) (l0 : List (S26)) (a1 : Int) (a2_0 : Int) (a2_1 : Int) : Option (Int × Int) := (override_At.f k l0 a1).bind fun t319 => (if t319 ≥ 0 then (if 0 ≤ t319 then (if t319 < (l0.length : Int) then (some ((rd_T26 l0 t319).f3.f0,(rd_T26 l0 t319).f3.f1)) else (none)) else (none)) else (some (a2_0,a2_1)))
theorem override_Value.mono : ∀ a0 a1 a2 a3 k,LeO (override_Value.f k a0 a1 a2 a3) (override_Value.f (k + 1) a0 a1 a2 a3) := by
 intro a0 a1 a2 a3 k
 unfold override_Value.f
 repeat' first
   | (with_reducible exact override_At.mono _ _ _)
   | (with_reducible exact LeO.refl _)
   | (with_reducible exact LeO.none _)
   | (with_reducible refine LeO.ite ?_ ?_)
   | (with_reducible refine LeO.bind ?_ (fun _ => ?_))
   | exact override_At.mono _ _ _
   | exact LeO.none _
   | refine LeO.ite ?_ ?_
   | refine LeO.bind ?_ (fun _ => ?_)
set_option maxHeartbeats 100000000 in
set_option maxRecDepth 100000 in
theorem override_Value.calls (k : Nat) (A0 : Option Addr) (c0 : Nat) (l0 : List (S26)) (a1 : Int) (a2_0 : Int) (a2_1 : Int) (r1 : Int) (r2 : Int) (w : World) (hr0 : Kd.C k26 w A0 l0.length l0) (hc0 : l0.length ≤ c0) (h : override_Value.f k l0 a1 a2_0 a2_1 = some (r1,r2)) :
  Calls Try.prog 18 #[.slice A0 l0.length c0,.int .i64 a1,.agg #[.int .i64 a2_0,.int .i64 a2_1]] w fun e w' => e = .returned (.agg #[.int .i64 r1,.int .i64 r2]) ∧ Below w.heap.size w w' := by
 have hu24 := Try.underlying24
 have HR0 := Yd hr0
 have HC0 := Yd hc0
 clear hr0 hc0
 have HB := Yd (Below.refl w.heap.size w)
 have H : ((override_At.f k l0 a1).bind fun t319 => (if t319 ≥ 0 then (if 0 ≤ t319 then (if t319 < (l0.length : Int) then (some ((rd_T26 l0 t319).f3.f0,(rd_T26 l0 t319).f3.f1)) else (none)) else (none)) else (some (a2_0,a2_1)))) = some (r1,r2) := h
 clear h
 replace H := Option.bind_eq_some_iff.mp H
 obtain ⟨t319,A40,H⟩ := H
 replace H : (if t319 ≥ 0 then (if 0 ≤ t319 then (if t319 < (l0.length : Int) then (some ((rd_T26 l0 t319).f3.f0,(rd_T26 l0 t319).f3.f1)) else (none)) else (none)) else (some (a2_0,a2_1))) = some (r1,r2) := H
 have A4 := Yd A40
 clear A40
 by_cases c5 : t319 ≥ 0
 ·rw [if_pos c5] at H
  have c5b0 : decide (0 ≤ t319) = true := decide_eq_true c5
  clear c5
  by_cases c6 : 0 ≤ t319
  case neg => rw [if_neg c6] at H;exact absurd H (by simp)
  rw [if_pos c6] at H
  have c6b0 : decide (0 ≤ t319) = true := decide_eq_true c6
  clear c6
  by_cases c7 : t319 < (l0.length : Int)
  case neg => rw [if_neg c7] at H;exact absurd H (by simp)
  rw [if_pos c7] at H
  have c7b0 : decide (t319 < (l0.length : Int)) = true := decide_eq_true c7
  clear c7
  simp only [Option.some.injEq,Prod.mk.injEq] at H
  obtain ⟨rfl,rfl⟩ := H
  go_enter Try.func18,Try.ntmps18
  go_wp2_with (first | ((with_reducible refine gate_dst (N := 5) rfl ?_);refine box_event ?hg (N := 5) ?hd (cs := #[.int .i64 a2_0,.int .i64 a2_1]) (t := 24) ?hr ?_;(case hd => rfl);(case hg => rfl);(case hr => first | (go_simp;done) | (go_simp;rfl));intro gb317 hg w8 hbox hb;have n0_ := Yd (below_step (Y3 HB.out) hb);have n1_ := Yd (hbox);have n2_ := Yd ((by rw [hg];exact (below_size (Y3 HB.out)) : w.heap.size ≤ gb317));have n3_ := Yd ((by rw [hg];exact (below_size (Y3 HB.out)) : w.heap.size ≤ gb317));clear HB;have HB := n0_;have BK317 := n1_;have GW317 := n2_;have GE317 := n3_;clear n0_ n1_ n2_ n3_;clear hb hbox hg) | ((with_reducible refine gate_dst (N := 6) rfl ?_);refine box_event ?hg (N := 6) ?hd (cs := #[.int .i64 0,.int .i64 0]) (t := 24) ?hr ?_;(case hd => rfl);(case hg => rfl);(case hr => first | (go_simp;done) | (go_simp;rfl));intro gb318 hg w9 hbox hb;have n0_ := Yd (blk_below (g := gb317) (o := .cells #[.int .i64 a2_0,.int .i64 a2_1] 24 (0,0)) (Y6 BK317.out) hb);have n1_ := Yd (below_step (by first | exact Y4 HB.out GE317.out | exact Y3 HB.out) hb);have n2_ := Yd (hbox);have n3_ := Yd ((by rw [hg];exact (below_size (by first | exact Y4 HB.out GE317.out | exact Y3 HB.out)) : w.heap.size ≤ gb318));have n4_ := Yd ((by rw [hg];exact (below_size (by first | exact Y4 HB.out GE317.out | exact Y3 HB.out)) : w.heap.size ≤ gb318));have n5_ := Yd ((by rw [hg];exact Nat.ne_of_lt (blk_lt (g := gb317) (o := .cells #[.int .i64 a2_0,.int .i64 a2_1] 24 (0,0)) (Y6 BK317.out)) : gb317 ≠ gb318));have n6_ := Yd ((by rw [hg];exact Nat.ne_of_gt (blk_lt (g := gb317) (o := .cells #[.int .i64 a2_0,.int .i64 a2_1] 24 (0,0)) (Y6 BK317.out)) : gb318 ≠ gb317));clear BK317;clear HB;have BK317 := n0_;have HB := n1_;have BK318 := n2_;have GW318 := n3_;have GE318 := n4_;have NB317_318 := n5_;have NB318_317 := n6_;clear n0_ n1_ n2_ n3_ n4_ n5_ n6_;clear hb hbox hg) | ((with_reducible refine gate_callee (f := 17) rfl ?_);refine goesL_ (some 10) rfl rfl Try.func17 (by kernel_rfl) rfl #[.slice A0 l0.length c0,.int .i64 a1] rfl Y8 ?_;(with_reducible refine (override_At.calls k _ _ l0 a1 t319 _ ?side1 ?side2 A4.out).mono ?_);(case side1 => exact Y11 (Kd.C_below HR0.out HB.out));(case side2 => exact HC0.out);rintro e w10 ⟨rfl,hb⟩;refine ⟨_,rfl,?_⟩;have n0_ := Yd (blk_below (g := gb317) (o := .cells #[.int .i64 a2_0,.int .i64 a2_1] 24 (0,0)) (Y6 BK317.out) hb);have n1_ := Yd (blk_below (g := gb318) (o := .cells #[.int .i64 0,.int .i64 0] 24 (0,0)) (Y6 BK318.out) hb);have n2_ := Yd (below_step (by repeat (first | (with_reducible first | exact HB.out | apply below_alloc | apply Y15 | apply below_drew1 | refine below_set ?_ GE317.out | refine below_set ?_ GE318.out) | exact HB.out)) hb);clear BK317;clear BK318;clear HB;have BK317 := n0_;have BK318 := n1_;have HB := n2_;clear n0_ n1_ n2_;(try clear hb);(try clear hb2);(try clear hk);(try clear hi);have p320 : 0 ≤ (t319 : Int) := Y9;have q320 : t319 < (l0.length : Int) := Y9;obtain ⟨ad320,e320,hx320_0,hx320_1,hx320_2,hx320_3,hx320_4,hx320_5⟩ := at_T26 HR0.out t319 p320 q320;cases e320;replace hx320_0 := Y10 HB.out hx320_0;replace hx320_1 := Y10 HB.out hx320_1;replace hx320_2 := Y10 HB.out hx320_2;replace hx320_3 := Y10 HB.out hx320_3;replace hx320_4 := Y10 HB.out hx320_4;replace hx320_5 := Y10 HB.out hx320_5;replace p320 := eq_true p320;replace q320 := eq_true q320;have hnb11 := NB318_317.out;have hnc11 := NB317_318.out;have hcz12_0 : w10.cell? ⟨gb318,0,none⟩ = some (.int .i64 0) := (blk_cell BK318.out 0).trans rfl;have hcz12_1 : w10.cell? ⟨gb318,1,none⟩ = some (.int .i64 0) := (blk_cell BK318.out 1).trans rfl;have hfz12_0 := blk_frozen BK318.out 0;have hfz12_1 := blk_frozen BK318.out 1))
  refine bodyPost_ret (results_cell_row rfl _ _ gb318 24 #[.int .i64 ((rd_T26 l0 t319).f3.f0),.int .i64 ((rd_T26 l0 t319).f3.f1)] (0,0) _ rfl (by (with_reducible repeat (first | refine blk_drewN ?_ _ | refine blk_drew ?_ | refine blk_alloc ?_ _));refine blk_put (cs := #[.int .i64 ((rd_T26 l0 t319).f3.f0),.int .i64 0]) ?_ 1 _ rfl;(with_reducible repeat (first | refine blk_drewN ?_ _ | refine blk_drew ?_ | refine blk_alloc ?_ _));refine blk_put (cs := #[.int .i64 0,.int .i64 0]) ?_ 0 _ rfl;(with_reducible repeat (first | refine blk_drewN ?_ _ | refine blk_drew ?_ | refine blk_alloc ?_ _));exact BK318.out) Try.underlying24 rfl (by kernel_rfl)) rfl ?_
  exact ⟨by first | rfl | (simp [errW_none,errW_some] <;> rfl) | (simp [*,errW_none,errW_some] <;> rfl),by repeat (first | (with_reducible first | exact HB.out | apply below_alloc | apply Y15 | apply below_drew1 | refine below_set ?_ GE317.out | refine below_set ?_ GE318.out) | exact HB.out)⟩
 ·rw [if_neg c5] at H
  have c5b0 : decide (0 ≤ t319) = false := decide_eq_false c5
  clear c5
  simp only [Option.some.injEq,Prod.mk.injEq] at H
  obtain ⟨rfl,rfl⟩ := H
  go_enter Try.func18,Try.ntmps18
  go_wp2_with (first | ((with_reducible refine gate_dst (N := 5) rfl ?_);refine box_event ?hg (N := 5) ?hd (cs := #[.int .i64 a2_0,.int .i64 a2_1]) (t := 24) ?hr ?_;(case hd => rfl);(case hg => rfl);(case hr => first | (go_simp;done) | (go_simp;rfl));intro gb317 hg w13 hbox hb;have n0_ := Yd (below_step (Y3 HB.out) hb);have n1_ := Yd (hbox);have n2_ := Yd ((by rw [hg];exact (below_size (Y3 HB.out)) : w.heap.size ≤ gb317));have n3_ := Yd ((by rw [hg];exact (below_size (Y3 HB.out)) : w.heap.size ≤ gb317));clear HB;have HB := n0_;have BK317 := n1_;have GW317 := n2_;have GE317 := n3_;clear n0_ n1_ n2_ n3_;clear hb hbox hg) | ((with_reducible refine gate_dst (N := 6) rfl ?_);refine box_event ?hg (N := 6) ?hd (cs := #[.int .i64 0,.int .i64 0]) (t := 24) ?hr ?_;(case hd => rfl);(case hg => rfl);(case hr => first | (go_simp;done) | (go_simp;rfl));intro gb318 hg w14 hbox hb;have n0_ := Yd (blk_below (g := gb317) (o := .cells #[.int .i64 a2_0,.int .i64 a2_1] 24 (0,0)) (Y6 BK317.out) hb);have n1_ := Yd (below_step (by first | exact Y4 HB.out GE317.out | exact Y3 HB.out) hb);have n2_ := Yd (hbox);have n3_ := Yd ((by rw [hg];exact (below_size (by first | exact Y4 HB.out GE317.out | exact Y3 HB.out)) : w.heap.size ≤ gb318));have n4_ := Yd ((by rw [hg];exact (below_size (by first | exact Y4 HB.out GE317.out | exact Y3 HB.out)) : w.heap.size ≤ gb318));have n5_ := Yd ((by rw [hg];exact Nat.ne_of_lt (blk_lt (g := gb317) (o := .cells #[.int .i64 a2_0,.int .i64 a2_1] 24 (0,0)) (Y6 BK317.out)) : gb317 ≠ gb318));have n6_ := Yd ((by rw [hg];exact Nat.ne_of_gt (blk_lt (g := gb317) (o := .cells #[.int .i64 a2_0,.int .i64 a2_1] 24 (0,0)) (Y6 BK317.out)) : gb318 ≠ gb317));clear BK317;clear HB;have BK317 := n0_;have HB := n1_;have BK318 := n2_;have GW318 := n3_;have GE318 := n4_;have NB317_318 := n5_;have NB318_317 := n6_;clear n0_ n1_ n2_ n3_ n4_ n5_ n6_;clear hb hbox hg) | ((with_reducible refine gate_callee (f := 17) rfl ?_);refine goesL_ (some 10) rfl rfl Try.func17 (by kernel_rfl) rfl #[.slice A0 l0.length c0,.int .i64 a1] rfl Y8 ?_;(with_reducible refine (override_At.calls k _ _ l0 a1 t319 _ ?side1 ?side2 A4.out).mono ?_);(case side1 => exact Y11 (Kd.C_below HR0.out HB.out));(case side2 => exact HC0.out);rintro e w15 ⟨rfl,hb⟩;refine ⟨_,rfl,?_⟩;have n0_ := Yd (blk_below (g := gb317) (o := .cells #[.int .i64 a2_0,.int .i64 a2_1] 24 (0,0)) (Y6 BK317.out) hb);have n1_ := Yd (blk_below (g := gb318) (o := .cells #[.int .i64 0,.int .i64 0] 24 (0,0)) (Y6 BK318.out) hb);have n2_ := Yd (below_step (by repeat (first | (with_reducible first | exact HB.out | apply below_alloc | apply Y15 | apply below_drew1 | refine below_set ?_ GE317.out | refine below_set ?_ GE318.out) | exact HB.out)) hb);clear BK317;clear BK318;clear HB;have BK317 := n0_;have BK318 := n1_;have HB := n2_;clear n0_ n1_ n2_;(try clear hb);(try clear hb2);(try clear hk);(try clear hi);have hnb16 := NB317_318.out;have hnc16 := NB318_317.out;have hcz17_0 : w15.cell? ⟨gb317,0,none⟩ = some (.int .i64 a2_0) := (blk_cell BK317.out 0).trans rfl;have hcz17_1 : w15.cell? ⟨gb317,1,none⟩ = some (.int .i64 a2_1) := (blk_cell BK317.out 1).trans rfl;have hfz17_0 := blk_frozen BK317.out 0;have hfz17_1 := blk_frozen BK317.out 1;have hcz18_0 : w15.cell? ⟨gb318,0,none⟩ = some (.int .i64 0) := (blk_cell BK318.out 0).trans rfl;have hcz18_1 : w15.cell? ⟨gb318,1,none⟩ = some (.int .i64 0) := (blk_cell BK318.out 1).trans rfl;have hfz18_0 := blk_frozen BK318.out 0;have hfz18_1 := blk_frozen BK318.out 1))
  refine bodyPost_ret (results_cell_row rfl _ _ gb318 24 #[.int .i64 a2_0,.int .i64 a2_1] (0,0) _ rfl (by (with_reducible repeat (first | refine blk_drewN ?_ _ | refine blk_drew ?_ | refine blk_alloc ?_ _));refine blk_put (cs := #[.int .i64 a2_0,.int .i64 0]) ?_ 1 _ rfl;(with_reducible repeat (first | refine blk_drewN ?_ _ | refine blk_drew ?_ | refine blk_alloc ?_ _));refine blk_put (cs := #[.int .i64 0,.int .i64 0]) ?_ 0 _ rfl;(with_reducible repeat (first | refine blk_drewN ?_ _ | refine blk_drew ?_ | refine blk_alloc ?_ _));exact BK318.out) Try.underlying24 rfl (by kernel_rfl)) rfl ?_
  exact ⟨by first | rfl | (simp [errW_none,errW_some] <;> rfl) | (simp [*,errW_none,errW_some] <;> rfl),by repeat (first | (with_reducible first | exact HB.out | apply below_alloc | apply Y15 | apply below_drew1 | refine below_set ?_ GE317.out | refine below_set ?_ GE318.out) | exact HB.out)⟩
end Go.Proofs.Ytaoicdkjjjlmeaa.PD34
namespace Go.Proofs.Ytaoicdkjjjlmeaa.PD34
open Go.RowKit Go.Proofs.YtaoicdkjjjlmeaaW.PrintWords Go.Proofs.YtaoicdkjjjlmeaaW.PrintLast Go.Proofs.YtaoicdkjjjlmeaaW.PrintMore
attribute [local go_sem] max2_int min2_int max_two min_two max_three min_three max_four min_four
theorem eqA26 (d : Nat) (w : World) (x0 y0 : ByteArray) (x1 y1 : Int) (x2 y2 : Int) (x3 y3 : Int) (x4 y4 : Int) (x5 y5 : Int) :
  (Op.equalIn (d + 3) 26 (.agg #[.string x0,.int .i64 x1,.int .i64 x2,.int .i64 x3,.int .i64 x4,.int .i64 x5]) (.agg #[.string y0,.int .i64 y1,.int .i64 y2,.int .i64 y3,.int .i64 y4,.int .i64 y5])).run Try.prog w = .ok (x0.toList == y0.toList && (x1 == y1 && (x2 == y2 && ((x3 == y3 && (x4 == y4)) && (x5 == y5))))) w := by
 refine eqA_of Try.underlying26 (by kernel_rfl) ?_
 refine eqf_cons (by rfl) (by go_simp;rfl) (by go_simp;rfl) (by go_simp) ?_
 refine eqf_cons (by rfl) (by go_simp;rfl) (by go_simp;rfl) (by go_simp) ?_
 refine eqf_cons (by rfl) (by go_simp;rfl) (by go_simp;rfl) (by go_simp) ?_
 refine eqf_cons (by rfl) (by go_simp) (by go_simp) (eqA24 (d + 0) w _ _ _ _) ?_
 exact eqf_last (by rfl) (by go_simp;rfl) (by go_simp;rfl) (by go_simp)
end Go.Proofs.Ytaoicdkjjjlmeaa.PD34
namespace Go.Proofs.Ytaoicdkjjjlmeaa.PD34
open Go.RowKit Go.Proofs.YtaoicdkjjjlmeaaW.PrintWords Go.Proofs.YtaoicdkjjjlmeaaW.PrintLast Go.Proofs.YtaoicdkjjjlmeaaW.PrintMore
attribute [local go_sem] max2_int min2_int max_two min_two max_three min_three max_four min_four
attribute [local go_sem high] eqA26
mutual
def plenumref34_Add.l0 : Nat → List (S26) → List (S26) → Int → ByteArray → Int → Int → Int → Int → Int → Option ((List (S26)))
 | 0,_,_,_,_,_,_,_,_,_ => none
 | k + 1,x0,x5,x6,x347000,x347001,x347002,x347003,x347004,x347005 => if x6 < (x0.length : Int) then (if 0 ≤ x6 then (if (Op.bytesLess (((rd_T26 x0 x6).f0).toList) x347000.toList) = true then (if x5.length < 2513169434916 then (plenumref34_Add.l0 k x0 (x5 ++ [(⟨(rd_T26 x0 x6).f0,(rd_T26 x0 x6).f1,(rd_T26 x0 x6).f2,(⟨(rd_T26 x0 x6).f3.f0,(rd_T26 x0 x6).f3.f1⟩ : S24),(rd_T26 x0 x6).f4⟩ : S26)]) (wrap64 (x6 + 1)) x347000 x347001 x347002 x347003 x347004 x347005) else (none)) else (plenumref34_Add.l0 k x0 x5 (wrap64 (x6 + 1)) x347000 x347001 x347002 x347003 x347004 x347005)) else (none)) else (if x5.length < 2513169434916 then (plenumref34_Add.l1 k x0 (x5 ++ [(⟨x347000,x347001,x347002,(⟨x347003,x347004⟩ : S24),x347005⟩ : S26)]) 0 x347000 x347001 x347002 x347003 x347004 x347005) else (none))
def plenumref34_Add.l1 : Nat → List (S26) → List (S26) → Int → ByteArray → Int → Int → Int → Int → Int → Option ((List (S26)))
 | 0,_,_,_,_,_,_,_,_,_ => none
 | k + 1,x0,x5,x7,x347000,x347001,x347002,x347003,x347004,x347005 => if x7 < (x0.length : Int) then (if 0 ≤ x7 then (if (Op.bytesLess x347000.toList (((rd_T26 x0 x7).f0).toList)) = true then (if x5.length < 2513169434916 then (plenumref34_Add.l1 k x0 (x5 ++ [(⟨(rd_T26 x0 x7).f0,(rd_T26 x0 x7).f1,(rd_T26 x0 x7).f2,(⟨(rd_T26 x0 x7).f3.f0,(rd_T26 x0 x7).f3.f1⟩ : S24),(rd_T26 x0 x7).f4⟩ : S26)]) (wrap64 (x7 + 1)) x347000 x347001 x347002 x347003 x347004 x347005) else (none)) else (plenumref34_Add.l1 k x0 x5 (wrap64 (x7 + 1)) x347000 x347001 x347002 x347003 x347004 x347005)) else (none)) else (some x5)
end
def plenumref34_Add.f (k : Nat) (l0 : List (S26)) (a1_0 : ByteArray) (a1_1 : Int) (a1_2 : Int) (a1_3 : Int) (a1_4 : Int) (a1_5 : Int) : Option ((List (S26))) := plenumref34_Add.l0 k l0 (([] : List (S26))) 0 a1_0 a1_1 a1_2 a1_3 a1_4 a1_5
theorem plenumref34_Add.mono_l : ∀ k,(∀ y0 y1 y2 y3 y4 y5 y6 y7 y8,LeO (plenumref34_Add.l0 k y0 y1 y2 y3 y4 y5 y6 y7 y8) (plenumref34_Add.l0 (k + 1) y0 y1 y2 y3 y4 y5 y6 y7 y8)) ∧ (∀ y0 y1 y2 y3 y4 y5 y6 y7 y8,LeO (plenumref34_Add.l1 k y0 y1 y2 y3 y4 y5 y6 y7 y8) (plenumref34_Add.l1 (k + 1) y0 y1 y2 y3 y4 y5 y6 y7 y8))
 | 0 => ⟨fun _ _ _ _ _ _ _ _ _ r h => by simp [plenumref34_Add.l0] at h,fun _ _ _ _ _ _ _ _ _ r h => by simp [plenumref34_Add.l1] at h⟩
 | k + 1 => by
  obtain ⟨ih0,ih1⟩ := plenumref34_Add.mono_l k
  refine ⟨?_,?_⟩
  ·intro y0 y1 y2 y3 y4 y5 y6 y7 y8
   unfold plenumref34_Add.l0
   repeat' first
   | (with_reducible exact ih0 _ _ _ _ _ _ _ _ _)
   | (with_reducible exact ih1 _ _ _ _ _ _ _ _ _)
   | (with_reducible exact LeO.refl _)
   | (with_reducible exact LeO.none _)
   | (with_reducible refine LeO.ite ?_ ?_)
   | (with_reducible refine LeO.bind ?_ (fun _ => ?_))
   | exact ih0 _ _ _ _ _ _ _ _ _
   | exact ih1 _ _ _ _ _ _ _ _ _
   | exact LeO.none _
   | refine LeO.ite ?_ ?_
   | refine LeO.bind ?_ (fun _ => ?_)
  ·intro y0 y1 y2 y3 y4 y5 y6 y7 y8
   unfold plenumref34_Add.l1
   repeat' first
   | (with_reducible exact ih0 _ _ _ _ _ _ _ _ _)
   | (with_reducible exact ih1 _ _ _ _ _ _ _ _ _)
   | (with_reducible exact LeO.refl _)
   | (with_reducible exact LeO.none _)
   | (with_reducible refine LeO.ite ?_ ?_)
   | (with_reducible refine LeO.bind ?_ (fun _ => ?_))
   | exact ih0 _ _ _ _ _ _ _ _ _
   | exact ih1 _ _ _ _ _ _ _ _ _
   | exact LeO.none _
   | refine LeO.ite ?_ ?_
   | refine LeO.bind ?_ (fun _ => ?_)
theorem plenumref34_Add.mono : ∀ a0 a1 a2 a3 a4 a5 a6 k,LeO (plenumref34_Add.f k a0 a1 a2 a3 a4 a5 a6) (plenumref34_Add.f (k + 1) a0 a1 a2 a3 a4 a5 a6) := by
 intro a0 a1 a2 a3 a4 a5 a6 k
 obtain ⟨ih0,ih1⟩ := plenumref34_Add.mono_l k
 unfold plenumref34_Add.f
 repeat' first
   | (with_reducible exact ih0 _ _ _ _ _ _ _ _ _)
   | (with_reducible exact ih1 _ _ _ _ _ _ _ _ _)
   | (with_reducible exact LeO.refl _)
   | (with_reducible exact LeO.none _)
   | (with_reducible refine LeO.ite ?_ ?_)
   | (with_reducible refine LeO.bind ?_ (fun _ => ?_))
   | exact ih0 _ _ _ _ _ _ _ _ _
   | exact ih1 _ _ _ _ _ _ _ _ _
   | exact LeO.none _
   | refine LeO.ite ?_ ?_
   | refine LeO.bind ?_ (fun _ => ?_)
set_option maxHeartbeats 100000000 in
set_option maxRecDepth 100000 in
theorem plenumref34_Add.calls (k : Nat) (A0 : Option Addr) (c0 : Nat) (l0 : List (S26)) (a1_0 : ByteArray) (a1_1 : Int) (a1_2 : Int) (a1_3 : Int) (a1_4 : Int) (a1_5 : Int) (r : List (S26)) (w : World) (hr0 : Kd.C k26 w A0 l0.length l0) (hc0 : l0.length ≤ c0) (h : plenumref34_Add.f k l0 a1_0 a1_1 a1_2 a1_3 a1_4 a1_5 = some r) :
  Calls Try.prog 11 #[.slice A0 l0.length c0,.agg #[.string a1_0,.int .i64 a1_1,.int .i64 a1_2,.int .i64 a1_3,.int .i64 a1_4,.int .i64 a1_5]] w fun e w' => ∃ v0_ : Value,e = .returned (v0_) ∧ Kd.R k26 26 w' w.heap.size (fun _ => True) v0_ r ∧ Below w.heap.size w w' := by
 have hu26 := Try.underlying26
 have hsgtr_ := str_gtr
 have HR0 := Yd hr0
 have HC0 := Yd hc0
 clear hr0 hc0
 have HB := Yd (Below.refl w.heap.size w)
 have H : (plenumref34_Add.l0 k l0 (([] : List (S26))) 0 a1_0 a1_1 a1_2 a1_3 a1_4 a1_5) = some r := h
 clear h
 obtain ⟨y347,hy347⟩ : ∃ y_ : List (S26),y_ = (([] : List (S26))) := ⟨_,rfl⟩
 replace H : (plenumref34_Add.l0 k l0 y347 0 a1_0 a1_1 a1_2 a1_3 a1_4 a1_5) = some r := by first | (rw [hy347];with_reducible exact H) | (have H2_ := (Option.bind_some _ _).symm.trans H;rw [hy347];with_reducible exact H2_) | (have H2_ := (Option.bind_some _ _).symm.trans H;with_reducible exact H2_) | with_reducible exact H | (rw [hy347];exact H) | exact H
 have Ny347 := Yd hy347
 clear hy347
 have H' := Yd H
 clear H
 go_enter Try.func11,Try.ntmps11
 go_wp2_with (first | ((with_reducible refine gate_dst (N := 3) rfl ?_);refine box_event ?hg (N := 3) ?hd (cs := #[.string a1_0,.int .i64 a1_1,.int .i64 a1_2,.int .i64 a1_3,.int .i64 a1_4,.int .i64 a1_5]) (t := 26) ?hr ?_;(case hd => rfl);(case hg => rfl);(case hr => first | (go_simp;done) | (go_simp;rfl));intro gb346 hg w3 hbox hb;have n0_ := Yd (below_step (Y3 HB.out) hb);have n1_ := Yd (hbox);have n2_ := Yd ((by rw [hg];exact (below_size (Y3 HB.out)) : w.heap.size ≤ gb346));have n3_ := Yd ((by rw [hg];exact (below_size (Y3 HB.out)) : w.heap.size ≤ gb346));clear HB;have HB := n0_;have BK346 := n1_;have GW346 := n2_;have GE346 := n3_;clear n0_ n1_ n2_ n3_;clear hb hbox hg) | ((with_reducible refine gate_dst (N := 8) rfl ?_);refine Kd.R_lit k26 _ 26 ?hg (N := 8) ?hd (xs := ([] : List (S26))) (inner := []) (ok := fun _ => True) (okp := fun _ => True) ?hr ?hp (fun _ hk => hk) trivial (Below.refl _ _) (Nat.le_refl _) (by simp) ?_;(case hd => rfl);(case hg => rfl);(case hr => first | (go_simp;done) | (go_simp;rfl));(case hp => exact (Reps.none _ _));intro v348 w4 ho5 hb hg_ hnew_;clear hg_ hnew_;(first | rw [← Ny347.out] at ho5 | (simp only [Int.reduceToNat] at ho5;rw [← Ny347.out] at ho5));have n0_ := Yd (Kd.R_lower (Kd.R_newB ho5 (g := gb346) (o := .cells #[.string a1_0,.int .i64 a1_1,.int .i64 a1_2,.int .i64 a1_3,.int .i64 a1_4,.int .i64 a1_5] 26 (0,0)) (Y6 BK346.out)) (below_size (by first | exact Y4 HB.out GE346.out | exact Y3 HB.out)));have n1_ := Yd (blk_below (g := gb346) (o := .cells #[.string a1_0,.int .i64 a1_1,.int .i64 a1_2,.int .i64 a1_3,.int .i64 a1_4,.int .i64 a1_5] 26 (0,0)) (Y6 BK346.out) hb);have n2_ := Yd (below_step (by first | exact Y4 HB.out GE346.out | exact Y3 HB.out) hb);clear BK346;clear HB;have HO349 := n0_;have BK346 := n1_;have HB := n2_;clear n0_ n1_ n2_;clear hb ho5))
 repeat (go_quiet (first | ((with_reducible refine gate_dst (N := 3) rfl ?_);refine box_event ?hg (N := 3) ?hd (cs := #[.string a1_0,.int .i64 a1_1,.int .i64 a1_2,.int .i64 a1_3,.int .i64 a1_4,.int .i64 a1_5]) (t := 26) ?hr ?_;(case hd => rfl);(case hg => rfl);(case hr => first | (go_simp;done) | (go_simp;rfl));intro gb346 hg w3 hbox hb;have n0_ := Yd (below_step (Y3 HB.out) hb);have n1_ := Yd (hbox);have n2_ := Yd ((by rw [hg];exact (below_size (Y3 HB.out)) : w.heap.size ≤ gb346));have n3_ := Yd ((by rw [hg];exact (below_size (Y3 HB.out)) : w.heap.size ≤ gb346));clear HB;have HB := n0_;have BK346 := n1_;have GW346 := n2_;have GE346 := n3_;clear n0_ n1_ n2_ n3_;clear hb hbox hg) | ((with_reducible refine gate_dst (N := 8) rfl ?_);refine Kd.R_lit k26 _ 26 ?hg (N := 8) ?hd (xs := ([] : List (S26))) (inner := []) (ok := fun _ => True) (okp := fun _ => True) ?hr ?hp (fun _ hk => hk) trivial (Below.refl _ _) (Nat.le_refl _) (by simp) ?_;(case hd => rfl);(case hg => rfl);(case hr => first | (go_simp;done) | (go_simp;rfl));(case hp => exact (Reps.none _ _));intro v348 w4 ho5 hb hg_ hnew_;clear hg_ hnew_;(first | rw [← Ny347.out] at ho5 | (simp only [Int.reduceToNat] at ho5;rw [← Ny347.out] at ho5));have n0_ := Yd (Kd.R_lower (Kd.R_newB ho5 (g := gb346) (o := .cells #[.string a1_0,.int .i64 a1_1,.int .i64 a1_2,.int .i64 a1_3,.int .i64 a1_4,.int .i64 a1_5] 26 (0,0)) (Y6 BK346.out)) (below_size (by first | exact Y4 HB.out GE346.out | exact Y3 HB.out)));have n1_ := Yd (blk_below (g := gb346) (o := .cells #[.string a1_0,.int .i64 a1_1,.int .i64 a1_2,.int .i64 a1_3,.int .i64 a1_4,.int .i64 a1_5] 26 (0,0)) (Y6 BK346.out) hb);have n2_ := Yd (below_step (by first | exact Y4 HB.out GE346.out | exact Y3 HB.out) hb);clear BK346;clear HB;have HO349 := n0_;have BK346 := n1_;have HB := n2_;clear n0_ n1_ n2_;clear hb ho5));try go_wp2_with (first | ((with_reducible refine gate_dst (N := 3) rfl ?_);refine box_event ?hg (N := 3) ?hd (cs := #[.string a1_0,.int .i64 a1_1,.int .i64 a1_2,.int .i64 a1_3,.int .i64 a1_4,.int .i64 a1_5]) (t := 26) ?hr ?_;(case hd => rfl);(case hg => rfl);(case hr => first | (go_simp;done) | (go_simp;rfl));intro gb346 hg w3 hbox hb;have n0_ := Yd (below_step (Y3 HB.out) hb);have n1_ := Yd (hbox);have n2_ := Yd ((by rw [hg];exact (below_size (Y3 HB.out)) : w.heap.size ≤ gb346));have n3_ := Yd ((by rw [hg];exact (below_size (Y3 HB.out)) : w.heap.size ≤ gb346));clear HB;have HB := n0_;have BK346 := n1_;have GW346 := n2_;have GE346 := n3_;clear n0_ n1_ n2_ n3_;clear hb hbox hg) | ((with_reducible refine gate_dst (N := 8) rfl ?_);refine Kd.R_lit k26 _ 26 ?hg (N := 8) ?hd (xs := ([] : List (S26))) (inner := []) (ok := fun _ => True) (okp := fun _ => True) ?hr ?hp (fun _ hk => hk) trivial (Below.refl _ _) (Nat.le_refl _) (by simp) ?_;(case hd => rfl);(case hg => rfl);(case hr => first | (go_simp;done) | (go_simp;rfl));(case hp => exact (Reps.none _ _));intro v348 w4 ho5 hb hg_ hnew_;clear hg_ hnew_;(first | rw [← Ny347.out] at ho5 | (simp only [Int.reduceToNat] at ho5;rw [← Ny347.out] at ho5));have n0_ := Yd (Kd.R_lower (Kd.R_newB ho5 (g := gb346) (o := .cells #[.string a1_0,.int .i64 a1_1,.int .i64 a1_2,.int .i64 a1_3,.int .i64 a1_4,.int .i64 a1_5] 26 (0,0)) (Y6 BK346.out)) (below_size (by first | exact Y4 HB.out GE346.out | exact Y3 HB.out)));have n1_ := Yd (blk_below (g := gb346) (o := .cells #[.string a1_0,.int .i64 a1_1,.int .i64 a1_2,.int .i64 a1_3,.int .i64 a1_4,.int .i64 a1_5] 26 (0,0)) (Y6 BK346.out) hb);have n2_ := Yd (below_step (by first | exact Y4 HB.out GE346.out | exact Y3 HB.out) hb);clear BK346;clear HB;have HO349 := n0_;have BK346 := n1_;have HB := n2_;clear n0_ n1_ n2_;clear hb ho5)))
 go_loopg [5,6] k (fun kq v5 v6 w' => ∃ (x5_1 : List (S26)) (x6_1 : Int),v6 = .int .i64 x6_1 ∧ Aside0 (plenumref34_Add.l0 kq l0 x5_1 x6_1 a1_0 a1_1 a1_2 a1_3 a1_4 a1_5 = some r) ∧ Aside0 (kq ≤ k) ∧ Aside0 (Kd.R k26 26 w' w.heap.size (fun k_ => k_ ≠ gb346) v5 x5_1) ∧ Aside0 (w'.heap[gb346]? = some (.cells #[.string a1_0,.int .i64 a1_1,.int .i64 a1_2,.int .i64 a1_3,.int .i64 a1_4,.int .i64 a1_5] 26 (0,0))) ∧ Aside0 (Below w.heap.size w w'))
 case atStart => exact ⟨(y347),(0),Y12,H',⟨Nat.le_refl _⟩,⟨by (with_reducible repeat (first | apply Kd.R_alloc | apply Kd.R_drewN | apply Kd.R_drew));exact Kd.R_mono HO349.out (fun _ hk => hk.2)⟩,⟨Y6 BK346.out⟩,⟨by repeat (first | (with_reducible first | exact HB.out | apply below_alloc | apply Y15 | apply below_drew1 | refine below_set ?_ GE346.out) | exact HB.out)⟩⟩
 case round =>
  clear H'
  try clear c1
  try clear p2
  obtain ⟨x5_1,x6_1,rfl,HA,HK1,HO_5,BK346,HB⟩ := hrel
  cases gk with
  | zero => exact absurd HA.out (by simp [plenumref34_Add.l0])
  | succ k1 =>
   have H := HA.out
   clear HA
   simp only [plenumref34_Add.l0] at H
   by_cases c6 : x6_1 < (l0.length : Int)
   ·rw [if_pos c6] at H
    have c6b0 : decide (x6_1 < (l0.length : Int)) = true := decide_eq_true c6
    clear c6
    by_cases c7 : 0 ≤ x6_1
    case neg => rw [if_neg c7] at H;exact absurd H (by simp)
    rw [if_pos c7] at H
    have c7b0 : decide (0 ≤ x6_1) = true := decide_eq_true c7
    clear c7
    by_cases c8 : (Op.bytesLess (((rd_T26 l0 x6_1).f0).toList) a1_0.toList) = true
    ·rw [if_pos c8] at H
     have c8b0 : (Op.bytesLess (((rd_T26 l0 x6_1).f0).toList) a1_0.toList) = true := c8
     clear c8
     by_cases c9 : x5_1.length < 2513169434916
     case neg => rw [if_neg c9] at H;exact absurd H (by simp)
     rw [if_pos c9] at H
     have LMc9 := Yd c9
     clear c9
     obtain ⟨y352,hy352⟩ : ∃ y_ : List (S26),y_ = (x5_1 ++ [(⟨(rd_T26 l0 x6_1).f0,(rd_T26 l0 x6_1).f1,(rd_T26 l0 x6_1).f2,(⟨(rd_T26 l0 x6_1).f3.f0,(rd_T26 l0 x6_1).f3.f1⟩ : S24),(rd_T26 l0 x6_1).f4⟩ : S26)]) := ⟨_,rfl⟩
     replace H : (plenumref34_Add.l0 k1 l0 y352 (wrap64 (x6_1 + 1)) a1_0 a1_1 a1_2 a1_3 a1_4 a1_5) = some r := by first | (rw [hy352];with_reducible exact H) | (have H2_ := (Option.bind_some _ _).symm.trans H;rw [hy352];with_reducible exact H2_) | (have H2_ := (Option.bind_some _ _).symm.trans H;with_reducible exact H2_) | with_reducible exact H | (rw [hy352];exact H) | exact H
     have Ny352 := Yd hy352
     clear hy352
     have H' := Yd H
     clear H
     have p350 : 0 ≤ (x6_1 : Int) := Y9
     have q350 : x6_1 < (l0.length : Int) := Y9
     obtain ⟨ad350,e350,hx350_0,hx350_1,hx350_2,hx350_3,hx350_4,hx350_5⟩ := at_T26 HR0.out x6_1 p350 q350
     cases e350
     replace hx350_0 := Y10 HB.out hx350_0
     replace hx350_1 := Y10 HB.out hx350_1
     replace hx350_2 := Y10 HB.out hx350_2
     replace hx350_3 := Y10 HB.out hx350_3
     replace hx350_4 := Y10 HB.out hx350_4
     replace hx350_5 := Y10 HB.out hx350_5
     replace p350 := eq_true p350
     replace q350 := eq_true q350
     have hcz10_0 : wr.cell? ⟨gb346,0,none⟩ = some (.string a1_0) := (blk_cell BK346.out 0).trans rfl
     have hcz10_1 : wr.cell? ⟨gb346,1,none⟩ = some (.int .i64 a1_1) := (blk_cell BK346.out 1).trans rfl
     have hcz10_2 : wr.cell? ⟨gb346,2,none⟩ = some (.int .i64 a1_2) := (blk_cell BK346.out 2).trans rfl
     have hcz10_3 : wr.cell? ⟨gb346,3,none⟩ = some (.int .i64 a1_3) := (blk_cell BK346.out 3).trans rfl
     have hcz10_4 : wr.cell? ⟨gb346,4,none⟩ = some (.int .i64 a1_4) := (blk_cell BK346.out 4).trans rfl
     have hcz10_5 : wr.cell? ⟨gb346,5,none⟩ = some (.int .i64 a1_5) := (blk_cell BK346.out 5).trans rfl
     have hfz10_0 := blk_frozen BK346.out 0
     have hfz10_1 := blk_frozen BK346.out 1
     have hfz10_2 := blk_frozen BK346.out 2
     have hfz10_3 := blk_frozen BK346.out 3
     have hfz10_4 := blk_frozen BK346.out 4
     have hfz10_5 := blk_frozen BK346.out 5
     have p351 : 0 ≤ (x6_1 : Int) := Y9
     have q351 : x6_1 < (l0.length : Int) := Y9
     obtain ⟨ad351,e351,hx351_0,hx351_1,hx351_2,hx351_3,hx351_4,hx351_5⟩ := at_T26 HR0.out x6_1 p351 q351
     obtain rfl : ad350 = ad351 := (by injection e351)
     replace hx351_0 := Y10 HB.out hx351_0
     replace hx351_1 := Y10 HB.out hx351_1
     replace hx351_2 := Y10 HB.out hx351_2
     replace hx351_3 := Y10 HB.out hx351_3
     replace hx351_4 := Y10 HB.out hx351_4
     replace hx351_5 := Y10 HB.out hx351_5
     replace p351 := eq_true p351
     replace q351 := eq_true q351
     go_wp2_with (first | ((with_reducible refine gate_builtin (b := .append) (xs := #[.tmp 23,.tmp 28]) rfl ?_);at_builtin;refine Kd.R_append k26 (w0 := w) w.heap.size rfl (.tmp 23) (.tmp 28) 22 26 (.agg #[(.string ⟨#[]⟩),(.int .i64 0),(.int .i64 0),(.int .i64 0),(.int .i64 0),(.int .i64 0)]) 56 rfl Try.underlying22 info26 rfl (by decide) (by omega) u5 x5_1 (⟨(rd_T26 l0 x6_1).f0,(rd_T26 l0 x6_1).f1,(rd_T26 l0 x6_1).f2,(⟨(rd_T26 l0 x6_1).f3.f0,(rd_T26 l0 x6_1).f3.f1⟩ : S24),(rd_T26 l0 x6_1).f4⟩ : S26) [.string ((rd_T26 l0 x6_1).f0),.int .i64 ((rd_T26 l0 x6_1).f1),.int .i64 ((rd_T26 l0 x6_1).f2),.int .i64 ((rd_T26 l0 x6_1).f3.f0),.int .i64 ((rd_T26 l0 x6_1).f3.f1),.int .i64 ((rd_T26 l0 x6_1).f4)] (fun k_ => k_ ≠ gb346) (fun _ => False) rfl rfl ?aP (fun _ hk => hk.elim) ?aF ?aO ?aB ?aS ?aL ?_;(case aP => exact k26_mkM _ _ _ (⟨(rd_T26 l0 x6_1).f0,(rd_T26 l0 x6_1).f1,(rd_T26 l0 x6_1).f2,(⟨(rd_T26 l0 x6_1).f3.f0,(rd_T26 l0 x6_1).f3.f1⟩ : S24),(rd_T26 l0 x6_1).f4⟩ : S26));(case aB => exact (by first | exact Y4 HB.out GE346.out | exact Y3 HB.out));(case aF => exact (fun k_ hk => Kd.freshB (g := gb346) (o := .cells #[.string a1_0,.int .i64 a1_1,.int .i64 a1_2,.int .i64 a1_3,.int .i64 a1_4,.int .i64 a1_5] 26 (0,0)) (Y6 BK346.out) k_ hk));(case aO => exact (Y5 HO_5.out));(case aS => exact (below_size (by first | exact Y4 HB.out GE346.out | exact Y3 HB.out)));(case aL => have := LMc9.out;omega);intro v353 w11 ho hb hg hat;rw [← Ny352.out] at ho;have n0_ := Yd (blk_grown (g := gb346) (o := .cells #[.string a1_0,.int .i64 a1_1,.int .i64 a1_2,.int .i64 a1_3,.int .i64 a1_4,.int .i64 a1_5] 26 (0,0)) (Y6 BK346.out) hg (Kd.R_away HO_5.out (fun _ hk => hk)));have n1_ := Yd (hb);have n2_ := Yd (ho);clear BK346;clear HB;clear HO_5;have BK346 := n0_;have HB := n1_;have HO354 := n2_;clear n0_ n1_ n2_;clear ho hb hg hat))
     repeat (go_quiet (first | ((with_reducible refine gate_builtin (b := .append) (xs := #[.tmp 23,.tmp 28]) rfl ?_);at_builtin;refine Kd.R_append k26 (w0 := w) w.heap.size rfl (.tmp 23) (.tmp 28) 22 26 (.agg #[(.string ⟨#[]⟩),(.int .i64 0),(.int .i64 0),(.int .i64 0),(.int .i64 0),(.int .i64 0)]) 56 rfl Try.underlying22 info26 rfl (by decide) (by omega) u5 x5_1 (⟨(rd_T26 l0 x6_1).f0,(rd_T26 l0 x6_1).f1,(rd_T26 l0 x6_1).f2,(⟨(rd_T26 l0 x6_1).f3.f0,(rd_T26 l0 x6_1).f3.f1⟩ : S24),(rd_T26 l0 x6_1).f4⟩ : S26) [.string ((rd_T26 l0 x6_1).f0),.int .i64 ((rd_T26 l0 x6_1).f1),.int .i64 ((rd_T26 l0 x6_1).f2),.int .i64 ((rd_T26 l0 x6_1).f3.f0),.int .i64 ((rd_T26 l0 x6_1).f3.f1),.int .i64 ((rd_T26 l0 x6_1).f4)] (fun k_ => k_ ≠ gb346) (fun _ => False) rfl rfl ?aP (fun _ hk => hk.elim) ?aF ?aO ?aB ?aS ?aL ?_;(case aP => exact k26_mkM _ _ _ (⟨(rd_T26 l0 x6_1).f0,(rd_T26 l0 x6_1).f1,(rd_T26 l0 x6_1).f2,(⟨(rd_T26 l0 x6_1).f3.f0,(rd_T26 l0 x6_1).f3.f1⟩ : S24),(rd_T26 l0 x6_1).f4⟩ : S26));(case aB => exact (by first | exact Y4 HB.out GE346.out | exact Y3 HB.out));(case aF => exact (fun k_ hk => Kd.freshB (g := gb346) (o := .cells #[.string a1_0,.int .i64 a1_1,.int .i64 a1_2,.int .i64 a1_3,.int .i64 a1_4,.int .i64 a1_5] 26 (0,0)) (Y6 BK346.out) k_ hk));(case aO => exact (Y5 HO_5.out));(case aS => exact (below_size (by first | exact Y4 HB.out GE346.out | exact Y3 HB.out)));(case aL => have := LMc9.out;omega);intro v353 w11 ho hb hg hat;rw [← Ny352.out] at ho;have n0_ := Yd (blk_grown (g := gb346) (o := .cells #[.string a1_0,.int .i64 a1_1,.int .i64 a1_2,.int .i64 a1_3,.int .i64 a1_4,.int .i64 a1_5] 26 (0,0)) (Y6 BK346.out) hg (Kd.R_away HO_5.out (fun _ hk => hk)));have n1_ := Yd (hb);have n2_ := Yd (ho);clear BK346;clear HB;clear HO_5;have BK346 := n0_;have HB := n1_;have HO354 := n2_;clear n0_ n1_ n2_;clear ho hb hg hat));try go_wp2_with (first | ((with_reducible refine gate_builtin (b := .append) (xs := #[.tmp 23,.tmp 28]) rfl ?_);at_builtin;refine Kd.R_append k26 (w0 := w) w.heap.size rfl (.tmp 23) (.tmp 28) 22 26 (.agg #[(.string ⟨#[]⟩),(.int .i64 0),(.int .i64 0),(.int .i64 0),(.int .i64 0),(.int .i64 0)]) 56 rfl Try.underlying22 info26 rfl (by decide) (by omega) u5 x5_1 (⟨(rd_T26 l0 x6_1).f0,(rd_T26 l0 x6_1).f1,(rd_T26 l0 x6_1).f2,(⟨(rd_T26 l0 x6_1).f3.f0,(rd_T26 l0 x6_1).f3.f1⟩ : S24),(rd_T26 l0 x6_1).f4⟩ : S26) [.string ((rd_T26 l0 x6_1).f0),.int .i64 ((rd_T26 l0 x6_1).f1),.int .i64 ((rd_T26 l0 x6_1).f2),.int .i64 ((rd_T26 l0 x6_1).f3.f0),.int .i64 ((rd_T26 l0 x6_1).f3.f1),.int .i64 ((rd_T26 l0 x6_1).f4)] (fun k_ => k_ ≠ gb346) (fun _ => False) rfl rfl ?aP (fun _ hk => hk.elim) ?aF ?aO ?aB ?aS ?aL ?_;(case aP => exact k26_mkM _ _ _ (⟨(rd_T26 l0 x6_1).f0,(rd_T26 l0 x6_1).f1,(rd_T26 l0 x6_1).f2,(⟨(rd_T26 l0 x6_1).f3.f0,(rd_T26 l0 x6_1).f3.f1⟩ : S24),(rd_T26 l0 x6_1).f4⟩ : S26));(case aB => exact (by first | exact Y4 HB.out GE346.out | exact Y3 HB.out));(case aF => exact (fun k_ hk => Kd.freshB (g := gb346) (o := .cells #[.string a1_0,.int .i64 a1_1,.int .i64 a1_2,.int .i64 a1_3,.int .i64 a1_4,.int .i64 a1_5] 26 (0,0)) (Y6 BK346.out) k_ hk));(case aO => exact (Y5 HO_5.out));(case aS => exact (below_size (by first | exact Y4 HB.out GE346.out | exact Y3 HB.out)));(case aL => have := LMc9.out;omega);intro v353 w11 ho hb hg hat;rw [← Ny352.out] at ho;have n0_ := Yd (blk_grown (g := gb346) (o := .cells #[.string a1_0,.int .i64 a1_1,.int .i64 a1_2,.int .i64 a1_3,.int .i64 a1_4,.int .i64 a1_5] 26 (0,0)) (Y6 BK346.out) hg (Kd.R_away HO_5.out (fun _ hk => hk)));have n1_ := Yd (hb);have n2_ := Yd (ho);clear BK346;clear HB;clear HO_5;have BK346 := n0_;have HB := n1_;have HO354 := n2_;clear n0_ n1_ n2_;clear ho hb hg hat)))
     go_roundg k1
     case measure => have := HK1.out;omega
     case rel => exact ⟨(y352),(wrap64 (x6_1 + 1)),Y12,H',⟨by have := HK1.out;omega⟩,⟨Y5 HO354.out⟩,⟨Y6 BK346.out⟩,⟨by repeat (first | (with_reducible first | exact HB.out | apply below_alloc | apply Y15 | apply below_drew1 | refine below_set ?_ GE346.out) | exact HB.out)⟩⟩
    ·rw [if_neg c8] at H
     have c8b0 : (Op.bytesLess (((rd_T26 l0 x6_1).f0).toList) a1_0.toList) = false := by simpa using c8
     clear c8
     have H' := Yd H
     clear H
     have p350 : 0 ≤ (x6_1 : Int) := Y9
     have q350 : x6_1 < (l0.length : Int) := Y9
     obtain ⟨ad350,e350,hx350_0,hx350_1,hx350_2,hx350_3,hx350_4,hx350_5⟩ := at_T26 HR0.out x6_1 p350 q350
     cases e350
     replace hx350_0 := Y10 HB.out hx350_0
     replace hx350_1 := Y10 HB.out hx350_1
     replace hx350_2 := Y10 HB.out hx350_2
     replace hx350_3 := Y10 HB.out hx350_3
     replace hx350_4 := Y10 HB.out hx350_4
     replace hx350_5 := Y10 HB.out hx350_5
     replace p350 := eq_true p350
     replace q350 := eq_true q350
     have hcz12_0 : wr.cell? ⟨gb346,0,none⟩ = some (.string a1_0) := (blk_cell BK346.out 0).trans rfl
     have hcz12_1 : wr.cell? ⟨gb346,1,none⟩ = some (.int .i64 a1_1) := (blk_cell BK346.out 1).trans rfl
     have hcz12_2 : wr.cell? ⟨gb346,2,none⟩ = some (.int .i64 a1_2) := (blk_cell BK346.out 2).trans rfl
     have hcz12_3 : wr.cell? ⟨gb346,3,none⟩ = some (.int .i64 a1_3) := (blk_cell BK346.out 3).trans rfl
     have hcz12_4 : wr.cell? ⟨gb346,4,none⟩ = some (.int .i64 a1_4) := (blk_cell BK346.out 4).trans rfl
     have hcz12_5 : wr.cell? ⟨gb346,5,none⟩ = some (.int .i64 a1_5) := (blk_cell BK346.out 5).trans rfl
     have hfz12_0 := blk_frozen BK346.out 0
     have hfz12_1 := blk_frozen BK346.out 1
     have hfz12_2 := blk_frozen BK346.out 2
     have hfz12_3 := blk_frozen BK346.out 3
     have hfz12_4 := blk_frozen BK346.out 4
     have hfz12_5 := blk_frozen BK346.out 5
     go_wp2
     repeat (go_quiet (fail);try go_wp2)
     go_roundg k1
     case measure => have := HK1.out;omega
     case rel => exact ⟨(x5_1),(wrap64 (x6_1 + 1)),Y12,H',⟨by have := HK1.out;omega⟩,⟨Y5 HO_5.out⟩,⟨Y6 BK346.out⟩,⟨by repeat (first | (with_reducible first | exact HB.out | apply below_alloc | apply Y15 | apply below_drew1 | refine below_set ?_ GE346.out) | exact HB.out)⟩⟩
   ·rw [if_neg c6] at H
    have c6b0 : decide (x6_1 < (l0.length : Int)) = false := decide_eq_false c6
    clear c6
    by_cases c13 : x5_1.length < 2513169434916
    case neg => rw [if_neg c13] at H;exact absurd H (by simp)
    rw [if_pos c13] at H
    have LMc13 := Yd c13
    clear c13
    obtain ⟨y355,hy355⟩ : ∃ y_ : List (S26),y_ = (x5_1 ++ [(⟨a1_0,a1_1,a1_2,(⟨a1_3,a1_4⟩ : S24),a1_5⟩ : S26)]) := ⟨_,rfl⟩
    replace H : (plenumref34_Add.l1 k1 l0 y355 0 a1_0 a1_1 a1_2 a1_3 a1_4 a1_5) = some r := by first | (rw [hy355];with_reducible exact H) | (have H2_ := (Option.bind_some _ _).symm.trans H;rw [hy355];with_reducible exact H2_) | (have H2_ := (Option.bind_some _ _).symm.trans H;with_reducible exact H2_) | with_reducible exact H | (rw [hy355];exact H) | exact H
    have Ny355 := Yd hy355
    clear hy355
    have H' := Yd H
    clear H
    have hcz14_0 : wr.cell? ⟨gb346,0,none⟩ = some (.string a1_0) := (blk_cell BK346.out 0).trans rfl
    have hcz14_1 : wr.cell? ⟨gb346,1,none⟩ = some (.int .i64 a1_1) := (blk_cell BK346.out 1).trans rfl
    have hcz14_2 : wr.cell? ⟨gb346,2,none⟩ = some (.int .i64 a1_2) := (blk_cell BK346.out 2).trans rfl
    have hcz14_3 : wr.cell? ⟨gb346,3,none⟩ = some (.int .i64 a1_3) := (blk_cell BK346.out 3).trans rfl
    have hcz14_4 : wr.cell? ⟨gb346,4,none⟩ = some (.int .i64 a1_4) := (blk_cell BK346.out 4).trans rfl
    have hcz14_5 : wr.cell? ⟨gb346,5,none⟩ = some (.int .i64 a1_5) := (blk_cell BK346.out 5).trans rfl
    have hfz14_0 := blk_frozen BK346.out 0
    have hfz14_1 := blk_frozen BK346.out 1
    have hfz14_2 := blk_frozen BK346.out 2
    have hfz14_3 := blk_frozen BK346.out 3
    have hfz14_4 := blk_frozen BK346.out 4
    have hfz14_5 := blk_frozen BK346.out 5
    go_wp2_with (first | ((with_reducible refine gate_builtin (b := .append) (xs := #[.tmp 30,.tmp 32]) rfl ?_);at_builtin;refine Kd.R_append k26 (w0 := w) w.heap.size rfl (.tmp 30) (.tmp 32) 22 26 (.agg #[(.string ⟨#[]⟩),(.int .i64 0),(.int .i64 0),(.int .i64 0),(.int .i64 0),(.int .i64 0)]) 56 rfl Try.underlying22 info26 rfl (by decide) (by omega) u5 x5_1 (⟨a1_0,a1_1,a1_2,(⟨a1_3,a1_4⟩ : S24),a1_5⟩ : S26) [.string a1_0,.int .i64 a1_1,.int .i64 a1_2,.int .i64 a1_3,.int .i64 a1_4,.int .i64 a1_5] (fun k_ => k_ ≠ gb346) (fun _ => False) rfl rfl ?aP (fun _ hk => hk.elim) ?aF ?aO ?aB ?aS ?aL ?_;(case aP => exact k26_mkM _ _ _ (⟨a1_0,a1_1,a1_2,(⟨a1_3,a1_4⟩ : S24),a1_5⟩ : S26));(case aB => exact (by first | exact Y4 HB.out GE346.out | exact Y3 HB.out));(case aF => exact (fun k_ hk => Kd.freshB (g := gb346) (o := .cells #[.string a1_0,.int .i64 a1_1,.int .i64 a1_2,.int .i64 a1_3,.int .i64 a1_4,.int .i64 a1_5] 26 (0,0)) (Y6 BK346.out) k_ hk));(case aO => exact (Y5 HO_5.out));(case aS => exact (below_size (by first | exact Y4 HB.out GE346.out | exact Y3 HB.out)));(case aL => have := LMc13.out;omega);intro v356 w15 ho hb hg hat;rw [← Ny355.out] at ho;have n0_ := Yd (blk_grown (g := gb346) (o := .cells #[.string a1_0,.int .i64 a1_1,.int .i64 a1_2,.int .i64 a1_3,.int .i64 a1_4,.int .i64 a1_5] 26 (0,0)) (Y6 BK346.out) hg (Kd.R_away HO_5.out (fun _ hk => hk)));have n1_ := Yd (hb);have n2_ := Yd (ho);clear BK346;clear HB;clear HO_5;have BK346 := n0_;have HB := n1_;have HO357 := n2_;clear n0_ n1_ n2_;clear ho hb hg hat))
    repeat (go_quiet (first | ((with_reducible refine gate_builtin (b := .append) (xs := #[.tmp 30,.tmp 32]) rfl ?_);at_builtin;refine Kd.R_append k26 (w0 := w) w.heap.size rfl (.tmp 30) (.tmp 32) 22 26 (.agg #[(.string ⟨#[]⟩),(.int .i64 0),(.int .i64 0),(.int .i64 0),(.int .i64 0),(.int .i64 0)]) 56 rfl Try.underlying22 info26 rfl (by decide) (by omega) u5 x5_1 (⟨a1_0,a1_1,a1_2,(⟨a1_3,a1_4⟩ : S24),a1_5⟩ : S26) [.string a1_0,.int .i64 a1_1,.int .i64 a1_2,.int .i64 a1_3,.int .i64 a1_4,.int .i64 a1_5] (fun k_ => k_ ≠ gb346) (fun _ => False) rfl rfl ?aP (fun _ hk => hk.elim) ?aF ?aO ?aB ?aS ?aL ?_;(case aP => exact k26_mkM _ _ _ (⟨a1_0,a1_1,a1_2,(⟨a1_3,a1_4⟩ : S24),a1_5⟩ : S26));(case aB => exact (by first | exact Y4 HB.out GE346.out | exact Y3 HB.out));(case aF => exact (fun k_ hk => Kd.freshB (g := gb346) (o := .cells #[.string a1_0,.int .i64 a1_1,.int .i64 a1_2,.int .i64 a1_3,.int .i64 a1_4,.int .i64 a1_5] 26 (0,0)) (Y6 BK346.out) k_ hk));(case aO => exact (Y5 HO_5.out));(case aS => exact (below_size (by first | exact Y4 HB.out GE346.out | exact Y3 HB.out)));(case aL => have := LMc13.out;omega);intro v356 w15 ho hb hg hat;rw [← Ny355.out] at ho;have n0_ := Yd (blk_grown (g := gb346) (o := .cells #[.string a1_0,.int .i64 a1_1,.int .i64 a1_2,.int .i64 a1_3,.int .i64 a1_4,.int .i64 a1_5] 26 (0,0)) (Y6 BK346.out) hg (Kd.R_away HO_5.out (fun _ hk => hk)));have n1_ := Yd (hb);have n2_ := Yd (ho);clear BK346;clear HB;clear HO_5;have BK346 := n0_;have HB := n1_;have HO357 := n2_;clear n0_ n1_ n2_;clear ho hb hg hat));try go_wp2_with (first | ((with_reducible refine gate_builtin (b := .append) (xs := #[.tmp 30,.tmp 32]) rfl ?_);at_builtin;refine Kd.R_append k26 (w0 := w) w.heap.size rfl (.tmp 30) (.tmp 32) 22 26 (.agg #[(.string ⟨#[]⟩),(.int .i64 0),(.int .i64 0),(.int .i64 0),(.int .i64 0),(.int .i64 0)]) 56 rfl Try.underlying22 info26 rfl (by decide) (by omega) u5 x5_1 (⟨a1_0,a1_1,a1_2,(⟨a1_3,a1_4⟩ : S24),a1_5⟩ : S26) [.string a1_0,.int .i64 a1_1,.int .i64 a1_2,.int .i64 a1_3,.int .i64 a1_4,.int .i64 a1_5] (fun k_ => k_ ≠ gb346) (fun _ => False) rfl rfl ?aP (fun _ hk => hk.elim) ?aF ?aO ?aB ?aS ?aL ?_;(case aP => exact k26_mkM _ _ _ (⟨a1_0,a1_1,a1_2,(⟨a1_3,a1_4⟩ : S24),a1_5⟩ : S26));(case aB => exact (by first | exact Y4 HB.out GE346.out | exact Y3 HB.out));(case aF => exact (fun k_ hk => Kd.freshB (g := gb346) (o := .cells #[.string a1_0,.int .i64 a1_1,.int .i64 a1_2,.int .i64 a1_3,.int .i64 a1_4,.int .i64 a1_5] 26 (0,0)) (Y6 BK346.out) k_ hk));(case aO => exact (Y5 HO_5.out));(case aS => exact (below_size (by first | exact Y4 HB.out GE346.out | exact Y3 HB.out)));(case aL => have := LMc13.out;omega);intro v356 w15 ho hb hg hat;rw [← Ny355.out] at ho;have n0_ := Yd (blk_grown (g := gb346) (o := .cells #[.string a1_0,.int .i64 a1_1,.int .i64 a1_2,.int .i64 a1_3,.int .i64 a1_4,.int .i64 a1_5] 26 (0,0)) (Y6 BK346.out) hg (Kd.R_away HO_5.out (fun _ hk => hk)));have n1_ := Yd (hb);have n2_ := Yd (ho);clear BK346;clear HB;clear HO_5;have BK346 := n0_;have HB := n1_;have HO357 := n2_;clear n0_ n1_ n2_;clear ho hb hg hat)))
    go_loopg [5,7] k1 (fun kq v5 v7 w' => ∃ (x5_2 : List (S26)) (x7_2 : Int),v7 = .int .i64 x7_2 ∧ Aside0 (plenumref34_Add.l1 kq l0 x5_2 x7_2 a1_0 a1_1 a1_2 a1_3 a1_4 a1_5 = some r) ∧ Aside0 (kq ≤ k1) ∧ Aside0 (Kd.R k26 26 w' w.heap.size (fun k_ => k_ ≠ gb346) v5 x5_2) ∧ Aside0 (w'.heap[gb346]? = some (.cells #[.string a1_0,.int .i64 a1_1,.int .i64 a1_2,.int .i64 a1_3,.int .i64 a1_4,.int .i64 a1_5] 26 (0,0))) ∧ Aside0 (Below w.heap.size w w'))
    case atStart => exact ⟨(y355),(0),Y12,H',⟨Nat.le_refl _⟩,⟨Y5 HO357.out⟩,⟨Y6 BK346.out⟩,⟨by repeat (first | (with_reducible first | exact HB.out | apply below_alloc | apply Y15 | apply below_drew1 | refine below_set ?_ GE346.out) | exact HB.out)⟩⟩
    case round =>
     clear H'
     try clear c1
     try clear p2
     try clear p3
     try clear q3
     try clear hx3
     try clear c6
     try clear c6b0
     try clear p6
     try clear c7
     try clear c7b0
     try clear c8
     try clear c8b0
     try clear c9
     try clear c11
     try clear c13
     try clear hcz10_0
     try clear hcz10_1
     try clear hcz10_2
     try clear hcz10_3
     try clear hcz10_4
     try clear hcz10_5
     try clear hcz12_0
     try clear hcz12_1
     try clear hcz12_2
     try clear hcz12_3
     try clear hcz12_4
     try clear hcz12_5
     try clear hcz14_0
     try clear hcz14_1
     try clear hcz14_2
     try clear hcz14_3
     try clear hcz14_4
     try clear hcz14_5
     try clear hfz10_0
     try clear hfz10_1
     try clear hfz10_2
     try clear hfz10_3
     try clear hfz10_4
     try clear hfz10_5
     try clear hfz12_0
     try clear hfz12_1
     try clear hfz12_2
     try clear hfz12_3
     try clear hfz12_4
     try clear hfz12_5
     try clear hfz14_0
     try clear hfz14_1
     try clear hfz14_2
     try clear hfz14_3
     try clear hfz14_4
     try clear hfz14_5
     try clear hx350_0
     try clear hx350_1
     try clear hx350_2
     try clear hx350_3
     try clear hx350_4
     try clear hx350_5
     try clear hx351_0
     try clear hx351_1
     try clear hx351_2
     try clear hx351_3
     try clear hx351_4
     try clear hx351_5
     try clear p2
     try clear p350
     try clear p351
     try clear q350
     try clear q351
     obtain ⟨x5_2,x7_2,rfl,HA,HK2,HO_5,BK346,HB⟩ := hrel
     cases gk with
     | zero => exact absurd HA.out (by simp [plenumref34_Add.l1])
     | succ k2 =>
      have H := HA.out
      clear HA
      simp only [plenumref34_Add.l1] at H
      by_cases c16 : x7_2 < (l0.length : Int)
      ·rw [if_pos c16] at H
       have c16b0 : decide (x7_2 < (l0.length : Int)) = true := decide_eq_true c16
       clear c16
       by_cases c17 : 0 ≤ x7_2
       case neg => rw [if_neg c17] at H;exact absurd H (by simp)
       rw [if_pos c17] at H
       have c17b0 : decide (0 ≤ x7_2) = true := decide_eq_true c17
       clear c17
       by_cases c18 : (Op.bytesLess a1_0.toList (((rd_T26 l0 x7_2).f0).toList)) = true
       ·rw [if_pos c18] at H
        have c18b0 : (Op.bytesLess a1_0.toList (((rd_T26 l0 x7_2).f0).toList)) = true := c18
        clear c18
        by_cases c19 : x5_2.length < 2513169434916
        case neg => rw [if_neg c19] at H;exact absurd H (by simp)
        rw [if_pos c19] at H
        have LMc19 := Yd c19
        clear c19
        obtain ⟨y360,hy360⟩ : ∃ y_ : List (S26),y_ = (x5_2 ++ [(⟨(rd_T26 l0 x7_2).f0,(rd_T26 l0 x7_2).f1,(rd_T26 l0 x7_2).f2,(⟨(rd_T26 l0 x7_2).f3.f0,(rd_T26 l0 x7_2).f3.f1⟩ : S24),(rd_T26 l0 x7_2).f4⟩ : S26)]) := ⟨_,rfl⟩
        replace H : (plenumref34_Add.l1 k2 l0 y360 (wrap64 (x7_2 + 1)) a1_0 a1_1 a1_2 a1_3 a1_4 a1_5) = some r := by first | (rw [hy360];with_reducible exact H) | (have H2_ := (Option.bind_some _ _).symm.trans H;rw [hy360];with_reducible exact H2_) | (have H2_ := (Option.bind_some _ _).symm.trans H;with_reducible exact H2_) | with_reducible exact H | (rw [hy360];exact H) | exact H
        have Ny360 := Yd hy360
        clear hy360
        have H' := Yd H
        clear H
        have p358 : 0 ≤ (x7_2 : Int) := Y9
        have q358 : x7_2 < (l0.length : Int) := Y9
        obtain ⟨ad358,e358,hx358_0,hx358_1,hx358_2,hx358_3,hx358_4,hx358_5⟩ := at_T26 HR0.out x7_2 p358 q358
        cases e358
        replace hx358_0 := Y10 HB.out hx358_0
        replace hx358_1 := Y10 HB.out hx358_1
        replace hx358_2 := Y10 HB.out hx358_2
        replace hx358_3 := Y10 HB.out hx358_3
        replace hx358_4 := Y10 HB.out hx358_4
        replace hx358_5 := Y10 HB.out hx358_5
        replace p358 := eq_true p358
        replace q358 := eq_true q358
        have hcz20_0 : wr.cell? ⟨gb346,0,none⟩ = some (.string a1_0) := (blk_cell BK346.out 0).trans rfl
        have hcz20_1 : wr.cell? ⟨gb346,1,none⟩ = some (.int .i64 a1_1) := (blk_cell BK346.out 1).trans rfl
        have hcz20_2 : wr.cell? ⟨gb346,2,none⟩ = some (.int .i64 a1_2) := (blk_cell BK346.out 2).trans rfl
        have hcz20_3 : wr.cell? ⟨gb346,3,none⟩ = some (.int .i64 a1_3) := (blk_cell BK346.out 3).trans rfl
        have hcz20_4 : wr.cell? ⟨gb346,4,none⟩ = some (.int .i64 a1_4) := (blk_cell BK346.out 4).trans rfl
        have hcz20_5 : wr.cell? ⟨gb346,5,none⟩ = some (.int .i64 a1_5) := (blk_cell BK346.out 5).trans rfl
        have hfz20_0 := blk_frozen BK346.out 0
        have hfz20_1 := blk_frozen BK346.out 1
        have hfz20_2 := blk_frozen BK346.out 2
        have hfz20_3 := blk_frozen BK346.out 3
        have hfz20_4 := blk_frozen BK346.out 4
        have hfz20_5 := blk_frozen BK346.out 5
        have p359 : 0 ≤ (x7_2 : Int) := Y9
        have q359 : x7_2 < (l0.length : Int) := Y9
        obtain ⟨ad359,e359,hx359_0,hx359_1,hx359_2,hx359_3,hx359_4,hx359_5⟩ := at_T26 HR0.out x7_2 p359 q359
        obtain rfl : ad358 = ad359 := (by injection e359)
        replace hx359_0 := Y10 HB.out hx359_0
        replace hx359_1 := Y10 HB.out hx359_1
        replace hx359_2 := Y10 HB.out hx359_2
        replace hx359_3 := Y10 HB.out hx359_3
        replace hx359_4 := Y10 HB.out hx359_4
        replace hx359_5 := Y10 HB.out hx359_5
        replace p359 := eq_true p359
        replace q359 := eq_true q359
        go_wp2_with (first | ((with_reducible refine gate_builtin (b := .append) (xs := #[.tmp 48,.tmp 53]) rfl ?_);at_builtin;refine Kd.R_append k26 (w0 := w) w.heap.size rfl (.tmp 48) (.tmp 53) 22 26 (.agg #[(.string ⟨#[]⟩),(.int .i64 0),(.int .i64 0),(.int .i64 0),(.int .i64 0),(.int .i64 0)]) 56 rfl Try.underlying22 info26 rfl (by decide) (by omega) u5 x5_2 (⟨(rd_T26 l0 x7_2).f0,(rd_T26 l0 x7_2).f1,(rd_T26 l0 x7_2).f2,(⟨(rd_T26 l0 x7_2).f3.f0,(rd_T26 l0 x7_2).f3.f1⟩ : S24),(rd_T26 l0 x7_2).f4⟩ : S26) [.string ((rd_T26 l0 x7_2).f0),.int .i64 ((rd_T26 l0 x7_2).f1),.int .i64 ((rd_T26 l0 x7_2).f2),.int .i64 ((rd_T26 l0 x7_2).f3.f0),.int .i64 ((rd_T26 l0 x7_2).f3.f1),.int .i64 ((rd_T26 l0 x7_2).f4)] (fun k_ => k_ ≠ gb346) (fun _ => False) rfl rfl ?aP (fun _ hk => hk.elim) ?aF ?aO ?aB ?aS ?aL ?_;(case aP => exact k26_mkM _ _ _ (⟨(rd_T26 l0 x7_2).f0,(rd_T26 l0 x7_2).f1,(rd_T26 l0 x7_2).f2,(⟨(rd_T26 l0 x7_2).f3.f0,(rd_T26 l0 x7_2).f3.f1⟩ : S24),(rd_T26 l0 x7_2).f4⟩ : S26));(case aB => exact (by first | exact Y4 HB.out GE346.out | exact Y3 HB.out));(case aF => exact (fun k_ hk => Kd.freshB (g := gb346) (o := .cells #[.string a1_0,.int .i64 a1_1,.int .i64 a1_2,.int .i64 a1_3,.int .i64 a1_4,.int .i64 a1_5] 26 (0,0)) (Y6 BK346.out) k_ hk));(case aO => exact (Y5 HO_5.out));(case aS => exact (below_size (by first | exact Y4 HB.out GE346.out | exact Y3 HB.out)));(case aL => have := LMc19.out;omega);intro v361 w21 ho hb hg hat;rw [← Ny360.out] at ho;have n0_ := Yd (blk_grown (g := gb346) (o := .cells #[.string a1_0,.int .i64 a1_1,.int .i64 a1_2,.int .i64 a1_3,.int .i64 a1_4,.int .i64 a1_5] 26 (0,0)) (Y6 BK346.out) hg (Kd.R_away HO_5.out (fun _ hk => hk)));have n1_ := Yd (hb);have n2_ := Yd (ho);clear BK346;clear HB;clear HO_5;have BK346 := n0_;have HB := n1_;have HO362 := n2_;clear n0_ n1_ n2_;clear ho hb hg hat))
        repeat (go_quiet (first | ((with_reducible refine gate_builtin (b := .append) (xs := #[.tmp 48,.tmp 53]) rfl ?_);at_builtin;refine Kd.R_append k26 (w0 := w) w.heap.size rfl (.tmp 48) (.tmp 53) 22 26 (.agg #[(.string ⟨#[]⟩),(.int .i64 0),(.int .i64 0),(.int .i64 0),(.int .i64 0),(.int .i64 0)]) 56 rfl Try.underlying22 info26 rfl (by decide) (by omega) u5 x5_2 (⟨(rd_T26 l0 x7_2).f0,(rd_T26 l0 x7_2).f1,(rd_T26 l0 x7_2).f2,(⟨(rd_T26 l0 x7_2).f3.f0,(rd_T26 l0 x7_2).f3.f1⟩ : S24),(rd_T26 l0 x7_2).f4⟩ : S26) [.string ((rd_T26 l0 x7_2).f0),.int .i64 ((rd_T26 l0 x7_2).f1),.int .i64 ((rd_T26 l0 x7_2).f2),.int .i64 ((rd_T26 l0 x7_2).f3.f0),.int .i64 ((rd_T26 l0 x7_2).f3.f1),.int .i64 ((rd_T26 l0 x7_2).f4)] (fun k_ => k_ ≠ gb346) (fun _ => False) rfl rfl ?aP (fun _ hk => hk.elim) ?aF ?aO ?aB ?aS ?aL ?_;(case aP => exact k26_mkM _ _ _ (⟨(rd_T26 l0 x7_2).f0,(rd_T26 l0 x7_2).f1,(rd_T26 l0 x7_2).f2,(⟨(rd_T26 l0 x7_2).f3.f0,(rd_T26 l0 x7_2).f3.f1⟩ : S24),(rd_T26 l0 x7_2).f4⟩ : S26));(case aB => exact (by first | exact Y4 HB.out GE346.out | exact Y3 HB.out));(case aF => exact (fun k_ hk => Kd.freshB (g := gb346) (o := .cells #[.string a1_0,.int .i64 a1_1,.int .i64 a1_2,.int .i64 a1_3,.int .i64 a1_4,.int .i64 a1_5] 26 (0,0)) (Y6 BK346.out) k_ hk));(case aO => exact (Y5 HO_5.out));(case aS => exact (below_size (by first | exact Y4 HB.out GE346.out | exact Y3 HB.out)));(case aL => have := LMc19.out;omega);intro v361 w21 ho hb hg hat;rw [← Ny360.out] at ho;have n0_ := Yd (blk_grown (g := gb346) (o := .cells #[.string a1_0,.int .i64 a1_1,.int .i64 a1_2,.int .i64 a1_3,.int .i64 a1_4,.int .i64 a1_5] 26 (0,0)) (Y6 BK346.out) hg (Kd.R_away HO_5.out (fun _ hk => hk)));have n1_ := Yd (hb);have n2_ := Yd (ho);clear BK346;clear HB;clear HO_5;have BK346 := n0_;have HB := n1_;have HO362 := n2_;clear n0_ n1_ n2_;clear ho hb hg hat));try go_wp2_with (first | ((with_reducible refine gate_builtin (b := .append) (xs := #[.tmp 48,.tmp 53]) rfl ?_);at_builtin;refine Kd.R_append k26 (w0 := w) w.heap.size rfl (.tmp 48) (.tmp 53) 22 26 (.agg #[(.string ⟨#[]⟩),(.int .i64 0),(.int .i64 0),(.int .i64 0),(.int .i64 0),(.int .i64 0)]) 56 rfl Try.underlying22 info26 rfl (by decide) (by omega) u5 x5_2 (⟨(rd_T26 l0 x7_2).f0,(rd_T26 l0 x7_2).f1,(rd_T26 l0 x7_2).f2,(⟨(rd_T26 l0 x7_2).f3.f0,(rd_T26 l0 x7_2).f3.f1⟩ : S24),(rd_T26 l0 x7_2).f4⟩ : S26) [.string ((rd_T26 l0 x7_2).f0),.int .i64 ((rd_T26 l0 x7_2).f1),.int .i64 ((rd_T26 l0 x7_2).f2),.int .i64 ((rd_T26 l0 x7_2).f3.f0),.int .i64 ((rd_T26 l0 x7_2).f3.f1),.int .i64 ((rd_T26 l0 x7_2).f4)] (fun k_ => k_ ≠ gb346) (fun _ => False) rfl rfl ?aP (fun _ hk => hk.elim) ?aF ?aO ?aB ?aS ?aL ?_;(case aP => exact k26_mkM _ _ _ (⟨(rd_T26 l0 x7_2).f0,(rd_T26 l0 x7_2).f1,(rd_T26 l0 x7_2).f2,(⟨(rd_T26 l0 x7_2).f3.f0,(rd_T26 l0 x7_2).f3.f1⟩ : S24),(rd_T26 l0 x7_2).f4⟩ : S26));(case aB => exact (by first | exact Y4 HB.out GE346.out | exact Y3 HB.out));(case aF => exact (fun k_ hk => Kd.freshB (g := gb346) (o := .cells #[.string a1_0,.int .i64 a1_1,.int .i64 a1_2,.int .i64 a1_3,.int .i64 a1_4,.int .i64 a1_5] 26 (0,0)) (Y6 BK346.out) k_ hk));(case aO => exact (Y5 HO_5.out));(case aS => exact (below_size (by first | exact Y4 HB.out GE346.out | exact Y3 HB.out)));(case aL => have := LMc19.out;omega);intro v361 w21 ho hb hg hat;rw [← Ny360.out] at ho;have n0_ := Yd (blk_grown (g := gb346) (o := .cells #[.string a1_0,.int .i64 a1_1,.int .i64 a1_2,.int .i64 a1_3,.int .i64 a1_4,.int .i64 a1_5] 26 (0,0)) (Y6 BK346.out) hg (Kd.R_away HO_5.out (fun _ hk => hk)));have n1_ := Yd (hb);have n2_ := Yd (ho);clear BK346;clear HB;clear HO_5;have BK346 := n0_;have HB := n1_;have HO362 := n2_;clear n0_ n1_ n2_;clear ho hb hg hat)))
        go_roundg k2
        case measure => have := HK1.out;have := HK2.out;omega
        case rel => exact ⟨(y360),(wrap64 (x7_2 + 1)),Y12,H',⟨by have := HK1.out;have := HK2.out;omega⟩,⟨Y5 HO362.out⟩,⟨Y6 BK346.out⟩,⟨by repeat (first | (with_reducible first | exact HB.out | apply below_alloc | apply Y15 | apply below_drew1 | refine below_set ?_ GE346.out) | exact HB.out)⟩⟩
       ·rw [if_neg c18] at H
        have c18b0 : (Op.bytesLess a1_0.toList (((rd_T26 l0 x7_2).f0).toList)) = false := by simpa using c18
        clear c18
        have H' := Yd H
        clear H
        have p358 : 0 ≤ (x7_2 : Int) := Y9
        have q358 : x7_2 < (l0.length : Int) := Y9
        obtain ⟨ad358,e358,hx358_0,hx358_1,hx358_2,hx358_3,hx358_4,hx358_5⟩ := at_T26 HR0.out x7_2 p358 q358
        cases e358
        replace hx358_0 := Y10 HB.out hx358_0
        replace hx358_1 := Y10 HB.out hx358_1
        replace hx358_2 := Y10 HB.out hx358_2
        replace hx358_3 := Y10 HB.out hx358_3
        replace hx358_4 := Y10 HB.out hx358_4
        replace hx358_5 := Y10 HB.out hx358_5
        replace p358 := eq_true p358
        replace q358 := eq_true q358
        have hcz22_0 : wr.cell? ⟨gb346,0,none⟩ = some (.string a1_0) := (blk_cell BK346.out 0).trans rfl
        have hcz22_1 : wr.cell? ⟨gb346,1,none⟩ = some (.int .i64 a1_1) := (blk_cell BK346.out 1).trans rfl
        have hcz22_2 : wr.cell? ⟨gb346,2,none⟩ = some (.int .i64 a1_2) := (blk_cell BK346.out 2).trans rfl
        have hcz22_3 : wr.cell? ⟨gb346,3,none⟩ = some (.int .i64 a1_3) := (blk_cell BK346.out 3).trans rfl
        have hcz22_4 : wr.cell? ⟨gb346,4,none⟩ = some (.int .i64 a1_4) := (blk_cell BK346.out 4).trans rfl
        have hcz22_5 : wr.cell? ⟨gb346,5,none⟩ = some (.int .i64 a1_5) := (blk_cell BK346.out 5).trans rfl
        have hfz22_0 := blk_frozen BK346.out 0
        have hfz22_1 := blk_frozen BK346.out 1
        have hfz22_2 := blk_frozen BK346.out 2
        have hfz22_3 := blk_frozen BK346.out 3
        have hfz22_4 := blk_frozen BK346.out 4
        have hfz22_5 := blk_frozen BK346.out 5
        go_wp2
        repeat (go_quiet (fail);try go_wp2)
        go_roundg k2
        case measure => have := HK1.out;have := HK2.out;omega
        case rel => exact ⟨(x5_2),(wrap64 (x7_2 + 1)),Y12,H',⟨by have := HK1.out;have := HK2.out;omega⟩,⟨Y5 HO_5.out⟩,⟨Y6 BK346.out⟩,⟨by repeat (first | (with_reducible first | exact HB.out | apply below_alloc | apply Y15 | apply below_drew1 | refine below_set ?_ GE346.out) | exact HB.out)⟩⟩
      ·rw [if_neg c16] at H
       have c16b0 : decide (x7_2 < (l0.length : Int)) = false := decide_eq_false c16
       clear c16
       obtain rfl := Option.some.inj H
       go_wp2
       repeat (go_quiet (fail);try go_wp2)
       go_ret
       exact ⟨_,by first | rfl | (simp [errW_none,errW_some] <;> rfl) | (simp [*,errW_none,errW_some] <;> rfl),by (with_reducible repeat (first | apply Kd.R_alloc | apply Kd.R_drewN | apply Kd.R_drew));exact Kd.R_mono HO_5.out (fun _ hk => trivial),by repeat (first | (with_reducible first | exact HB.out | apply below_alloc | apply Y15 | apply below_drew1 | refine below_set ?_ GE346.out) | exact HB.out)⟩
def plenumref34_Same.l0 : Nat → List (S26) → List (S26) → Int → Option (Bool)
 | 0,_,_,_ => none
 | k + 1,x0,x1,x5 => if x5 < (x0.length : Int) then (if 0 ≤ x5 then (if x5 < (x1.length : Int) then (if (!((((rd_T26 x0 x5).f0).toList) == (((rd_T26 x1 x5).f0).toList)) || (!(((rd_T26 x0 x5).f1) == ((rd_T26 x1 x5).f1)) || (!(((rd_T26 x0 x5).f2) == ((rd_T26 x1 x5).f2)) || ((!(((rd_T26 x0 x5).f3.f0) == ((rd_T26 x1 x5).f3.f0)) || (!(((rd_T26 x0 x5).f3.f1) == ((rd_T26 x1 x5).f3.f1)))) || (!(((rd_T26 x0 x5).f4) == ((rd_T26 x1 x5).f4))))))) = true then (some false) else (plenumref34_Same.l0 k x0 x1 (wrap64 (x5 + 1)))) else (none)) else (none)) else (some true)
def plenumref34_Same.f (k : Nat) (l0 : List (S26)) (l1 : List (S26)) : Option (Bool) := if (l0.length : Int) = (l1.length : Int) then (plenumref34_Same.l0 k l0 l1 0) else (some false)
theorem plenumref34_Same.mono_l : ∀ k,(∀ y0 y1 y2,LeO (plenumref34_Same.l0 k y0 y1 y2) (plenumref34_Same.l0 (k + 1) y0 y1 y2))
 | 0 => fun _ _ _ r h => by simp [plenumref34_Same.l0] at h
 | k + 1 => by
  have ih0 := plenumref34_Same.mono_l k
  ·intro y0 y1 y2
   unfold plenumref34_Same.l0
   repeat' first
   | (with_reducible exact ih0 _ _ _)
   | (with_reducible exact LeO.refl _)
   | (with_reducible exact LeO.none _)
   | (with_reducible refine LeO.ite ?_ ?_)
   | (with_reducible refine LeO.bind ?_ (fun _ => ?_))
   | exact ih0 _ _ _
   | exact LeO.none _
   | refine LeO.ite ?_ ?_
   | refine LeO.bind ?_ (fun _ => ?_)
theorem plenumref34_Same.mono : ∀ a0 a1 k,LeO (plenumref34_Same.f k a0 a1) (plenumref34_Same.f (k + 1) a0 a1) := by
 intro a0 a1 k
 have ih0 := plenumref34_Same.mono_l k
 unfold plenumref34_Same.f
 repeat' first
   | (with_reducible exact ih0 _ _ _)
   | (with_reducible exact LeO.refl _)
   | (with_reducible exact LeO.none _)
   | (with_reducible refine LeO.ite ?_ ?_)
   | (with_reducible refine LeO.bind ?_ (fun _ => ?_))
   | exact ih0 _ _ _
   | exact LeO.none _
   | refine LeO.ite ?_ ?_
   | refine LeO.bind ?_ (fun _ => ?_)
set_option maxHeartbeats 100000000 in
set_option maxRecDepth 100000 in
theorem plenumref34_Same.calls (k : Nat) (A0 : Option Addr) (c0 : Nat) (l0 : List (S26)) (A1 : Option Addr) (c1 : Nat) (l1 : List (S26)) (r : Bool) (w : World) (hr0 : Kd.C k26 w A0 l0.length l0) (hc0 : l0.length ≤ c0) (hr1 : Kd.C k26 w A1 l1.length l1) (hc1 : l1.length ≤ c1) (h : plenumref34_Same.f k l0 l1 = some r) :
  Calls Try.prog 12 #[.slice A0 l0.length c0,.slice A1 l1.length c1] w fun e w' => e = .returned (.bool r) ∧ Drawn0 w w' := by
 have hu26 := Try.underlying26
 have HR0 := Yd hr0
 have HC0 := Yd hc0
 clear hr0 hc0
 have HR1 := Yd hr1
 have HC1 := Yd hc1
 clear hr1 hc1
 have H : (if (l0.length : Int) = (l1.length : Int) then (plenumref34_Same.l0 k l0 l1 0) else (some false)) = some r := h
 clear h
 by_cases c3 : (l0.length : Int) = (l1.length : Int)
 ·rw [if_pos c3] at H
  have c3b0 : ((l0.length : Int) == (l1.length : Int)) = true := beq_iff_eq.mpr c3
  have c3b1 : ((l0.length : Int) != (l1.length : Int)) = false := bne_eq_false_iff_eq.mpr c3
  have c3b2 : (l0.length == l1.length) = true := by first | simpa using c3 | (simp at c3 ⊢;omega)
  clear c3
  have H' := Yd H
  clear H
  go_enter Try.func12,Try.ntmps12
  go_wp2
  repeat (go_quiet (fail);try go_wp2)
  go_loopg [5] k (fun kq v5 w' => ∃ (x5_1 : Int),v5 = .int .i64 x5_1 ∧ Aside0 (plenumref34_Same.l0 kq l0 l1 x5_1 = some r) ∧ Aside0 (kq ≤ k) ∧ Drawn0 w w')
  case atStart => exact ⟨(0),Y12,H',⟨Nat.le_refl _⟩,by repeat (first | exact Drawn0.refl _ | apply Drawn0.step)⟩
  case round =>
   clear H'
   try clear c1
   try clear p2
   try clear c3
   try clear c3b0
   try clear c3b1
   try clear c3b2
   obtain ⟨x5_1,rfl,HA,HK1,⟨m1,rfl⟩⟩ := hrel
   cases gk with
   | zero => exact absurd HA.out (by simp [plenumref34_Same.l0])
   | succ k1 =>
    have H := HA.out
    clear HA
    simp only [plenumref34_Same.l0] at H
    by_cases c4 : x5_1 < (l0.length : Int)
    ·rw [if_pos c4] at H
     have c4b0 : decide (x5_1 < (l0.length : Int)) = true := decide_eq_true c4
     clear c4
     by_cases c5 : 0 ≤ x5_1
     case neg => rw [if_neg c5] at H;exact absurd H (by simp)
     rw [if_pos c5] at H
     have c5b0 : decide (0 ≤ x5_1) = true := decide_eq_true c5
     clear c5
     by_cases c6 : x5_1 < (l1.length : Int)
     case neg => rw [if_neg c6] at H;exact absurd H (by simp)
     rw [if_pos c6] at H
     have c6b0 : decide (x5_1 < (l1.length : Int)) = true := decide_eq_true c6
     clear c6
     by_cases c7 : (!((((rd_T26 l0 x5_1).f0).toList) == (((rd_T26 l1 x5_1).f0).toList)) || (!(((rd_T26 l0 x5_1).f1) == ((rd_T26 l1 x5_1).f1)) || (!(((rd_T26 l0 x5_1).f2) == ((rd_T26 l1 x5_1).f2)) || ((!(((rd_T26 l0 x5_1).f3.f0) == ((rd_T26 l1 x5_1).f3.f0)) || (!(((rd_T26 l0 x5_1).f3.f1) == ((rd_T26 l1 x5_1).f3.f1)))) || (!(((rd_T26 l0 x5_1).f4) == ((rd_T26 l1 x5_1).f4))))))) = true
     ·rw [if_pos c7] at H
      have c7b0 : (!((((rd_T26 l0 x5_1).f0).toList) == (((rd_T26 l1 x5_1).f0).toList)) || (!(((rd_T26 l0 x5_1).f1) == ((rd_T26 l1 x5_1).f1)) || (!(((rd_T26 l0 x5_1).f2) == ((rd_T26 l1 x5_1).f2)) || ((!(((rd_T26 l0 x5_1).f3.f0) == ((rd_T26 l1 x5_1).f3.f0)) || (!(((rd_T26 l0 x5_1).f3.f1) == ((rd_T26 l1 x5_1).f3.f1)))) || (!(((rd_T26 l0 x5_1).f4) == ((rd_T26 l1 x5_1).f4))))))) = true := c7
      clear c7
      obtain rfl := Option.some.inj H
      have p363 : 0 ≤ (x5_1 : Int) := Y9
      have q363 : x5_1 < (l0.length : Int) := Y9
      obtain ⟨ad363,e363,hx363_0,hx363_1,hx363_2,hx363_3,hx363_4,hx363_5⟩ := at_T26 HR0.out x5_1 p363 q363
      cases e363
      replace p363 := eq_true p363
      replace q363 := eq_true q363
      have p364 : 0 ≤ (x5_1 : Int) := Y9
      have q364 : x5_1 < (l1.length : Int) := Y9
      obtain ⟨ad364,e364,hx364_0,hx364_1,hx364_2,hx364_3,hx364_4,hx364_5⟩ := at_T26 HR1.out x5_1 p364 q364
      cases e364
      replace p364 := eq_true p364
      replace q364 := eq_true q364
      go_wp2
      repeat (go_quiet (fail);try go_wp2)
      go_ret
      exact ⟨by first | rfl | (simp;done) | (simp [*];done),by repeat (first | exact Drawn0.refl _ | apply Drawn0.step)⟩
     ·rw [if_neg c7] at H
      have c7b0 : (!((((rd_T26 l0 x5_1).f0).toList) == (((rd_T26 l1 x5_1).f0).toList)) || (!(((rd_T26 l0 x5_1).f1) == ((rd_T26 l1 x5_1).f1)) || (!(((rd_T26 l0 x5_1).f2) == ((rd_T26 l1 x5_1).f2)) || ((!(((rd_T26 l0 x5_1).f3.f0) == ((rd_T26 l1 x5_1).f3.f0)) || (!(((rd_T26 l0 x5_1).f3.f1) == ((rd_T26 l1 x5_1).f3.f1)))) || (!(((rd_T26 l0 x5_1).f4) == ((rd_T26 l1 x5_1).f4))))))) = false := by simpa using c7
      clear c7
      have H' := Yd H
      clear H
      have p363 : 0 ≤ (x5_1 : Int) := Y9
      have q363 : x5_1 < (l0.length : Int) := Y9
      obtain ⟨ad363,e363,hx363_0,hx363_1,hx363_2,hx363_3,hx363_4,hx363_5⟩ := at_T26 HR0.out x5_1 p363 q363
      cases e363
      replace p363 := eq_true p363
      replace q363 := eq_true q363
      have p364 : 0 ≤ (x5_1 : Int) := Y9
      have q364 : x5_1 < (l1.length : Int) := Y9
      obtain ⟨ad364,e364,hx364_0,hx364_1,hx364_2,hx364_3,hx364_4,hx364_5⟩ := at_T26 HR1.out x5_1 p364 q364
      cases e364
      replace p364 := eq_true p364
      replace q364 := eq_true q364
      go_wp2
      repeat (go_quiet (fail);try go_wp2)
      go_roundg k1
      case measure => have := HK1.out;omega
      case rel => exact ⟨(wrap64 (x5_1 + 1)),Y12,H',⟨by have := HK1.out;omega⟩,by repeat (first | exact Drawn0.refl _ | apply Drawn0.step)⟩
    ·rw [if_neg c4] at H
     have c4b0 : decide (x5_1 < (l0.length : Int)) = false := decide_eq_false c4
     clear c4
     obtain rfl := Option.some.inj H
     go_wp2
     repeat (go_quiet (fail);try go_wp2)
     go_ret
     exact ⟨by first | rfl | (simp;done) | (simp [*];done),by repeat (first | exact Drawn0.refl _ | apply Drawn0.step)⟩
 ·rw [if_neg c3] at H
  have c3b0 : ((l0.length : Int) == (l1.length : Int)) = false := beq_eq_false_iff_ne.mpr c3
  have c3b1 : ((l0.length : Int) != (l1.length : Int)) = true := bne_iff_ne.mpr c3
  have c3b2 : (l0.length == l1.length) = false := by first | simpa using c3 | (simp at c3 ⊢;omega)
  obtain rfl := Option.some.inj H
  go_enter Try.func12,Try.ntmps12
  go_wp2
  repeat (go_quiet (fail);try go_wp2)
  go_ret
  exact ⟨by first | rfl | (simp;done) | (simp [*];done),by repeat (first | exact Drawn0.refl _ | apply Drawn0.step)⟩
def plenumref34_Remove.l0 : Nat → List (S26) → ByteArray → List (S26) → Int → Option ((List (S26)))
 | 0,_,_,_,_ => none
 | k + 1,x0,x1,x5,x6 => if x6 < (x0.length : Int) then (if 0 ≤ x6 then (if ((rd_T26 x0 x6).f0).toList = x1.toList then (plenumref34_Remove.l0 k x0 x1 x5 (wrap64 (x6 + 1))) else (if x5.length < 2513169434916 then (plenumref34_Remove.l0 k x0 x1 (x5 ++ [(⟨(rd_T26 x0 x6).f0,(rd_T26 x0 x6).f1,(rd_T26 x0 x6).f2,(⟨(rd_T26 x0 x6).f3.f0,(rd_T26 x0 x6).f3.f1⟩ : S24),(rd_T26 x0 x6).f4⟩ : S26)]) (wrap64 (x6 + 1))) else (none))) else (none)) else (some x5)
def plenumref34_Remove.f (k : Nat) (l0 : List (S26)) (a1 : ByteArray) : Option ((List (S26))) := plenumref34_Remove.l0 k l0 a1 (([] : List (S26))) 0
theorem plenumref34_Remove.mono_l : ∀ k,(∀ y0 y1 y2 y3,LeO (plenumref34_Remove.l0 k y0 y1 y2 y3) (plenumref34_Remove.l0 (k + 1) y0 y1 y2 y3))
 | 0 => fun _ _ _ _ r h => by simp [plenumref34_Remove.l0] at h
 | k + 1 => by
  have ih0 := plenumref34_Remove.mono_l k
  ·intro y0 y1 y2 y3
   unfold plenumref34_Remove.l0
   repeat' first
   | (with_reducible exact ih0 _ _ _ _)
   | (with_reducible exact LeO.refl _)
   | (with_reducible exact LeO.none _)
   | (with_reducible refine LeO.ite ?_ ?_)
   | (with_reducible refine LeO.bind ?_ (fun _ => ?_))
   | exact ih0 _ _ _ _
   | exact LeO.none _
   | refine LeO.ite ?_ ?_
   | refine LeO.bind ?_ (fun _ => ?_)
theorem plenumref34_Remove.mono : ∀ a0 a1 k,LeO (plenumref34_Remove.f k a0 a1) (plenumref34_Remove.f (k + 1) a0 a1) := by
 intro a0 a1 k
 have ih0 := plenumref34_Remove.mono_l k
 unfold plenumref34_Remove.f
 repeat' first
   | (with_reducible exact ih0 _ _ _ _)
   | (with_reducible exact LeO.refl _)
   | (with_reducible exact LeO.none _)
   | (with_reducible refine LeO.ite ?_ ?_)
   | (with_reducible refine LeO.bind ?_ (fun _ => ?_))
   | exact ih0 _ _ _ _
   | exact LeO.none _
   | refine LeO.ite ?_ ?_
   | refine LeO.bind ?_ (fun _ => ?_)
set_option maxHeartbeats 100000000 in
set_option maxRecDepth 100000 in
theorem plenumref34_Remove.calls (k : Nat) (A0 : Option Addr) (c0 : Nat) (l0 : List (S26)) (a1 : ByteArray) (r : List (S26)) (w : World) (hr0 : Kd.C k26 w A0 l0.length l0) (hc0 : l0.length ≤ c0) (h : plenumref34_Remove.f k l0 a1 = some r) :
  Calls Try.prog 13 #[.slice A0 l0.length c0,.string a1] w fun e w' => ∃ v0_ : Value,e = .returned (v0_) ∧ Kd.R k26 26 w' w.heap.size (fun _ => True) v0_ r ∧ Below w.heap.size w w' := by
 have hu26 := Try.underlying26
 have HR0 := Yd hr0
 have HC0 := Yd hc0
 clear hr0 hc0
 have HB := Yd (Below.refl w.heap.size w)
 have H : (plenumref34_Remove.l0 k l0 a1 (([] : List (S26))) 0) = some r := h
 clear h
 obtain ⟨y365,hy365⟩ : ∃ y_ : List (S26),y_ = (([] : List (S26))) := ⟨_,rfl⟩
 replace H : (plenumref34_Remove.l0 k l0 a1 y365 0) = some r := by first | (rw [hy365];with_reducible exact H) | (have H2_ := (Option.bind_some _ _).symm.trans H;rw [hy365];with_reducible exact H2_) | (have H2_ := (Option.bind_some _ _).symm.trans H;with_reducible exact H2_) | with_reducible exact H | (rw [hy365];exact H) | exact H
 have Ny365 := Yd hy365
 clear hy365
 have H' := Yd H
 clear H
 go_enter Try.func13,Try.ntmps13
 go_wp2_with (first | ((with_reducible refine gate_dst (N := 7) rfl ?_);refine Kd.R_lit k26 _ 26 ?hg (N := 7) ?hd (xs := ([] : List (S26))) (inner := []) (ok := fun _ => True) (okp := fun _ => True) ?hr ?hp (fun _ hk => hk) trivial (Below.refl _ _) (Nat.le_refl _) (by simp) ?_;(case hd => rfl);(case hg => rfl);(case hr => first | (go_simp;done) | (go_simp;rfl));(case hp => exact (Reps.none _ _));intro v366 w3 ho4 hb hg_ hnew_;clear hg_ hnew_;(first | rw [← Ny365.out] at ho4 | (simp only [Int.reduceToNat] at ho4;rw [← Ny365.out] at ho4));have n0_ := Yd (Kd.R_lower ho4 (below_size (Y3 HB.out)));have n1_ := Yd (below_step (Y3 HB.out) hb);clear HB;have HO367 := n0_;have HB := n1_;clear n0_ n1_;clear hb ho4))
 go_loopg [5,6] k (fun kq v5 v6 w' => ∃ (x5_1 : List (S26)) (x6_1 : Int),v6 = .int .i64 x6_1 ∧ Aside0 (plenumref34_Remove.l0 kq l0 a1 x5_1 x6_1 = some r) ∧ Aside0 (kq ≤ k) ∧ Aside0 (Kd.R k26 26 w' w.heap.size (fun _ => True) v5 x5_1) ∧ Aside0 (Below w.heap.size w w'))
 case atStart => exact ⟨(y365),(0),Y12,H',⟨Nat.le_refl _⟩,⟨Y5 HO367.out⟩,⟨Y3 HB.out⟩⟩
 case round =>
  clear H'
  try clear c1
  try clear p2
  obtain ⟨x5_1,x6_1,rfl,HA,HK1,HO_5,HB⟩ := hrel
  cases gk with
  | zero => exact absurd HA.out (by simp [plenumref34_Remove.l0])
  | succ k1 =>
   have H := HA.out
   clear HA
   simp only [plenumref34_Remove.l0] at H
   by_cases c5 : x6_1 < (l0.length : Int)
   ·rw [if_pos c5] at H
    have c5b0 : decide (x6_1 < (l0.length : Int)) = true := decide_eq_true c5
    clear c5
    by_cases c6 : 0 ≤ x6_1
    case neg => rw [if_neg c6] at H;exact absurd H (by simp)
    rw [if_pos c6] at H
    have c6b0 : decide (0 ≤ x6_1) = true := decide_eq_true c6
    clear c6
    by_cases c7 : ((rd_T26 l0 x6_1).f0).toList = a1.toList
    ·rw [if_pos c7] at H
     have c7b0 : (((rd_T26 l0 x6_1).f0).toList == a1.toList) = true := beq_iff_eq.mpr c7
     have c7b1 : (((rd_T26 l0 x6_1).f0).toList != a1.toList) = false := bne_eq_false_iff_eq.mpr c7
     clear c7
     have H' := Yd H
     clear H
     have p368 : 0 ≤ (x6_1 : Int) := Y9
     have q368 : x6_1 < (l0.length : Int) := Y9
     obtain ⟨ad368,e368,hx368_0,hx368_1,hx368_2,hx368_3,hx368_4,hx368_5⟩ := at_T26 HR0.out x6_1 p368 q368
     cases e368
     replace hx368_0 := Y10 HB.out hx368_0
     replace hx368_1 := Y10 HB.out hx368_1
     replace hx368_2 := Y10 HB.out hx368_2
     replace hx368_3 := Y10 HB.out hx368_3
     replace hx368_4 := Y10 HB.out hx368_4
     replace hx368_5 := Y10 HB.out hx368_5
     replace p368 := eq_true p368
     replace q368 := eq_true q368
     go_wp2
     go_roundg k1
     case measure => have := HK1.out;omega
     case rel => exact ⟨(x5_1),(wrap64 (x6_1 + 1)),Y12,H',⟨by have := HK1.out;omega⟩,⟨Y5 HO_5.out⟩,⟨Y3 HB.out⟩⟩
    ·rw [if_neg c7] at H
     have c7b0 : (((rd_T26 l0 x6_1).f0).toList == a1.toList) = false := beq_eq_false_iff_ne.mpr c7
     have c7b1 : (((rd_T26 l0 x6_1).f0).toList != a1.toList) = true := bne_iff_ne.mpr c7
     by_cases c8 : x5_1.length < 2513169434916
     case neg => rw [if_neg c8] at H;exact absurd H (by simp)
     rw [if_pos c8] at H
     have LMc8 := Yd c8
     clear c8
     obtain ⟨y370,hy370⟩ : ∃ y_ : List (S26),y_ = (x5_1 ++ [(⟨(rd_T26 l0 x6_1).f0,(rd_T26 l0 x6_1).f1,(rd_T26 l0 x6_1).f2,(⟨(rd_T26 l0 x6_1).f3.f0,(rd_T26 l0 x6_1).f3.f1⟩ : S24),(rd_T26 l0 x6_1).f4⟩ : S26)]) := ⟨_,rfl⟩
     replace H : (plenumref34_Remove.l0 k1 l0 a1 y370 (wrap64 (x6_1 + 1))) = some r := by first | (rw [hy370];with_reducible exact H) | (have H2_ := (Option.bind_some _ _).symm.trans H;rw [hy370];with_reducible exact H2_) | (have H2_ := (Option.bind_some _ _).symm.trans H;with_reducible exact H2_) | with_reducible exact H | (rw [hy370];exact H) | exact H
     have Ny370 := Yd hy370
     clear hy370
     have H' := Yd H
     clear H
     have p368 : 0 ≤ (x6_1 : Int) := Y9
     have q368 : x6_1 < (l0.length : Int) := Y9
     obtain ⟨ad368,e368,hx368_0,hx368_1,hx368_2,hx368_3,hx368_4,hx368_5⟩ := at_T26 HR0.out x6_1 p368 q368
     cases e368
     replace hx368_0 := Y10 HB.out hx368_0
     replace hx368_1 := Y10 HB.out hx368_1
     replace hx368_2 := Y10 HB.out hx368_2
     replace hx368_3 := Y10 HB.out hx368_3
     replace hx368_4 := Y10 HB.out hx368_4
     replace hx368_5 := Y10 HB.out hx368_5
     replace p368 := eq_true p368
     replace q368 := eq_true q368
     have p369 : 0 ≤ (x6_1 : Int) := Y9
     have q369 : x6_1 < (l0.length : Int) := Y9
     obtain ⟨ad369,e369,hx369_0,hx369_1,hx369_2,hx369_3,hx369_4,hx369_5⟩ := at_T26 HR0.out x6_1 p369 q369
     obtain rfl : ad368 = ad369 := (by injection e369)
     replace hx369_0 := Y10 HB.out hx369_0
     replace hx369_1 := Y10 HB.out hx369_1
     replace hx369_2 := Y10 HB.out hx369_2
     replace hx369_3 := Y10 HB.out hx369_3
     replace hx369_4 := Y10 HB.out hx369_4
     replace hx369_5 := Y10 HB.out hx369_5
     replace p369 := eq_true p369
     replace q369 := eq_true q369
     go_wp2_with (first | ((with_reducible refine gate_builtin (b := .append) (xs := #[.tmp 21,.tmp 26]) rfl ?_);at_builtin;refine Kd.R_append k26 (w0 := w) w.heap.size rfl (.tmp 21) (.tmp 26) 22 26 (.agg #[(.string ⟨#[]⟩),(.int .i64 0),(.int .i64 0),(.int .i64 0),(.int .i64 0),(.int .i64 0)]) 56 rfl Try.underlying22 info26 rfl (by decide) (by omega) u5 x5_1 (⟨(rd_T26 l0 x6_1).f0,(rd_T26 l0 x6_1).f1,(rd_T26 l0 x6_1).f2,(⟨(rd_T26 l0 x6_1).f3.f0,(rd_T26 l0 x6_1).f3.f1⟩ : S24),(rd_T26 l0 x6_1).f4⟩ : S26) [.string ((rd_T26 l0 x6_1).f0),.int .i64 ((rd_T26 l0 x6_1).f1),.int .i64 ((rd_T26 l0 x6_1).f2),.int .i64 ((rd_T26 l0 x6_1).f3.f0),.int .i64 ((rd_T26 l0 x6_1).f3.f1),.int .i64 ((rd_T26 l0 x6_1).f4)] (fun _ => True) (fun _ => False) rfl rfl ?aP (fun _ hk => hk.elim) ?aF ?aO ?aB ?aS ?aL ?_;(case aP => exact k26_mkM _ _ _ (⟨(rd_T26 l0 x6_1).f0,(rd_T26 l0 x6_1).f1,(rd_T26 l0 x6_1).f2,(⟨(rd_T26 l0 x6_1).f3.f0,(rd_T26 l0 x6_1).f3.f1⟩ : S24),(rd_T26 l0 x6_1).f4⟩ : S26));(case aB => exact (Y3 HB.out));(case aF => exact (fun _ _ => trivial));(case aO => exact (Y5 HO_5.out));(case aS => exact (below_size (Y3 HB.out)));(case aL => have := LMc8.out;omega);intro v371 w9 ho hb hg hat;rw [← Ny370.out] at ho;have n0_ := Yd (hb);have n1_ := Yd (ho);clear HB;clear HO_5;have HB := n0_;have HO372 := n1_;clear n0_ n1_;clear ho hb hg hat))
     go_roundg k1
     case measure => have := HK1.out;omega
     case rel => exact ⟨(y370),(wrap64 (x6_1 + 1)),Y12,H',⟨by have := HK1.out;omega⟩,⟨Y5 HO372.out⟩,⟨Y3 HB.out⟩⟩
   ·rw [if_neg c5] at H
    have c5b0 : decide (x6_1 < (l0.length : Int)) = false := decide_eq_false c5
    clear c5
    obtain rfl := Option.some.inj H
    go_wp2
    go_ret
    exact ⟨_,by first | rfl | (simp [errW_none,errW_some] <;> rfl) | (simp [*,errW_none,errW_some] <;> rfl),by (with_reducible repeat (first | apply Kd.R_alloc | apply Kd.R_drewN | apply Kd.R_drew));exact HO_5.out,Y3 HB.out⟩
end Go.Proofs.Ytaoicdkjjjlmeaa.PD34
