/- Words, contracts and plain laws for this claim, part 2. -/
import Derived.Test.YtaoicdkjjjlmeaaZn1
import Derived.Laws.CopyRow
import Derived.Lib.Overlaps
import Derived.Laws.Externs
import Derived.Lib.JoinLaws
import Derived.Deep.RegionLaw
import Derived.Lib.AppendZerosOnto
import Derived.Laws.NewBlocks
import Derived.Outline
set_option linter.unusedVariables false
set_option linter.unusedSimpArgs false
namespace Go.Proofs.Ytaoicdkjjjlmeaa.PD34
open Go.RowKit Go.Proofs.YtaoicdkjjjlmeaaW.PrintWords Go.Proofs.YtaoicdkjjjlmeaaW.PrintLast Go.Proofs.YtaoicdkjjjlmeaaW.PrintMore
attribute [local go_sem] max2_int min2_int max_two min_two max_three min_three max_four min_four
attribute [local go_sem high] eqA49
def override_ends.l0 : Nat → List Int → List (S26) → Int → Int → Option (List Int)
 | 0,_,_,_,_ => none
 | k + 1,x3,x6,x7,x8 => if x8 < x7 then (if 0 ≤ x8 then (if x8 < (x6.length : Int) then ((some (([(rd_T26 x6 x8).f1,(rd_T26 x6 x8).f2] : List Int) : List Int)).bind fun y169 => (if x3.length + y169.length < 17592186044416 then (override_ends.l0 k (x3 ++ y169) x6 x7 (wrap64 (x8 + 1))) else (none))) else (none)) else (none)) else ((slices_Sort_int_int.f x3).bind fun t175 => (some t175))
def override_ends.f (k : Nat) (l0 : List (S26)) : Option (List Int) := override_ends.l0 k ([] : List Int) l0 (l0.length : Int) 0
theorem override_ends.mono_l : ∀ k,(∀ y0 y1 y2 y3,LeO (override_ends.l0 k y0 y1 y2 y3) (override_ends.l0 (k + 1) y0 y1 y2 y3))
 | 0 => fun _ _ _ _ r h => by simp [override_ends.l0] at h
 | k + 1 => by
  have ih0 := override_ends.mono_l k
  ·intro y0 y1 y2 y3
   unfold override_ends.l0
   repeat' first
   | (with_reducible exact ih0 _ _ _ _)
   | (with_reducible exact LeO.refl _)
   | (with_reducible exact LeO.none _)
   | (with_reducible refine LeO.ite ?_ ?_)
   | (with_reducible refine LeO.bind ?_ (fun _ => ?_))
   | exact ih0 _ _ _ _
   | exact LeO.none _
   | refine LeO.ite ?_ ?_
   | refine LeO.bind ?_ (fun _ => ?_)
theorem override_ends.mono : ∀ a0 k,LeO (override_ends.f k a0) (override_ends.f (k + 1) a0) := by
 intro a0 k
 have ih0 := override_ends.mono_l k
 unfold override_ends.f
 repeat' first
   | (with_reducible exact ih0 _ _ _ _)
   | (with_reducible exact LeO.refl _)
   | (with_reducible exact LeO.none _)
   | (with_reducible refine LeO.ite ?_ ?_)
   | (with_reducible refine LeO.bind ?_ (fun _ => ?_))
   | exact ih0 _ _ _ _
   | exact LeO.none _
   | refine LeO.ite ?_ ?_
   | refine LeO.bind ?_ (fun _ => ?_)
set_option maxHeartbeats 100000000 in
set_option maxRecDepth 100000 in
theorem override_ends.calls (k : Nat) (A0 : Option Addr) (c0 : Nat) (l0 : List (S26)) (r : List Int) (w : World) (hr0 : Kd.C k26 w A0 l0.length l0) (hc0 : l0.length ≤ c0) (h : override_ends.f k l0 = some r) :
  Calls Try.prog 38 #[.slice A0 l0.length c0] w fun e w' => ∃ v0_ : Value,e = .returned (v0_) ∧ Kd.R (Kd.int .i64) 3 w' w.heap.size (fun _ => True) v0_ r ∧ Below w.heap.size w w' := by
 have hu26 := Try.underlying26
 have HR0 := Yd hr0
 have HC0 := Yd hc0
 clear hr0 hc0
 have HB := Yd (Below.refl w.heap.size w)
 have H : (override_ends.l0 k ([] : List Int) l0 (l0.length : Int) 0) = some r := h
 clear h
 have H' := Yd H
 clear H
 go_enter Try.func38,Try.ntmps38
 go_wp2
 go_loopg [3,8] k (fun kq v3 v8 w' => ∃ (x3_1 : List Int) (x8_1 : Int),v8 = .int .i64 x8_1 ∧ Aside0 (override_ends.l0 kq x3_1 l0 (l0.length : Int) x8_1 = some r) ∧ Aside0 (kq ≤ k) ∧ Aside0 (Kd.R (Kd.int .i64) 3 w' w.heap.size (fun _ => True) v3 x3_1) ∧ Aside0 (Below w.heap.size w w'))
 case atStart => exact ⟨(([] : List Int)),(0),Y12,H',⟨Nat.le_refl _⟩,⟨by first | exact Kd.R_nil _ _ _ _ _ | exact Kd.N_nil _ _ _ _ _ | exact Kd.V_nil _ _ _ _ _ | exact Kd.Q_nil _ _ _ _ _ | exact Kd.S_nil _ _ _ _ _⟩,⟨Y3 HB.out⟩⟩
 case round =>
  clear H'
  obtain ⟨x3_1,x8_1,rfl,HA,HK1,HO_3,HB⟩ := hrel
  cases gk with
  | zero => exact absurd HA.out (by simp [override_ends.l0])
  | succ k1 =>
   have H := HA.out
   clear HA
   simp only [override_ends.l0] at H
   by_cases c2 : x8_1 < (l0.length : Int)
   ·rw [if_pos c2] at H
    have c2b0 : decide (x8_1 < (l0.length : Int)) = true := decide_eq_true c2
    clear c2
    by_cases c3 : 0 ≤ x8_1
    case neg => rw [if_neg c3] at H;exact absurd H (by simp)
    rw [if_pos c3] at H
    have c3b0 : decide (0 ≤ x8_1) = true := decide_eq_true c3
    clear c3
    by_cases c4 : x8_1 < (l0.length : Int)
    case neg => rw [if_neg c4] at H;exact absurd H (by simp)
    rw [if_pos c4] at H
    have c4b0 : decide (x8_1 < (l0.length : Int)) = true := decide_eq_true c4
    clear c4
    obtain ⟨y169,hy169⟩ : ∃ y_ : List Int,y_ = (([(rd_T26 l0 x8_1).f1,(rd_T26 l0 x8_1).f2] : List Int)) := ⟨_,rfl⟩
    replace H : (if x3_1.length + y169.length < 17592186044416 then (override_ends.l0 k1 (x3_1 ++ y169) l0 (l0.length : Int) (wrap64 (x8_1 + 1))) else (none)) = some r := by first | (rw [hy169];with_reducible exact H) | (have H2_ := (Option.bind_some _ _).symm.trans H;rw [hy169];with_reducible exact H2_) | (have H2_ := (Option.bind_some _ _).symm.trans H;with_reducible exact H2_) | with_reducible exact H | (rw [hy169];exact H) | exact H
    have Ny169 := Yd hy169
    clear hy169
    by_cases c5 : x3_1.length + y169.length < 17592186044416
    case neg => rw [if_neg c5] at H;exact absurd H (by simp)
    rw [if_pos c5] at H
    have LMc5 := Yd c5
    clear c5
    obtain ⟨y172,hy172⟩ : ∃ y_ : List Int,y_ = (x3_1 ++ y169) := ⟨_,rfl⟩
    replace H : (override_ends.l0 k1 y172 l0 (l0.length : Int) (wrap64 (x8_1 + 1))) = some r := by first | (rw [hy172];with_reducible exact H) | (have H2_ := (Option.bind_some _ _).symm.trans H;rw [hy172];with_reducible exact H2_) | (have H2_ := (Option.bind_some _ _).symm.trans H;with_reducible exact H2_) | with_reducible exact H | (rw [hy172];exact H) | exact H
    have Ny172 := Yd hy172
    clear hy172
    have H' := Yd H
    clear H
    have p167 : 0 ≤ (x8_1 : Int) := Y9
    have q167 : x8_1 < (l0.length : Int) := Y9
    obtain ⟨ad167,e167,hx167_0,hx167_1,hx167_2,hx167_3,hx167_4,hx167_5⟩ := at_T26 HR0.out x8_1 p167 q167
    cases e167
    replace hx167_0 := Y10 HB.out hx167_0
    replace hx167_1 := Y10 HB.out hx167_1
    replace hx167_2 := Y10 HB.out hx167_2
    replace hx167_3 := Y10 HB.out hx167_3
    replace hx167_4 := Y10 HB.out hx167_4
    replace hx167_5 := Y10 HB.out hx167_5
    replace p167 := eq_true p167
    replace q167 := eq_true q167
    go_wp2_with (first | ((with_reducible refine gate_dst (N := 5) rfl ?_);refine box_event ?hg (N := 5) ?hd (cs := #[.string (⟨#[]⟩ : ByteArray),.int .i64 0,.int .i64 0,.int .i64 0,.int .i64 0,.int .i64 0]) (t := 26) ?hr ?_;(case hd => rfl);(case hg => rfl);(case hr => first | (go_simp;done) | (go_simp;rfl));intro gb168 hg w6 hbox hb;have n0_ := Yd (Kd.R_below (Y5 HO_3.out) hb);have n1_ := Yd (below_step (Y3 HB.out) hb);have n2_ := Yd (hbox);have n3_ := Yd ((by rw [hg];exact (below_size (Y3 HB.out)) : w.heap.size ≤ gb168));have n4_ := Yd ((by rw [hg];exact (below_size (Y3 HB.out)) : w.heap.size ≤ gb168));clear HO_3;clear HB;have HO_3 := n0_;have HB := n1_;have BK168 := n2_;have GW168 := n3_;have GE168 := n4_;clear n0_ n1_ n2_ n3_ n4_;clear hb hbox hg;have hcz7_0 : w6.cell? ⟨gb168,0,none⟩ = some (.string (⟨#[]⟩ : ByteArray)) := (blk_cell BK168.out 0).trans rfl;have hcz7_1 : w6.cell? ⟨gb168,1,none⟩ = some (.int .i64 0) := (blk_cell BK168.out 1).trans rfl;have hcz7_2 : w6.cell? ⟨gb168,2,none⟩ = some (.int .i64 0) := (blk_cell BK168.out 2).trans rfl;have hcz7_3 : w6.cell? ⟨gb168,3,none⟩ = some (.int .i64 0) := (blk_cell BK168.out 3).trans rfl;have hcz7_4 : w6.cell? ⟨gb168,4,none⟩ = some (.int .i64 0) := (blk_cell BK168.out 4).trans rfl;have hcz7_5 : w6.cell? ⟨gb168,5,none⟩ = some (.int .i64 0) := (blk_cell BK168.out 5).trans rfl;have hfz7_0 := blk_frozen BK168.out 0;have hfz7_1 := blk_frozen BK168.out 1;have hfz7_2 := blk_frozen BK168.out 2;have hfz7_3 := blk_frozen BK168.out 3;have hfz7_4 := blk_frozen BK168.out 4;have hfz7_5 := blk_frozen BK168.out 5) | ((with_reducible refine gate_dst (N := 17) rfl ?_);refine Kd.R_lit (Kd.int .i64) _ 3 ?hg (N := 17) ?hd (xs := ([(rd_T26 l0 x8_1).f1,(rd_T26 l0 x8_1).f2] : List Int)) (inner := [.int .i64 ((rd_T26 l0 x8_1).f1),.int .i64 ((rd_T26 l0 x8_1).f2)]) (ok := fun _ => True) (okp := fun _ => True) ?hr ?hp (fun _ hk => hk) trivial (Below.refl _ _) (Nat.le_refl _) (by simp) ?_;(case hd => rfl);(case hg => rfl);(case hr => first | (go_simp;done) | (go_simp;rfl));(case hp => exact (Reps.one (show Kd.M (Kd.int .i64) _ _ _ ((rd_T26 l0 x8_1).f1) [.int .i64 ((rd_T26 l0 x8_1).f1)] from rfl) (Reps.one (show Kd.M (Kd.int .i64) _ _ _ ((rd_T26 l0 x8_1).f2) [.int .i64 ((rd_T26 l0 x8_1).f2)] from rfl) (Reps.none _ _))));intro v170 w8 ho9 hb hg_ hnew_;clear hg_ hnew_;(first | rw [← Ny169.out] at ho9 | (simp only [Int.reduceToNat] at ho9;rw [← Ny169.out] at ho9));have n0_ := Yd (Kd.R_elder' (by (with_reducible repeat (first | apply Kd.R_alloc | apply Kd.R_drewN | apply Kd.R_drew));exact (Kd.R_mono (Kd.R_far (p := ⟨gb168,5,none⟩) (Kd.R_far (p := ⟨gb168,4,none⟩) (Kd.R_far (p := ⟨gb168,3,none⟩) (Kd.R_far (p := ⟨gb168,2,none⟩) (Kd.R_far (p := ⟨gb168,1,none⟩) (Kd.R_far (p := ⟨gb168,0,none⟩) (Kd.R_types HO_3.out BK168.out (by decide)) (fun _ hk => hk.2) (.string ((rd_T26 l0 x8_1).f0))) (fun _ hk => hk.2) (.int .i64 ((rd_T26 l0 x8_1).f1))) (fun _ hk => hk.2) (.int .i64 ((rd_T26 l0 x8_1).f2))) (fun _ hk => hk.2) (.int .i64 ((rd_T26 l0 x8_1).f3.f0))) (fun _ hk => hk.2) (.int .i64 ((rd_T26 l0 x8_1).f3.f1))) (fun _ hk => hk.2) (.int .i64 ((rd_T26 l0 x8_1).f4))) (fun _ h_ => h_.1))) (Kd.R_base ho9) hb);have n1_ := Yd (Kd.R_lower (Kd.R_new' ho9 (Kd.R_lt (by (with_reducible repeat (first | apply Kd.R_alloc | apply Kd.R_drewN | apply Kd.R_drew));exact (Kd.R_mono (Kd.R_far (p := ⟨gb168,5,none⟩) (Kd.R_far (p := ⟨gb168,4,none⟩) (Kd.R_far (p := ⟨gb168,3,none⟩) (Kd.R_far (p := ⟨gb168,2,none⟩) (Kd.R_far (p := ⟨gb168,1,none⟩) (Kd.R_far (p := ⟨gb168,0,none⟩) (Kd.R_types HO_3.out BK168.out (by decide)) (fun _ hk => hk.2) (.string ((rd_T26 l0 x8_1).f0))) (fun _ hk => hk.2) (.int .i64 ((rd_T26 l0 x8_1).f1))) (fun _ hk => hk.2) (.int .i64 ((rd_T26 l0 x8_1).f2))) (fun _ hk => hk.2) (.int .i64 ((rd_T26 l0 x8_1).f3.f0))) (fun _ hk => hk.2) (.int .i64 ((rd_T26 l0 x8_1).f3.f1))) (fun _ hk => hk.2) (.int .i64 ((rd_T26 l0 x8_1).f4))) (fun _ h_ => h_.1))))) (below_size (by first | exact Y4 HB.out GE168.out | exact Y3 HB.out)));have n2_ := Yd (blk_below (g := gb168) (o := .cells #[.string ((rd_T26 l0 x8_1).f0),.int .i64 ((rd_T26 l0 x8_1).f1),.int .i64 ((rd_T26 l0 x8_1).f2),.int .i64 ((rd_T26 l0 x8_1).f3.f0),.int .i64 ((rd_T26 l0 x8_1).f3.f1),.int .i64 ((rd_T26 l0 x8_1).f4)] 26 (0,0)) (by (with_reducible repeat (first | refine blk_drewN ?_ _ | refine blk_drew ?_ | refine blk_alloc ?_ _));refine blk_put (cs := #[.string ((rd_T26 l0 x8_1).f0),.int .i64 ((rd_T26 l0 x8_1).f1),.int .i64 ((rd_T26 l0 x8_1).f2),.int .i64 ((rd_T26 l0 x8_1).f3.f0),.int .i64 ((rd_T26 l0 x8_1).f3.f1),.int .i64 0]) ?_ 5 _ rfl;(with_reducible repeat (first | refine blk_drewN ?_ _ | refine blk_drew ?_ | refine blk_alloc ?_ _));refine blk_put (cs := #[.string ((rd_T26 l0 x8_1).f0),.int .i64 ((rd_T26 l0 x8_1).f1),.int .i64 ((rd_T26 l0 x8_1).f2),.int .i64 ((rd_T26 l0 x8_1).f3.f0),.int .i64 0,.int .i64 0]) ?_ 4 _ rfl;(with_reducible repeat (first | refine blk_drewN ?_ _ | refine blk_drew ?_ | refine blk_alloc ?_ _));refine blk_put (cs := #[.string ((rd_T26 l0 x8_1).f0),.int .i64 ((rd_T26 l0 x8_1).f1),.int .i64 ((rd_T26 l0 x8_1).f2),.int .i64 0,.int .i64 0,.int .i64 0]) ?_ 3 _ rfl;(with_reducible repeat (first | refine blk_drewN ?_ _ | refine blk_drew ?_ | refine blk_alloc ?_ _));refine blk_put (cs := #[.string ((rd_T26 l0 x8_1).f0),.int .i64 ((rd_T26 l0 x8_1).f1),.int .i64 0,.int .i64 0,.int .i64 0,.int .i64 0]) ?_ 2 _ rfl;(with_reducible repeat (first | refine blk_drewN ?_ _ | refine blk_drew ?_ | refine blk_alloc ?_ _));refine blk_put (cs := #[.string ((rd_T26 l0 x8_1).f0),.int .i64 0,.int .i64 0,.int .i64 0,.int .i64 0,.int .i64 0]) ?_ 1 _ rfl;(with_reducible repeat (first | refine blk_drewN ?_ _ | refine blk_drew ?_ | refine blk_alloc ?_ _));refine blk_put (cs := #[.string (⟨#[]⟩ : ByteArray),.int .i64 0,.int .i64 0,.int .i64 0,.int .i64 0,.int .i64 0]) ?_ 0 _ rfl;(with_reducible repeat (first | refine blk_drewN ?_ _ | refine blk_drew ?_ | refine blk_alloc ?_ _));exact BK168.out) hb);have n3_ := Yd (below_step (by first | exact Y4 HB.out GE168.out | exact Y3 HB.out) hb);clear HO_3;clear BK168;clear HB;have HO_3 := n0_;have HO171 := n1_;have BK168 := n2_;have HB := n3_;clear n0_ n1_ n2_ n3_;clear hb ho9;obtain ⟨Ao11,co11,eo11⟩ := Kd.R_slice HO171.out;subst eo11) | ((with_reducible refine gate_builtin (b := .append) (xs := #[.tmp 12,.tmp 17]) rfl ?_);at_builtin;refine Kd.R_append_rows (Kd.int .i64) (w0 := w) w.heap.size rfl (.tmp 12) (.tmp 17) 58 3 (.int .i64 0) 8 rfl Try.underlying58 info3 rfl (by decide) (by omega) u3 x3_1 y169 _ _ _ (fun k_ => some k_ ≠ (.slice Ao11 y169.length co11 : Value).ownBlock) (fun _ => False) rfl rfl ?aO ?aR (fun _ _ h => h) (fun _ h => h.elim) ?aF ?aB ?aS ?aL ?_;(case aR => repeat (first | exact (Kd.R_reads' HO171.out).2.2 | (with_reducible refine Kd.C_alloc ?_ _) | (with_reducible refine Kd.C_drewN ?_ _) | (with_reducible refine Kd.C_drew ?_)));(case aB => exact (by first | exact Y4 HB.out GE168.out | exact Y3 HB.out));(case aF => exact (fun k_ hk => Kd.fresh' (Kd.R_lt (Y5 HO171.out)) k_ hk));(case aO => exact (by (with_reducible repeat (first | apply Kd.R_alloc | apply Kd.R_drewN | apply Kd.R_drew));exact Kd.R_mono HO_3.out (fun _ hk => hk.2)));(case aS => exact (below_size (by first | exact Y4 HB.out GE168.out | exact Y3 HB.out)));(case aL => have := LMc5.out;omega);intro v173 w10 ho hb hg hat;rw [← Ny172.out] at ho;have n0_ := Yd (blk_grown (g := gb168) (o := .cells #[.string ((rd_T26 l0 x8_1).f0),.int .i64 ((rd_T26 l0 x8_1).f1),.int .i64 ((rd_T26 l0 x8_1).f2),.int .i64 ((rd_T26 l0 x8_1).f3.f0),.int .i64 ((rd_T26 l0 x8_1).f3.f1),.int .i64 ((rd_T26 l0 x8_1).f4)] 26 (0,0)) (Y6 BK168.out) hg (Kd.R_ne HO_3.out BK168.out (by decide)));have n1_ := Yd (Kd.R_after (ok := (fun _ => True)) (Y5 HO171.out) hg hat);have n2_ := Yd (hb);have n3_ := Yd (ho);clear BK168;clear HO171;clear HB;clear HO_3;have BK168 := n0_;have HO171 := n1_;have HB := n2_;have HO174 := n3_;clear n0_ n1_ n2_ n3_;clear ho hb hg hat))
    go_roundg k1
    case measure => have := HK1.out;omega
    case rel => exact ⟨(y172),(wrap64 (x8_1 + 1)),Y12,H',⟨by have := HK1.out;omega⟩,⟨by (with_reducible repeat (first | apply Kd.R_alloc | apply Kd.R_drewN | apply Kd.R_drew));exact Kd.R_mono HO174.out (fun _ hk => trivial)⟩,⟨by repeat (first | (with_reducible first | exact HB.out | apply below_alloc | apply Y15 | apply below_drew1 | refine below_set ?_ GE168.out) | exact HB.out)⟩⟩
   ·rw [if_neg c2] at H
    have c2b0 : decide (x8_1 < (l0.length : Int)) = false := decide_eq_false c2
    clear c2
    replace H := Option.bind_eq_some_iff.mp H
    obtain ⟨t175,A120,H⟩ := H
    replace H : (some t175) = some r := H
    have A12 := Yd A120
    clear A120
    obtain rfl := Option.some.inj H
    obtain ⟨Ao13,co13,eo13⟩ := Kd.R_slice HO_3.out
    subst eo13
    go_wp2_with (first | ((with_reducible refine gate_callee (f := 42) rfl ?_);refine goesL_ (some 21) rfl rfl Try.func42 (by kernel_rfl) rfl #[.slice Ao13 x3_1.length co13] rfl Y8 ?_;(with_reducible refine (slices_Sort_int_int.calls (fun k_ => some k_ = (.slice Ao13 x3_1.length co13 : Value).ownBlock) (.slice Ao13 x3_1.length co13) x3_1 t175 w _ ?side1 ?side2 A12.out).mono ?_);(case side1 => repeat (first | (with_reducible first | exact HB.out | apply below_alloc | apply Y15 | apply below_drew1) | exact HB.out));(case side2 => exact Kd.R_tight rfl HO_3.out);rintro e w14 ⟨rfl,hy0,hb,hkp⟩;refine ⟨_,rfl,?_⟩;have n0_ := Yd (Kd.R_reok rfl hy0 (fun k_ e_ => HO_3.out.1 k_ e_));have n1_ := Yd (hb);clear HO_3;clear HB;have HO_3 := n0_;have HB := n1_;clear n0_ n1_;(try clear hb);(try clear hkp);(try clear hy0)))
    go_ret
    exact ⟨_,by first | rfl | (simp [errW_none,errW_some] <;> rfl) | (simp [*,errW_none,errW_some] <;> rfl),by (with_reducible repeat (first | apply Kd.R_alloc | apply Kd.R_drewN | apply Kd.R_drew));exact HO_3.out,Y3 HB.out⟩
mutual
def override_Pieces.l0 : Nat → List (S26) → Int → Int → List (S49) → List Int → Int → Int → Option ((List (S49)) × Int)
 | 0,_,_,_,_,_,_,_ => none
 | k + 1,x0,x1,x2,x9,x33,x34,x35 => if x35 < x34 then (if 0 ≤ x35 then (if x35 < (x33.length : Int) then (if 0 ≤ (wrap64 ((x9.length : Int) - 1)) then (if (wrap64 ((x9.length : Int) - 1)) < (x9.length : Int) then ((override_governs.f k x0 (rd x33 x35)).bind fun t186 => (if (rd x33 x35) > x1 then (if (rd x33 x35) < x2 then (override_Pieces.j1 k x0 x1 x2 x9 (rd x33 x35) t186 x33 x34 x35 (wrap64 ((x9.length : Int) - 1)) (t186 != ((rd_T49 x9 (wrap64 ((x9.length : Int) - 1))).f2))) else (override_Pieces.j1 k x0 x1 x2 x9 (rd x33 x35) t186 x33 x34 x35 (wrap64 ((x9.length : Int) - 1)) false)) else (override_Pieces.j1 k x0 x1 x2 x9 (rd x33 x35) t186 x33 x34 x35 (wrap64 ((x9.length : Int) - 1)) false))) else (none)) else (none)) else (none)) else (none)) else (some (x9,0))
def override_Pieces.j1 : Nat → List (S26) → Int → Int → List (S49) → Int → Int → List Int → Int → Int → Int → Bool → Option ((List (S49)) × Int)
 | 0,_,_,_,_,_,_,_,_,_,_,_ => none
 | k + 1,x0,x1,x2,x9,x11,x13,x33,x34,x35,x42,x62 => if x62 = true then (if 0 ≤ x42 then (if x42 < (x9.length : Int) then ((some (x9.set (x42 : Int).toNat (⟨(rd_T49 x9 x42).f0,x11,(rd_T49 x9 x42).f2⟩ : S49) : List (S49))).bind fun y188 => (if y188.length < 5864062014805 then (override_Pieces.l0 k x0 x1 x2 (y188 ++ [(⟨x11,x2,x13⟩ : S49)]) x33 x34 (wrap64 (x35 + 1))) else (none))) else (none)) else (none)) else (override_Pieces.l0 k x0 x1 x2 x9 x33 x34 (wrap64 (x35 + 1)))
end
def override_Pieces.f (k : Nat) (l0 : List (S26)) (a1 : Int) (a2 : Int) : Option ((List (S49)) × Int) := (override_Check.f k l0).bind fun t176 => (if t176 = 0 then (if a1 > a2 then (some (([] : List (S49)),1)) else (if a1 = a2 then (some (([] : List (S49)),0)) else ((override_governs.f k l0 a1).bind fun t177 => ((override_ends.f k l0).bind fun t181 => (override_Pieces.l0 k l0 a1 a2 (([(⟨a1,a2,t177⟩ : S49)] : List (S49))) t181 (t181.length : Int) 0))))) else (some (([] : List (S49)),t176)))
theorem override_Pieces.mono_l : ∀ k,(∀ y0 y1 y2 y3 y4 y5 y6,LeO (override_Pieces.l0 k y0 y1 y2 y3 y4 y5 y6) (override_Pieces.l0 (k + 1) y0 y1 y2 y3 y4 y5 y6)) ∧ (∀ y0 y1 y2 y3 y4 y5 y6 y7 y8 y9 y10,LeO (override_Pieces.j1 k y0 y1 y2 y3 y4 y5 y6 y7 y8 y9 y10) (override_Pieces.j1 (k + 1) y0 y1 y2 y3 y4 y5 y6 y7 y8 y9 y10))
 | 0 => ⟨fun _ _ _ _ _ _ _ r h => by simp [override_Pieces.l0] at h,fun _ _ _ _ _ _ _ _ _ _ _ r h => by simp [override_Pieces.j1] at h⟩
 | k + 1 => by
  obtain ⟨ih0,ih1⟩ := override_Pieces.mono_l k
  refine ⟨?_,?_⟩
  ·intro y0 y1 y2 y3 y4 y5 y6
   unfold override_Pieces.l0
   repeat' first
   | (with_reducible exact ih0 _ _ _ _ _ _ _)
   | (with_reducible exact ih1 _ _ _ _ _ _ _ _ _ _ _)
   | (with_reducible exact override_Check.mono _ _)
   | (with_reducible exact override_ends.mono _ _)
   | (with_reducible exact override_governs.mono _ _ _)
   | (with_reducible exact LeO.refl _)
   | (with_reducible exact LeO.none _)
   | (with_reducible refine LeO.ite ?_ ?_)
   | (with_reducible refine LeO.bind ?_ (fun _ => ?_))
   | exact ih0 _ _ _ _ _ _ _
   | exact ih1 _ _ _ _ _ _ _ _ _ _ _
   | exact override_Check.mono _ _
   | exact override_ends.mono _ _
   | exact override_governs.mono _ _ _
   | exact LeO.none _
   | refine LeO.ite ?_ ?_
   | refine LeO.bind ?_ (fun _ => ?_)
  ·intro y0 y1 y2 y3 y4 y5 y6 y7 y8 y9 y10
   unfold override_Pieces.j1
   repeat' first
   | (with_reducible exact ih0 _ _ _ _ _ _ _)
   | (with_reducible exact ih1 _ _ _ _ _ _ _ _ _ _ _)
   | (with_reducible exact override_Check.mono _ _)
   | (with_reducible exact override_ends.mono _ _)
   | (with_reducible exact override_governs.mono _ _ _)
   | (with_reducible exact LeO.refl _)
   | (with_reducible exact LeO.none _)
   | (with_reducible refine LeO.ite ?_ ?_)
   | (with_reducible refine LeO.bind ?_ (fun _ => ?_))
   | exact ih0 _ _ _ _ _ _ _
   | exact ih1 _ _ _ _ _ _ _ _ _ _ _
   | exact override_Check.mono _ _
   | exact override_ends.mono _ _
   | exact override_governs.mono _ _ _
   | exact LeO.none _
   | refine LeO.ite ?_ ?_
   | refine LeO.bind ?_ (fun _ => ?_)
theorem override_Pieces.mono : ∀ a0 a1 a2 k,LeO (override_Pieces.f k a0 a1 a2) (override_Pieces.f (k + 1) a0 a1 a2) := by
 intro a0 a1 a2 k
 obtain ⟨ih0,ih1⟩ := override_Pieces.mono_l k
 unfold override_Pieces.f
 repeat' first
   | (with_reducible exact ih0 _ _ _ _ _ _ _)
   | (with_reducible exact ih1 _ _ _ _ _ _ _ _ _ _ _)
   | (with_reducible exact override_Check.mono _ _)
   | (with_reducible exact override_ends.mono _ _)
   | (with_reducible exact override_governs.mono _ _ _)
   | (with_reducible exact LeO.refl _)
   | (with_reducible exact LeO.none _)
   | (with_reducible refine LeO.ite ?_ ?_)
   | (with_reducible refine LeO.bind ?_ (fun _ => ?_))
   | exact ih0 _ _ _ _ _ _ _
   | exact ih1 _ _ _ _ _ _ _ _ _ _ _
   | exact override_Check.mono _ _
   | exact override_ends.mono _ _
   | exact override_governs.mono _ _ _
   | exact LeO.none _
   | refine LeO.ite ?_ ?_
   | refine LeO.bind ?_ (fun _ => ?_)
set_option maxHeartbeats 100000000 in
set_option maxRecDepth 100000 in
theorem override_Pieces.calls (k : Nat) (A0 : Option Addr) (c0 : Nat) (l0 : List (S26)) (a1 : Int) (a2 : Int) (r1 : List (S49)) (r2 : Int) (w : World) (hr0 : Kd.C k26 w A0 l0.length l0) (hc0 : l0.length ≤ c0) (h : override_Pieces.f k l0 a1 a2 = some (r1,r2)) :
  Calls Try.prog 19 #[.slice A0 l0.length c0,.int .i64 a1,.int .i64 a2] w fun e w' => ∃ v0_ : Value,e = .returned (.tuple #[v0_,.int .i64 r2]) ∧ Kd.R k49 49 w' w.heap.size (fun _ => True) v0_ r1 ∧ Below w.heap.size w w' := by
 have hu49 := Try.underlying49
 have HR0 := Yd hr0
 have HC0 := Yd hc0
 clear hr0 hc0
 have HB := Yd (Below.refl w.heap.size w)
 have H : ((override_Check.f k l0).bind fun t176 => (if t176 = 0 then (if a1 > a2 then (some (([] : List (S49)),1)) else (if a1 = a2 then (some (([] : List (S49)),0)) else ((override_governs.f k l0 a1).bind fun t177 => ((override_ends.f k l0).bind fun t181 => (override_Pieces.l0 k l0 a1 a2 (([(⟨a1,a2,t177⟩ : S49)] : List (S49))) t181 (t181.length : Int) 0))))) else (some (([] : List (S49)),t176)))) = some (r1,r2) := h
 clear h
 replace H := Option.bind_eq_some_iff.mp H
 obtain ⟨t176,A40,H⟩ := H
 replace H : (if t176 = 0 then (if a1 > a2 then (some (([] : List (S49)),1)) else (if a1 = a2 then (some (([] : List (S49)),0)) else ((override_governs.f k l0 a1).bind fun t177 => ((override_ends.f k l0).bind fun t181 => (override_Pieces.l0 k l0 a1 a2 (([(⟨a1,a2,t177⟩ : S49)] : List (S49))) t181 (t181.length : Int) 0))))) else (some (([] : List (S49)),t176))) = some (r1,r2) := H
 have A4 := Yd A40
 clear A40
 by_cases c5 : t176 = 0
 ·rw [if_pos c5] at H
  have c5b0 : (t176 == 0) = true := beq_iff_eq.mpr c5
  have c5b1 : (t176 != 0) = false := bne_eq_false_iff_eq.mpr c5
  clear c5
  by_cases c6 : a1 > a2
  ·rw [if_pos c6] at H
   have c6b0 : decide (a2 < a1) = true := decide_eq_true c6
   clear c6
   simp only [Option.some.injEq,Prod.mk.injEq] at H
   obtain ⟨rfl,rfl⟩ := H
   go_enter Try.func19,Try.ntmps19
   go_wp2_with (first | ((with_reducible refine gate_callee (f := 16) rfl ?_);refine goesL_ (some 15) rfl rfl Try.func16 (by kernel_rfl) rfl #[.slice A0 l0.length c0] rfl Y8 ?_;(with_reducible refine (override_Check.calls k _ _ l0 t176 _ ?side1 ?side2 A4.out).mono ?_);(case side1 => repeat (first | exact HR0.out | (with_reducible refine Kd.C_alloc ?_ _) | (with_reducible refine Kd.C_drewN ?_ _) | (with_reducible refine Kd.C_drew ?_)));(case side2 => exact HC0.out);rintro e w7 ⟨rfl,hb⟩;refine ⟨_,rfl,?_⟩;have n0_ := Yd (below_step (Y3 HB.out) hb);clear HB;have HB := n0_;clear n0_;(try clear hb);(try clear hb2);(try clear hk);(try clear hi)))
   go_ret2
   exact ⟨_,by first | rfl | (simp [errW_none,errW_some] <;> rfl) | (simp [*,errW_none,errW_some] <;> rfl),by first | exact Kd.R_nil _ _ _ _ _ | exact Kd.N_nil _ _ _ _ _ | exact Kd.V_nil _ _ _ _ _ | exact Kd.Q_nil _ _ _ _ _ | exact Kd.S_nil _ _ _ _ _,Y3 HB.out⟩
  ·rw [if_neg c6] at H
   have c6b0 : decide (a2 < a1) = false := decide_eq_false c6
   clear c6
   by_cases c8 : a1 = a2
   ·rw [if_pos c8] at H
    have c8b0 : (a1 == a2) = true := beq_iff_eq.mpr c8
    have c8b1 : (a1 != a2) = false := bne_eq_false_iff_eq.mpr c8
    clear c8
    simp only [Option.some.injEq,Prod.mk.injEq] at H
    obtain ⟨rfl,rfl⟩ := H
    go_enter Try.func19,Try.ntmps19
    go_wp2_with (first | ((with_reducible refine gate_callee (f := 16) rfl ?_);refine goesL_ (some 15) rfl rfl Try.func16 (by kernel_rfl) rfl #[.slice A0 l0.length c0] rfl Y8 ?_;(with_reducible refine (override_Check.calls k _ _ l0 t176 _ ?side1 ?side2 A4.out).mono ?_);(case side1 => repeat (first | exact HR0.out | (with_reducible refine Kd.C_alloc ?_ _) | (with_reducible refine Kd.C_drewN ?_ _) | (with_reducible refine Kd.C_drew ?_)));(case side2 => exact HC0.out);rintro e w9 ⟨rfl,hb⟩;refine ⟨_,rfl,?_⟩;have n0_ := Yd (below_step (Y3 HB.out) hb);clear HB;have HB := n0_;clear n0_;(try clear hb);(try clear hb2);(try clear hk);(try clear hi)))
    go_ret2
    exact ⟨_,by first | rfl | (simp [errW_none,errW_some] <;> rfl) | (simp [*,errW_none,errW_some] <;> rfl),by first | exact Kd.R_nil _ _ _ _ _ | exact Kd.N_nil _ _ _ _ _ | exact Kd.V_nil _ _ _ _ _ | exact Kd.Q_nil _ _ _ _ _ | exact Kd.S_nil _ _ _ _ _,Y3 HB.out⟩
   ·rw [if_neg c8] at H
    have c8b0 : (a1 == a2) = false := beq_eq_false_iff_ne.mpr c8
    have c8b1 : (a1 != a2) = true := bne_iff_ne.mpr c8
    replace H := Option.bind_eq_some_iff.mp H
    obtain ⟨t177,A100,H⟩ := H
    replace H : ((override_ends.f k l0).bind fun t181 => (override_Pieces.l0 k l0 a1 a2 (([(⟨a1,a2,t177⟩ : S49)] : List (S49))) t181 (t181.length : Int) 0)) = some (r1,r2) := H
    have A10 := Yd A100
    clear A100
    obtain ⟨y178,hy178⟩ : ∃ y_ : List (S49),y_ = (([(⟨a1,a2,t177⟩ : S49)] : List (S49))) := ⟨_,rfl⟩
    replace H : ((override_ends.f k l0).bind fun t181 => (override_Pieces.l0 k l0 a1 a2 y178 t181 (t181.length : Int) 0)) = some (r1,r2) := by first | (rw [hy178];with_reducible exact H) | (have H2_ := (Option.bind_some _ _).symm.trans H;rw [hy178];with_reducible exact H2_) | (have H2_ := (Option.bind_some _ _).symm.trans H;with_reducible exact H2_) | with_reducible exact H | (rw [hy178];exact H) | exact H
    have Ny178 := Yd hy178
    clear hy178
    replace H := Option.bind_eq_some_iff.mp H
    obtain ⟨t181,A110,H⟩ := H
    replace H : (override_Pieces.l0 k l0 a1 a2 y178 t181 (t181.length : Int) 0) = some (r1,r2) := H
    have A11 := Yd A110
    clear A110
    have H' := Yd H
    clear H
    go_enter Try.func19,Try.ntmps19
    go_wp2_with (first | ((with_reducible refine gate_callee (f := 16) rfl ?_);refine goesL_ (some 15) rfl rfl Try.func16 (by kernel_rfl) rfl #[.slice A0 l0.length c0] rfl Y8 ?_;(with_reducible refine (override_Check.calls k _ _ l0 t176 _ ?side1 ?side2 A4.out).mono ?_);(case side1 => repeat (first | exact HR0.out | (with_reducible refine Kd.C_alloc ?_ _) | (with_reducible refine Kd.C_drewN ?_ _) | (with_reducible refine Kd.C_drew ?_)));(case side2 => exact HC0.out);rintro e w12 ⟨rfl,hb⟩;refine ⟨_,rfl,?_⟩;have n0_ := Yd (below_step (Y3 HB.out) hb);clear HB;have HB := n0_;clear n0_;(try clear hb);(try clear hb2);(try clear hk);(try clear hi)) | ((with_reducible refine gate_callee (f := 37) rfl ?_);refine goesL_ (some 29) rfl rfl Try.func37 (by kernel_rfl) rfl #[.slice A0 l0.length c0,.int .i64 a1] rfl Y8 ?_;(with_reducible refine (override_governs.calls k _ _ l0 a1 t177 _ ?side1 ?side2 A10.out).mono ?_);(case side1 => exact Y11 (Kd.C_below HR0.out HB.out));(case side2 => exact HC0.out);rintro e w13 ⟨rfl,hb⟩;refine ⟨_,rfl,?_⟩;have n0_ := Yd (below_step (Y3 HB.out) hb);clear HB;have HB := n0_;clear n0_;(try clear hb);(try clear hb2);(try clear hk);(try clear hi)) | ((with_reducible refine gate_dst (N := 31) rfl ?_);refine Kd.R_lit k49 _ 49 ?hg (N := 31) ?hd (xs := ([(⟨a1,a2,t177⟩ : S49)] : List (S49))) (inner := [.int .i64 a1,.int .i64 a2,.int .i64 t177]) (ok := fun _ => True) (okp := fun _ => True) ?hr ?hp (fun _ hk => hk) trivial (Below.refl _ _) (Nat.le_refl _) (by simp) ?_;(case hd => rfl);(case hg => rfl);(case hr => first | (go_simp;done) | (go_simp;rfl));(case hp => exact (Reps.c3 (show Kd.M k49 _ _ _ (⟨a1,a2,t177⟩ : S49) [.int .i64 a1,.int .i64 a2,.int .i64 t177] from (k49_mkM _ _ _ (⟨a1,a2,t177⟩ : S49) )) (Reps.none _ _)));intro v179 w14 ho15 hb hg_ hnew_;clear hg_ hnew_;(first | rw [← Ny178.out] at ho15 | (simp only [Int.reduceToNat] at ho15;rw [← Ny178.out] at ho15));have n0_ := Yd (Kd.R_lower ho15 (below_size (Y3 HB.out)));have n1_ := Yd (below_step (Y3 HB.out) hb);clear HB;have HO180 := n0_;have HB := n1_;clear n0_ n1_;clear hb ho15) | ((with_reducible refine gate_callee (f := 38) rfl ?_);refine goesL_ (some 33) rfl rfl Try.func38 (by kernel_rfl) rfl #[.slice A0 l0.length c0] rfl Y8 ?_;(with_reducible refine (override_ends.calls k _ _ l0 t181 _ ?side1 ?side2 A11.out).mono ?_);(case side1 => exact Y11 (Kd.C_below HR0.out HB.out));(case side2 => exact HC0.out);rintro e w16 ⟨v182,rfl,ho0,hb⟩;refine ⟨_,rfl,?_⟩;have n0_ := Yd (Kd.R_below (Y5 HO180.out) hb);have n1_ := Yd (Kd.R_lower ho0 (below_size (Y3 HB.out)));have n2_ := Yd (below_step (Y3 HB.out) hb);clear HO180;clear HB;have HO180 := n0_;have HO183 := n1_;have HB := n2_;clear n0_ n1_ n2_;(try clear hb);(try clear hb2);(try clear hk);(try clear hi);(try clear ho0);obtain ⟨Ao17,co17,eo17⟩ := Kd.R_slice HO183.out;subst eo17))
    go_loopg [9,35] k (fun kq v9 v35 w' => ∃ (x9_1 : List (S49)) (x35_1 : Int),v35 = .int .i64 x35_1 ∧ Aside0 (override_Pieces.l0 kq l0 a1 a2 x9_1 t181 (t181.length : Int) x35_1 = some (r1,r2)) ∧ Aside0 (kq ≤ k) ∧ Aside0 (Kd.R k49 49 w' w.heap.size (fun _ => True) v9 x9_1) ∧ Aside0 (Kd.R (Kd.int .i64) 3 w' w.heap.size (fun _ => True) (.slice Ao17 t181.length co17) t181) ∧ Aside0 (Below w.heap.size w w'))
    case atStart => exact ⟨(y178),(0),Y12,H',⟨Nat.le_refl _⟩,⟨Y5 HO180.out⟩,⟨Y5 HO183.out⟩,⟨Y3 HB.out⟩⟩
    case round =>
     clear H'
     try clear c1
     try clear p2
     try clear c3
     try clear c5
     try clear c5b0
     try clear c5b1
     try clear c6
     try clear c6b0
     try clear c8
     try clear c8b0
     try clear c8b1
     try clear c16
     obtain ⟨x9_1,x35_1,rfl,HA,HK1,HO_9,HO_33,HB⟩ := hrel
     cases gk with
     | zero => exact absurd HA.out (by simp [override_Pieces.l0])
     | succ k1 =>
      have H := HA.out
      clear HA
      simp only [override_Pieces.l0] at H
      by_cases c18 : x35_1 < (t181.length : Int)
      ·rw [if_pos c18] at H
       have c18b0 : decide (x35_1 < (t181.length : Int)) = true := decide_eq_true c18
       clear c18
       by_cases c19 : 0 ≤ x35_1
       case neg => rw [if_neg c19] at H;exact absurd H (by simp)
       rw [if_pos c19] at H
       have c19b0 : decide (0 ≤ x35_1) = true := decide_eq_true c19
       clear c19
       by_cases c20 : x35_1 < (t181.length : Int)
       case neg => rw [if_neg c20] at H;exact absurd H (by simp)
       rw [if_pos c20] at H
       have c20b0 : decide (x35_1 < (t181.length : Int)) = true := decide_eq_true c20
       clear c20
       obtain ⟨ji21,hji21⟩ : ∃ j_ : Int,(wrap64 ((x9_1.length : Int) - 1)) = j_ := ⟨_,rfl⟩
       replace H : (if 0 ≤ (ji21) then (if (ji21) < (x9_1.length : Int) then ((override_governs.f k1 l0 (rd t181 x35_1)).bind fun t186 => (if (rd t181 x35_1) > a1 then (if (rd t181 x35_1) < a2 then (override_Pieces.j1 k1 l0 a1 a2 x9_1 (rd t181 x35_1) t186 t181 (t181.length : Int) x35_1 ji21 (t186 != ((rd_T49 x9_1 (ji21)).f2))) else (override_Pieces.j1 k1 l0 a1 a2 x9_1 (rd t181 x35_1) t186 t181 (t181.length : Int) x35_1 ji21 false)) else (override_Pieces.j1 k1 l0 a1 a2 x9_1 (rd t181 x35_1) t186 t181 (t181.length : Int) x35_1 ji21 false))) else (none)) else (none)) = some (r1,r2) := by first | (rw [hji21] at H;exact H) | (simp only [hji21] at H ⊢;exact H)
       have hji21w : (IntKind.i64.wrap ((x9_1.length : Int) - 1)) = ji21 := (i64_w _).trans hji21
       by_cases c22 : 0 ≤ (ji21)
       case neg => rw [if_neg c22] at H;exact absurd H (by simp)
       rw [if_pos c22] at H
       have c22b0 : decide (0 ≤ (ji21)) = true := decide_eq_true c22
       clear c22
       by_cases c23 : (ji21) < (x9_1.length : Int)
       case neg => rw [if_neg c23] at H;exact absurd H (by simp)
       rw [if_pos c23] at H
       have c23b0 : decide ((ji21) < (x9_1.length : Int)) = true := decide_eq_true c23
       clear c23
       replace H := Option.bind_eq_some_iff.mp H
       obtain ⟨t186,A240,H⟩ := H
       replace H : (if (rd t181 x35_1) > a1 then (if (rd t181 x35_1) < a2 then (override_Pieces.j1 k1 l0 a1 a2 x9_1 (rd t181 x35_1) t186 t181 (t181.length : Int) x35_1 ji21 (t186 != ((rd_T49 x9_1 (ji21)).f2))) else (override_Pieces.j1 k1 l0 a1 a2 x9_1 (rd t181 x35_1) t186 t181 (t181.length : Int) x35_1 ji21 false)) else (override_Pieces.j1 k1 l0 a1 a2 x9_1 (rd t181 x35_1) t186 t181 (t181.length : Int) x35_1 ji21 false)) = some (r1,r2) := H
       have A24 := Yd A240
       clear A240
       have HC25 := Yd H
       clear H
       have p184 : 0 ≤ (x35_1 : Int) := Y9
       have q184 : x35_1 < (t181.length : Int) := Y9
       obtain ⟨ad184,e184,hx184_0⟩ := Kd.at_int (Kd.R_reads' HO_33.out).2.2 x35_1 p184 q184
       cases e184
       replace p184 := eq_true p184
       replace q184 := eq_true q184
       obtain ⟨Ao26,co26,eo26⟩ := Kd.R_slice HO_9.out
       subst eo26
       have p185 : 0 ≤ ((ji21) : Int) := Y9
       have q185 : (ji21) < (x9_1.length : Int) := Y9
       obtain ⟨ad185,e185,hx185_0,hx185_1,hx185_2⟩ := at_T49 (Kd.R_reads' HO_9.out).2.2 (ji21) p185 q185
       cases e185
       replace p185 := eq_true p185
       replace q185 := eq_true q185
       go_upto_region 14 with (first | ((with_reducible refine gate_callee (f := 37) rfl ?_);refine goesL_ (some 46) rfl rfl Try.func37 (by kernel_rfl) rfl #[.slice A0 l0.length c0,.int .i64 (rd t181 x35_1)] rfl Y8 ?_;(with_reducible refine (override_governs.calls k1 _ _ l0 (rd t181 x35_1) t186 _ ?side1 ?side2 A24.out).mono ?_);(case side1 => exact Y11 (Kd.C_below HR0.out HB.out));(case side2 => exact HC0.out);rintro e w27 ⟨rfl,hb⟩;refine ⟨_,rfl,?_⟩;have n0_ := Yd (Kd.R_below (Y5 HO_9.out) hb);have n1_ := Yd (Kd.R_below (Y5 HO_33.out) hb);have n2_ := Yd (below_step (Y3 HB.out) hb);clear HO_9;clear HO_33;clear HB;have HO_9 := n0_;have HO_33 := n1_;have HB := n2_;clear n0_ n1_ n2_;(try clear hb);(try clear hb2);(try clear hk);(try clear hi)))
       (try simp only [Act.put,List.setIfInBounds_toArray,List.set_cons_zero,List.set_cons_succ])
       go_cut [62] (fun v62 wc => ∃ (kq : Nat) (x62_24 : Bool),v62 = .bool x62_24 ∧ Aside0 (override_Pieces.j1 kq l0 a1 a2 x9_1 (rd t181 x35_1) t186 t181 (t181.length : Int) x35_1 ji21 x62_24 = some (r1,r2)) ∧ Aside0 (kq ≤ k1) ∧ Aside0 (Kd.R k49 49 wc w.heap.size (fun _ => True) (.slice (some ad185) x9_1.length co26) x9_1) ∧ Aside0 (Kd.R (Kd.int .i64) 3 wc w.heap.size (fun _ => True) (.slice (some ad184) t181.length co17) t181) ∧ Aside0 (Below w.heap.size w wc))
       case first =>
        have H := HC25.out
        clear HC25
        by_cases c28 : (rd t181 x35_1) > a1
        ·rw [if_pos c28] at H
         have c28b0 : decide (a1 < (rd t181 x35_1)) = true := decide_eq_true c28
         clear c28
         (first | rw [c28b0] | (simp only [i64_w,i32_w];rw [c28b0]) | skip)
         by_cases c29 : (rd t181 x35_1) < a2
         ·rw [if_pos c29] at H
          have c29b0 : decide ((rd t181 x35_1) < a2) = true := decide_eq_true c29
          clear c29
          have H' := Yd H
          clear H
          have p187 : 0 ≤ ((ji21) : Int) := Y9
          have q187 : (ji21) < (x9_1.length : Int) := Y9
          obtain ⟨ad187,e187,hx187_0,hx187_1,hx187_2⟩ := at_T49 (Kd.R_reads' HO_9.out).2.2 (ji21) p187 q187
          obtain rfl : ad185 = ad187 := (by injection e187)
          replace p187 := eq_true p187
          replace q187 := eq_true q187
          go_wp2
          go_meet
          case rel => exact ⟨_,((t186 != ((rd_T49 x9_1 (ji21)).f2))),(by first | rfl | (simp;done) | (simp only [← hji21] <;> (first | rfl | simp)) | (simp [*];done)),H',⟨by have := HK1.out;first | omega | exact Nat.le_refl _⟩,⟨Y5 HO_9.out⟩,⟨Y5 HO_33.out⟩,⟨Y3 HB.out⟩⟩
         ·rw [if_neg c29] at H
          have c29b0 : decide ((rd t181 x35_1) < a2) = false := decide_eq_false c29
          clear c29
          have H' := Yd H
          clear H
          go_wp2
          go_meet
          case rel => exact ⟨_,(false),Y12,H',⟨by have := HK1.out;first | omega | exact Nat.le_refl _⟩,⟨Y5 HO_9.out⟩,⟨Y5 HO_33.out⟩,⟨Y3 HB.out⟩⟩
        ·rw [if_neg c28] at H
         have c28b0 : decide (a1 < (rd t181 x35_1)) = false := decide_eq_false c28
         clear c28
         (first | rw [c28b0] | (simp only [i64_w,i32_w];rw [c28b0]) | skip)
         have H' := Yd H
         clear H
         go_wp2
         go_meet
         case rel => exact ⟨_,(false),Y12,H',⟨by have := HK1.out;first | omega | exact Nat.le_refl _⟩,⟨Y5 HO_9.out⟩,⟨Y5 HO_33.out⟩,⟨Y3 HB.out⟩⟩
       case rest =>
        clear HC25
        try clear c1
        try clear p1
        try clear q1
        try clear hx1
        try clear c2
        try clear p2
        try clear c3
        try clear c5
        try clear c5b0
        try clear c5b1
        try clear c6
        try clear c6b0
        try clear p6
        try clear c8
        try clear c8b0
        try clear c8b1
        try clear c16
        try clear c18
        try clear c18b0
        try clear p18
        try clear q18
        try clear hx18
        try clear c19
        try clear c19b0
        try clear c20
        try clear c20b0
        try clear c22
        try clear c22b0
        try clear c23
        try clear c23b0
        try clear c28
        try clear c28b0
        try clear c29
        try clear c29b0
        try clear hx184_0
        try clear hx185_0
        try clear hx185_1
        try clear hx185_2
        try clear hx187_0
        try clear hx187_1
        try clear hx187_2
        try clear p184
        try clear p185
        try clear p187
        try clear p2
        try clear q184
        try clear q185
        try clear q187
        obtain ⟨kq,x62_24,rfl,HA,HJ24,HO_9,HO_33,HB⟩ := hcut
        cases kq with
        | zero => exact absurd HA.out (by simp [override_Pieces.j1])
        | succ kj24 =>
         have H := HA.out
         clear HA
         simp only [override_Pieces.j1] at H
         by_cases c30 : x62_24 = true
         ·subst c30
          have H1 : (if 0 ≤ ji21 then (if ji21 < (x9_1.length : Int) then ((some (x9_1.set (ji21 : Int).toNat (⟨(rd_T49 x9_1 ji21).f0,(rd t181 x35_1),(rd_T49 x9_1 ji21).f2⟩ : S49) : List (S49))).bind fun y188 => (if y188.length < 5864062014805 then (override_Pieces.l0 kj24 l0 a1 a2 (y188 ++ [(⟨(rd t181 x35_1),a2,t186⟩ : S49)]) t181 (t181.length : Int) (wrap64 (x35_1 + 1))) else (none))) else (none)) else (none)) = some (r1,r2) := by rw [if_pos rfl] at H;exact H
          clear H
          have H := H1
          clear H1
          by_cases c31 : 0 ≤ ji21
          case neg => rw [if_neg c31] at H;exact absurd H (by simp)
          rw [if_pos c31] at H
          have c31b0 : decide (0 ≤ ji21) = true := decide_eq_true c31
          clear c31
          by_cases c32 : ji21 < (x9_1.length : Int)
          case neg => rw [if_neg c32] at H;exact absurd H (by simp)
          rw [if_pos c32] at H
          have c32b0 : decide (ji21 < (x9_1.length : Int)) = true := decide_eq_true c32
          clear c32
          obtain ⟨y188,hy188⟩ : ∃ y_ : List (S49),y_ = (x9_1.set (ji21 : Int).toNat (⟨(rd_T49 x9_1 ji21).f0,(rd t181 x35_1),(rd_T49 x9_1 ji21).f2⟩ : S49)) := ⟨_,rfl⟩
          replace H : (if y188.length < 5864062014805 then (override_Pieces.l0 kj24 l0 a1 a2 (y188 ++ [(⟨(rd t181 x35_1),a2,t186⟩ : S49)]) t181 (t181.length : Int) (wrap64 (x35_1 + 1))) else (none)) = some (r1,r2) := by first | (rw [hy188];with_reducible exact H) | (have H2_ := (Option.bind_some _ _).symm.trans H;rw [hy188];with_reducible exact H2_) | (have H2_ := (Option.bind_some _ _).symm.trans H;with_reducible exact H2_) | with_reducible exact H | (rw [hy188];exact H) | exact H
          have Ny188 := Yd hy188
          clear hy188
          by_cases c34 : y188.length < 5864062014805
          case neg => rw [if_neg c34] at H;exact absurd H (by simp)
          rw [if_pos c34] at H
          have LMc34 := Yd c34
          clear c34
          obtain ⟨y189,hy189⟩ : ∃ y_ : List (S49),y_ = (y188 ++ [(⟨(rd t181 x35_1),a2,t186⟩ : S49)]) := ⟨_,rfl⟩
          replace H : (override_Pieces.l0 kj24 l0 a1 a2 y189 t181 (t181.length : Int) (wrap64 (x35_1 + 1))) = some (r1,r2) := by first | (rw [hy189];with_reducible exact H) | (have H2_ := (Option.bind_some _ _).symm.trans H;rw [hy189];with_reducible exact H2_) | (have H2_ := (Option.bind_some _ _).symm.trans H;with_reducible exact H2_) | with_reducible exact H | (rw [hy189];exact H) | exact H
          have Ny189 := Yd hy189
          clear hy189
          have H' := Yd H
          clear H
          have p33 : 0 ≤ (ji21 : Int) := Y9
          have q33 : (ji21 : Int) < ((x9_1.length : Int) : Int) := Y9
          obtain ⟨go33,co33,eo33,gb33,gl33,cl33,HG33⟩ := Kd.R_form HO_9.out (by omega)
          (first | cases eo33 | (injection eo33 with ea_ en_ ec_;(first | subst ea_ | (injection ea_ with ea_;subst ea_));subst ec_;clear en_))
          have GB33 := Yd gb33
          have GG33 := Yd HG33
          clear gb33 gl33 HG33
          (first | simp only [add_plain] at hx185_0 | skip)
          (first | simp only [add_plain] at hx185_1 | skip)
          (first | simp only [add_plain] at hx185_2 | skip)
          (first | simp only [add_plain] at hx187_0 | skip)
          (first | simp only [add_plain] at hx187_1 | skip)
          (first | simp only [add_plain] at hx187_2 | skip)
          obtain ⟨ce33,hcl33,hM33,hcc33,hfr33⟩ := Kd.R_elem HO_9.out z49 (ji21 : Int) p33 q33
          obtain rfl := k49_openM hM33
          have hx33_0 : wc.cell? ⟨go33,(ji21 : Int).toNat * 3,none⟩ = some (.int .i64 ((rd_T49 x9_1 ji21).f0)) := hcc33 0 _ rfl
          have hx33_1 : wc.cell? ⟨go33,(ji21 : Int).toNat * 3 + 1,none⟩ = some (.int .i64 ((rd_T49 x9_1 ji21).f1)) := hcc33 1 _ rfl
          have hx33_2 : wc.cell? ⟨go33,(ji21 : Int).toNat * 3 + 2,none⟩ = some (.int .i64 ((rd_T49 x9_1 ji21).f2)) := hcc33 2 _ rfl
          have hf33_0 : wc.frozen? ⟨go33,(ji21 : Int).toNat * 3,none⟩ = false := hfr33 0
          have hf33_1 : wc.frozen? ⟨go33,(ji21 : Int).toNat * 3 + 1,none⟩ = false := hfr33 1
          have hf33_2 : wc.frozen? ⟨go33,(ji21 : Int).toNat * 3 + 2,none⟩ = false := hfr33 2
          clear hcl33 hcc33 hfr33 hM33
          replace p33 := eq_true p33
          replace q33 := eq_true q33
          have HX35 := Yd (show Kd.R k49 49 wc w.heap.size (fun _ => True) (.slice (some ⟨go33,0,none⟩) x9_1.length co26) x9_1 from (Y5 HO_9.out))
          obtain ⟨ce35,hcl35,hM35,hcc35,hfr35⟩ := Kd.R_elem HX35.out z49 (ji21 : Int) (Y9) (by have h_ : (ji21 : Int) < ((x9_1.length : Int) : Int) := Y9;first | exact h_ | (have e_ := (Kd.R_reads' HO_9.out).1;omega) | simpa using h_)
          obtain rfl := k49_openM hM35
          have HP35 := Kd.R_seg HX35.out (ji21 : Int) (Y9) (by have h_ : (ji21 : Int) < ((x9_1.length : Int) : Int) := Y9;first | exact h_ | (have e_ := (Kd.R_reads' HO_9.out).1;omega) | simpa using h_) (seg := [.int .i64 (rd t181 x35_1)]) (j := 1) hcl35 hcc35 (show 2 ≤ 3 from by decide) (x' := (⟨(rd_T49 x9_1 ji21).f0,(rd t181 x35_1),(rd_T49 x9_1 ji21).f2⟩ : S49)) (k49_mkM _ _ _ (⟨(rd_T49 x9_1 ji21).f0,(rd t181 x35_1),(rd_T49 x9_1 ji21).f2⟩ : S49) ) (fun _ hk => hk)
          have hx35_1 := hcc35 1 _ rfl
          (try simp only [show (k49).sz = 3 from rfl,Nat.mul_one,Nat.add_zero] at hx35_1)
          have hf35_1 := hfr35 1
          (try simp only [show (k49).sz = 3 from rfl,Nat.mul_one,Nat.add_zero] at hf35_1)
          clear hcl35 hcc35 hfr35 hM35
          go_wp2_with (first | ((with_reducible refine gate_store (t := 3) (p := 66) rfl ?_);refine store_event (t := 3) (p := 66) (v := ?vo_w36) (w1 := (wc.setCell ⟨go33,(ji21 : Int).toNat * 3 + 1,none⟩ (.int .i64 (rd t181 x35_1)))) ?hg ?ho ?hn ?hr ?_;(case ho => rfl);(case hg => rfl);(case hn => rfl);(case hr => first | (go_simp;done) | (go_simp;rfl));intro w36 hw;have hg : wc.grownBy w36 (some go33) := (by rw [hw];exact HP35.2);have hp_ : Kd.R k49 49 w36 w.heap.size (fun _ => True) (.slice (some ⟨go33,0,none⟩) x9_1.length co26) y188 := (by rw [hw,Ny188.out];exact HP35.1);clear HP35;have n0_ := Yd (hp_);have n1_ := Yd (Kd.R_over' (v := (.slice (some ⟨go33,0,none⟩) x9_1.length co26)) (Y5 HO_33.out) (Kd.R_typed HO_9.out) (by decide) hg);have n2_ := Yd ((by rw [hw];exact below_set (HB.out) GB33.out : Below w.heap.size w w36));clear HO_9;clear HO_33;clear HB;have HO_9 := n0_;have HO_33 := n1_;have HB := n2_;clear n0_ n1_ n2_;clear hg hw hp_) | ((with_reducible refine gate_builtin (b := .append) (xs := #[.tmp 67,.tmp 72]) rfl ?_);at_builtin;refine Kd.R_append k49 (w0 := w) w.heap.size rfl (.tmp 67) (.tmp 72) 42 49 (.agg #[(.int .i64 0),(.int .i64 0),(.int .i64 0)]) 24 rfl Try.underlying42 info49 rfl (by decide) (by omega) (.slice (some ⟨go33,0,none⟩) x9_1.length co26) y188 (⟨(rd t181 x35_1),a2,t186⟩ : S49) [.int .i64 (rd t181 x35_1),.int .i64 a2,.int .i64 t186] (fun _ => True) (fun _ => False) rfl rfl ?aP (fun _ hk => hk.elim) ?aF ?aO ?aB ?aS ?aL ?_;(case aP => exact k49_mkM _ _ _ (⟨(rd t181 x35_1),a2,t186⟩ : S49));(case aB => exact (Y3 HB.out));(case aF => exact (fun _ _ => trivial));(case aO => exact (Y5 HO_9.out));(case aS => exact (below_size (Y3 HB.out)));(case aL => have := LMc34.out;omega);intro v190 w37 ho hb hg hat;rw [← Ny189.out] at ho;have n0_ := Yd (Kd.R_over' (Y5 HO_33.out) (Kd.R_typed (Y5 HO_9.out)) (by decide) hg);have n1_ := Yd (hb);have n2_ := Yd (ho);clear HO_33;clear HB;clear HO_9;have HO_33 := n0_;have HB := n1_;have HO191 := n2_;clear n0_ n1_ n2_;clear ho hb hg hat))
          go_roundg kj24
          case measure => have := HK1.out;have := HJ24.out;omega
          case rel => exact ⟨(y189),(wrap64 (x35_1 + 1)),Y12,H',⟨by have := HK1.out;have := HJ24.out;omega⟩,⟨Y5 HO191.out⟩,⟨Y5 HO_33.out⟩,⟨Y3 HB.out⟩⟩
         ·replace c30 := Bool.eq_false_iff.mpr c30
          subst c30
          have H1 : (override_Pieces.l0 kj24 l0 a1 a2 x9_1 t181 (t181.length : Int) (wrap64 (x35_1 + 1))) = some (r1,r2) := by rw [if_neg (show ¬ (false = true) by decide)] at H;exact H
          clear H
          have H := H1
          clear H1
          have H' := Yd H
          clear H
          go_wp2
          go_roundg kj24
          case measure => have := HK1.out;have := HJ24.out;omega
          case rel => exact ⟨(x9_1),(wrap64 (x35_1 + 1)),Y12,H',⟨by have := HK1.out;have := HJ24.out;omega⟩,⟨Y5 HO_9.out⟩,⟨Y5 HO_33.out⟩,⟨Y3 HB.out⟩⟩
      ·rw [if_neg c18] at H
       have c18b0 : decide (x35_1 < (t181.length : Int)) = false := decide_eq_false c18
       clear c18
       simp only [Option.some.injEq,Prod.mk.injEq] at H
       obtain ⟨rfl,rfl⟩ := H
       go_wp2
       go_ret2
       exact ⟨_,by first | rfl | (simp [errW_none,errW_some] <;> rfl) | (simp [*,errW_none,errW_some] <;> rfl),by (with_reducible repeat (first | apply Kd.R_alloc | apply Kd.R_drewN | apply Kd.R_drew));exact HO_9.out,Y3 HB.out⟩
 ·rw [if_neg c5] at H
  have c5b0 : (t176 == 0) = false := beq_eq_false_iff_ne.mpr c5
  have c5b1 : (t176 != 0) = true := bne_iff_ne.mpr c5
  simp only [Option.some.injEq,Prod.mk.injEq] at H
  obtain ⟨rfl,rfl⟩ := H
  go_enter Try.func19,Try.ntmps19
  go_wp2_with (first | ((with_reducible refine gate_callee (f := 16) rfl ?_);refine goesL_ (some 15) rfl rfl Try.func16 (by kernel_rfl) rfl #[.slice A0 l0.length c0] rfl Y8 ?_;(with_reducible refine (override_Check.calls k _ _ l0 t176 _ ?side1 ?side2 A4.out).mono ?_);(case side1 => repeat (first | exact HR0.out | (with_reducible refine Kd.C_alloc ?_ _) | (with_reducible refine Kd.C_drewN ?_ _) | (with_reducible refine Kd.C_drew ?_)));(case side2 => exact HC0.out);rintro e w38 ⟨rfl,hb⟩;refine ⟨_,rfl,?_⟩;have n0_ := Yd (below_step (Y3 HB.out) hb);clear HB;have HB := n0_;clear n0_;(try clear hb);(try clear hb2);(try clear hk);(try clear hi)))
  go_ret2
  exact ⟨_,by first | rfl | (simp [errW_none,errW_some] <;> rfl) | (simp [*,errW_none,errW_some] <;> rfl),by first | exact Kd.R_nil _ _ _ _ _ | exact Kd.N_nil _ _ _ _ _ | exact Kd.V_nil _ _ _ _ _ | exact Kd.Q_nil _ _ _ _ _ | exact Kd.S_nil _ _ _ _ _,Y3 HB.out⟩
def override_Next.l0 : Nat → List (S26) → Int → Int → List Int → Int → Int → Option (Int × Int)
 | 0,_,_,_,_,_,_ => none
 | k + 1,x0,x1,x7,x19,x20,x21 => if x21 < x20 then (if 0 ≤ x21 then (if x21 < (x19.length : Int) then (if (rd x19 x21) > x1 then ((override_governs.f k x0 (rd x19 x21)).bind fun t198 => (if t198 = x7 then (override_Next.l0 k x0 x1 x7 x19 x20 (wrap64 (x21 + 1))) else (some (rd x19 x21,0)))) else (override_Next.l0 k x0 x1 x7 x19 x20 (wrap64 (x21 + 1)))) else (none)) else (none)) else (some (0,9))
def override_Next.f (k : Nat) (l0 : List (S26)) (a1 : Int) : Option (Int × Int) := (override_Check.f k l0).bind fun t192 => (if t192 = 0 then ((override_governs.f k l0 a1).bind fun t193 => ((override_ends.f k l0).bind fun t194 => (override_Next.l0 k l0 a1 t193 t194 (t194.length : Int) 0))) else (some (0,t192)))
theorem override_Next.mono_l : ∀ k,(∀ y0 y1 y2 y3 y4 y5,LeO (override_Next.l0 k y0 y1 y2 y3 y4 y5) (override_Next.l0 (k + 1) y0 y1 y2 y3 y4 y5))
 | 0 => fun _ _ _ _ _ _ r h => by simp [override_Next.l0] at h
 | k + 1 => by
  have ih0 := override_Next.mono_l k
  ·intro y0 y1 y2 y3 y4 y5
   unfold override_Next.l0
   repeat' first
   | (with_reducible exact ih0 _ _ _ _ _ _)
   | (with_reducible exact override_Check.mono _ _)
   | (with_reducible exact override_ends.mono _ _)
   | (with_reducible exact override_governs.mono _ _ _)
   | (with_reducible exact LeO.refl _)
   | (with_reducible exact LeO.none _)
   | (with_reducible refine LeO.ite ?_ ?_)
   | (with_reducible refine LeO.bind ?_ (fun _ => ?_))
   | exact ih0 _ _ _ _ _ _
   | exact override_Check.mono _ _
   | exact override_ends.mono _ _
   | exact override_governs.mono _ _ _
   | exact LeO.none _
   | refine LeO.ite ?_ ?_
   | refine LeO.bind ?_ (fun _ => ?_)
theorem override_Next.mono : ∀ a0 a1 k,LeO (override_Next.f k a0 a1) (override_Next.f (k + 1) a0 a1) := by
 intro a0 a1 k
 have ih0 := override_Next.mono_l k
 unfold override_Next.f
 repeat' first
   | (with_reducible exact ih0 _ _ _ _ _ _)
   | (with_reducible exact override_Check.mono _ _)
   | (with_reducible exact override_ends.mono _ _)
   | (with_reducible exact override_governs.mono _ _ _)
   | (with_reducible exact LeO.refl _)
   | (with_reducible exact LeO.none _)
   | (with_reducible refine LeO.ite ?_ ?_)
   | (with_reducible refine LeO.bind ?_ (fun _ => ?_))
   | exact ih0 _ _ _ _ _ _
   | exact override_Check.mono _ _
   | exact override_ends.mono _ _
   | exact override_governs.mono _ _ _
   | exact LeO.none _
   | refine LeO.ite ?_ ?_
   | refine LeO.bind ?_ (fun _ => ?_)
set_option maxHeartbeats 100000000 in
set_option maxRecDepth 100000 in
theorem override_Next.calls (k : Nat) (A0 : Option Addr) (c0 : Nat) (l0 : List (S26)) (a1 : Int) (r1 : Int) (r2 : Int) (w : World) (hr0 : Kd.C k26 w A0 l0.length l0) (hc0 : l0.length ≤ c0) (h : override_Next.f k l0 a1 = some (r1,r2)) :
  Calls Try.prog 20 #[.slice A0 l0.length c0,.int .i64 a1] w fun e w' => e = .returned (.tuple #[.int .i64 r1,.int .i64 r2]) ∧ Below w.heap.size w w' := by
 have HR0 := Yd hr0
 have HC0 := Yd hc0
 clear hr0 hc0
 have HB := Yd (Below.refl w.heap.size w)
 have H : ((override_Check.f k l0).bind fun t192 => (if t192 = 0 then ((override_governs.f k l0 a1).bind fun t193 => ((override_ends.f k l0).bind fun t194 => (override_Next.l0 k l0 a1 t193 t194 (t194.length : Int) 0))) else (some (0,t192)))) = some (r1,r2) := h
 clear h
 replace H := Option.bind_eq_some_iff.mp H
 obtain ⟨t192,A30,H⟩ := H
 replace H : (if t192 = 0 then ((override_governs.f k l0 a1).bind fun t193 => ((override_ends.f k l0).bind fun t194 => (override_Next.l0 k l0 a1 t193 t194 (t194.length : Int) 0))) else (some (0,t192))) = some (r1,r2) := H
 have A3 := Yd A30
 clear A30
 by_cases c4 : t192 = 0
 ·rw [if_pos c4] at H
  have c4b0 : (t192 == 0) = true := beq_iff_eq.mpr c4
  have c4b1 : (t192 != 0) = false := bne_eq_false_iff_eq.mpr c4
  clear c4
  replace H := Option.bind_eq_some_iff.mp H
  obtain ⟨t193,A50,H⟩ := H
  replace H : ((override_ends.f k l0).bind fun t194 => (override_Next.l0 k l0 a1 t193 t194 (t194.length : Int) 0)) = some (r1,r2) := H
  have A5 := Yd A50
  clear A50
  replace H := Option.bind_eq_some_iff.mp H
  obtain ⟨t194,A60,H⟩ := H
  replace H : (override_Next.l0 k l0 a1 t193 t194 (t194.length : Int) 0) = some (r1,r2) := H
  have A6 := Yd A60
  clear A60
  have H' := Yd H
  clear H
  go_enter Try.func20,Try.ntmps20
  go_wp2_with (first | ((with_reducible refine gate_callee (f := 16) rfl ?_);refine goesL_ (some 11) rfl rfl Try.func16 (by kernel_rfl) rfl #[.slice A0 l0.length c0] rfl Y8 ?_;(with_reducible refine (override_Check.calls k _ _ l0 t192 _ ?side1 ?side2 A3.out).mono ?_);(case side1 => repeat (first | exact HR0.out | (with_reducible refine Kd.C_alloc ?_ _) | (with_reducible refine Kd.C_drewN ?_ _) | (with_reducible refine Kd.C_drew ?_)));(case side2 => exact HC0.out);rintro e w7 ⟨rfl,hb⟩;refine ⟨_,rfl,?_⟩;have n0_ := Yd (below_step (Y3 HB.out) hb);clear HB;have HB := n0_;clear n0_;(try clear hb);(try clear hb2);(try clear hk);(try clear hi)) | ((with_reducible refine gate_callee (f := 37) rfl ?_);refine goesL_ (some 17) rfl rfl Try.func37 (by kernel_rfl) rfl #[.slice A0 l0.length c0,.int .i64 a1] rfl Y8 ?_;(with_reducible refine (override_governs.calls k _ _ l0 a1 t193 _ ?side1 ?side2 A5.out).mono ?_);(case side1 => exact Y11 (Kd.C_below HR0.out HB.out));(case side2 => exact HC0.out);rintro e w8 ⟨rfl,hb⟩;refine ⟨_,rfl,?_⟩;have n0_ := Yd (below_step (Y3 HB.out) hb);clear HB;have HB := n0_;clear n0_;(try clear hb);(try clear hb2);(try clear hk);(try clear hi)) | ((with_reducible refine gate_callee (f := 38) rfl ?_);refine goesL_ (some 19) rfl rfl Try.func38 (by kernel_rfl) rfl #[.slice A0 l0.length c0] rfl Y8 ?_;(with_reducible refine (override_ends.calls k _ _ l0 t194 _ ?side1 ?side2 A6.out).mono ?_);(case side1 => exact Y11 (Kd.C_below HR0.out HB.out));(case side2 => exact HC0.out);rintro e w9 ⟨v195,rfl,ho0,hb⟩;refine ⟨_,rfl,?_⟩;have n0_ := Yd (Kd.R_lower ho0 (below_size (Y3 HB.out)));have n1_ := Yd (below_step (Y3 HB.out) hb);clear HB;have HO196 := n0_;have HB := n1_;clear n0_ n1_;(try clear hb);(try clear hb2);(try clear hk);(try clear hi);(try clear ho0);obtain ⟨Ao10,co10,eo10⟩ := Kd.R_slice HO196.out;subst eo10))
  go_loopg [21] k (fun kq v21 w' => ∃ (x21_1 : Int),v21 = .int .i64 x21_1 ∧ Aside0 (override_Next.l0 kq l0 a1 t193 t194 (t194.length : Int) x21_1 = some (r1,r2)) ∧ Aside0 (kq ≤ k) ∧ Aside0 (Kd.R (Kd.int .i64) 3 w' w.heap.size (fun _ => True) (.slice Ao10 t194.length co10) t194) ∧ Aside0 (Below w.heap.size w w'))
  case atStart => exact ⟨(0),Y12,H',⟨Nat.le_refl _⟩,⟨Y5 HO196.out⟩,⟨Y3 HB.out⟩⟩
  case round =>
   clear H'
   try clear c1
   try clear c2
   try clear p2
   try clear c3
   try clear c4
   try clear c4b0
   try clear c4b1
   obtain ⟨x21_1,rfl,HA,HK1,HO_19,HB⟩ := hrel
   cases gk with
   | zero => exact absurd HA.out (by simp [override_Next.l0])
   | succ k1 =>
    have H := HA.out
    clear HA
    simp only [override_Next.l0] at H
    by_cases c11 : x21_1 < (t194.length : Int)
    ·rw [if_pos c11] at H
     have c11b0 : decide (x21_1 < (t194.length : Int)) = true := decide_eq_true c11
     clear c11
     by_cases c12 : 0 ≤ x21_1
     case neg => rw [if_neg c12] at H;exact absurd H (by simp)
     rw [if_pos c12] at H
     have c12b0 : decide (0 ≤ x21_1) = true := decide_eq_true c12
     clear c12
     by_cases c13 : x21_1 < (t194.length : Int)
     case neg => rw [if_neg c13] at H;exact absurd H (by simp)
     rw [if_pos c13] at H
     have c13b0 : decide (x21_1 < (t194.length : Int)) = true := decide_eq_true c13
     clear c13
     by_cases c14 : (rd t194 x21_1) > a1
     ·rw [if_pos c14] at H
      have c14b0 : decide (a1 < (rd t194 x21_1)) = true := decide_eq_true c14
      clear c14
      replace H := Option.bind_eq_some_iff.mp H
      obtain ⟨t198,A150,H⟩ := H
      replace H : (if t198 = t193 then (override_Next.l0 k1 l0 a1 t193 t194 (t194.length : Int) (wrap64 (x21_1 + 1))) else (some (rd t194 x21_1,0))) = some (r1,r2) := H
      have A15 := Yd A150
      clear A150
      by_cases c16 : t198 = t193
      ·rw [if_pos c16] at H
       have c16b0 : (t198 == t193) = true := beq_iff_eq.mpr c16
       have c16b1 : (t198 != t193) = false := bne_eq_false_iff_eq.mpr c16
       clear c16
       have H' := Yd H
       clear H
       have p197 : 0 ≤ (x21_1 : Int) := Y9
       have q197 : x21_1 < (t194.length : Int) := Y9
       obtain ⟨ad197,e197,hx197_0⟩ := Kd.at_int (Kd.R_reads' HO_19.out).2.2 x21_1 p197 q197
       cases e197
       replace p197 := eq_true p197
       replace q197 := eq_true q197
       go_wp2_with (first | (go_at_call 37;(with_reducible refine (override_governs.calls k1 _ _ l0 (rd t194 x21_1) t198 _ ?side1 ?side2 A15.out).mono ?_);(case side1 => exact Y11 (Kd.C_below HR0.out HB.out));(case side2 => exact HC0.out);rintro e w17 ⟨rfl,hb⟩;have n0_ := Yd (Kd.R_below (Y5 HO_19.out) hb);have n1_ := Yd (below_step (Y3 HB.out) hb);clear HO_19;clear HB;have HO_19 := n0_;have HB := n1_;clear n0_ n1_;(try clear hb);(try clear hb2);(try clear hk);(try clear hi)))
       go_roundg k1
       case measure => have := HK1.out;omega
       case rel => exact ⟨(wrap64 (x21_1 + 1)),Y12,H',⟨by have := HK1.out;omega⟩,⟨Y5 HO_19.out⟩,⟨Y3 HB.out⟩⟩
      ·rw [if_neg c16] at H
       have c16b0 : (t198 == t193) = false := beq_eq_false_iff_ne.mpr c16
       have c16b1 : (t198 != t193) = true := bne_iff_ne.mpr c16
       simp only [Option.some.injEq,Prod.mk.injEq] at H
       obtain ⟨rfl,rfl⟩ := H
       have p197 : 0 ≤ (x21_1 : Int) := Y9
       have q197 : x21_1 < (t194.length : Int) := Y9
       obtain ⟨ad197,e197,hx197_0⟩ := Kd.at_int (Kd.R_reads' HO_19.out).2.2 x21_1 p197 q197
       cases e197
       replace p197 := eq_true p197
       replace q197 := eq_true q197
       go_wp2_with (first | (go_at_call 37;(with_reducible refine (override_governs.calls k1 _ _ l0 (rd t194 x21_1) t198 _ ?side1 ?side2 A15.out).mono ?_);(case side1 => exact Y11 (Kd.C_below HR0.out HB.out));(case side2 => exact HC0.out);rintro e w18 ⟨rfl,hb⟩;have n0_ := Yd (Kd.R_below (Y5 HO_19.out) hb);have n1_ := Yd (below_step (Y3 HB.out) hb);clear HO_19;clear HB;have HO_19 := n0_;have HB := n1_;clear n0_ n1_;(try clear hb);(try clear hb2);(try clear hk);(try clear hi)))
       go_ret2
       exact ⟨by first | rfl | (simp [errW_none,errW_some] <;> rfl) | (simp [*,errW_none,errW_some] <;> rfl),Y3 HB.out⟩
     ·rw [if_neg c14] at H
      have c14b0 : decide (a1 < (rd t194 x21_1)) = false := decide_eq_false c14
      clear c14
      have H' := Yd H
      clear H
      have p197 : 0 ≤ (x21_1 : Int) := Y9
      have q197 : x21_1 < (t194.length : Int) := Y9
      obtain ⟨ad197,e197,hx197_0⟩ := Kd.at_int (Kd.R_reads' HO_19.out).2.2 x21_1 p197 q197
      cases e197
      replace p197 := eq_true p197
      replace q197 := eq_true q197
      go_wp2
      go_roundg k1
      case measure => have := HK1.out;omega
      case rel => exact ⟨(wrap64 (x21_1 + 1)),Y12,H',⟨by have := HK1.out;omega⟩,⟨Y5 HO_19.out⟩,⟨Y3 HB.out⟩⟩
    ·rw [if_neg c11] at H
     have c11b0 : decide (x21_1 < (t194.length : Int)) = false := decide_eq_false c11
     clear c11
     simp only [Option.some.injEq,Prod.mk.injEq] at H
     obtain ⟨rfl,rfl⟩ := H
     go_wp2
     go_ret2
     exact ⟨by first | rfl | (simp [errW_none,errW_some] <;> rfl) | (simp [*,errW_none,errW_some] <;> rfl),Y3 HB.out⟩
 ·rw [if_neg c4] at H
  have c4b0 : (t192 == 0) = false := beq_eq_false_iff_ne.mpr c4
  have c4b1 : (t192 != 0) = true := bne_iff_ne.mpr c4
  simp only [Option.some.injEq,Prod.mk.injEq] at H
  obtain ⟨rfl,rfl⟩ := H
  go_enter Try.func20,Try.ntmps20
  go_wp2_with (first | ((with_reducible refine gate_callee (f := 16) rfl ?_);refine goesL_ (some 11) rfl rfl Try.func16 (by kernel_rfl) rfl #[.slice A0 l0.length c0] rfl Y8 ?_;(with_reducible refine (override_Check.calls k _ _ l0 t192 _ ?side1 ?side2 A3.out).mono ?_);(case side1 => repeat (first | exact HR0.out | (with_reducible refine Kd.C_alloc ?_ _) | (with_reducible refine Kd.C_drewN ?_ _) | (with_reducible refine Kd.C_drew ?_)));(case side2 => exact HC0.out);rintro e w19 ⟨rfl,hb⟩;refine ⟨_,rfl,?_⟩;have n0_ := Yd (below_step (Y3 HB.out) hb);clear HB;have HB := n0_;clear n0_;(try clear hb);(try clear hb2);(try clear hk);(try clear hi)))
  go_ret2
  exact ⟨by first | rfl | (simp [errW_none,errW_some] <;> rfl) | (simp [*,errW_none,errW_some] <;> rfl),Y3 HB.out⟩
def plenumlaw34_awake.f (k : Nat)  : Option (Bool) := (some (([(⟨(⟨#[97]⟩ : ByteArray),100,200,(⟨2,1⟩ : S24),1⟩ : S26),(⟨(⟨#[98]⟩ : ByteArray),150,160,(⟨2,1⟩ : S24),2⟩ : S26)] : List (S26)) : List (S26))).bind fun y200 => ((override_Pieces.f k y200 140 210).bind fun bt203 => ((override_Next.f k y200 140).bind fun bt207 => ((override_Next.f k y200 200).bind fun bt209 => (if bt203.2 = 0 then (if (bt203.1.length : Int) = 4 then (if 1 < (bt203.1.length : Int) then (if (((rd_T49 bt203.1 1).f0) == 150 && (((rd_T49 bt203.1 1).f1) == 160 && (((rd_T49 bt203.1 1).f2) == 1))) = true then (if bt207.2 = 0 then (if bt207.1 = 150 then (if bt209.2 = 9 then ((override_At.f k y200 160).bind fun t212 => (if t212 = 0 then ((override_At.f k y200 200).bind fun t213 => (some (t213 == (-1)))) else (none))) else (none)) else (none)) else (none)) else (none)) else (none)) else (none)) else (none)))))
theorem plenumlaw34_awake.mono : ∀ k,LeO (plenumlaw34_awake.f k ) (plenumlaw34_awake.f (k + 1) ) := by
 intro  k
 unfold plenumlaw34_awake.f
 repeat' first
   | (with_reducible exact override_At.mono _ _ _)
   | (with_reducible exact override_Next.mono _ _ _)
   | (with_reducible exact override_Pieces.mono _ _ _ _)
   | (with_reducible exact LeO.refl _)
   | (with_reducible exact LeO.none _)
   | (with_reducible refine LeO.ite ?_ ?_)
   | (with_reducible refine LeO.bind ?_ (fun _ => ?_))
   | exact override_At.mono _ _ _
   | exact override_Next.mono _ _ _
   | exact override_Pieces.mono _ _ _ _
   | exact LeO.none _
   | refine LeO.ite ?_ ?_
   | refine LeO.bind ?_ (fun _ => ?_)
set_option maxHeartbeats 100000000 in
set_option maxRecDepth 100000 in
theorem plenumlaw34_awake.calls (k : Nat)  (r : Bool) (w : World) (h : plenumlaw34_awake.f k  = some r) :
  Calls Try.prog 6 #[] w fun e w' => e = .returned (.bool r) ∧ Below w.heap.size w w' := by
 have hu24 := Try.underlying24
 have hu26 := Try.underlying26
 have hu49 := Try.underlying49
 have HB := Yd (Below.refl w.heap.size w)
 have H : ((some (([(⟨(⟨#[97]⟩ : ByteArray),100,200,(⟨2,1⟩ : S24),1⟩ : S26),(⟨(⟨#[98]⟩ : ByteArray),150,160,(⟨2,1⟩ : S24),2⟩ : S26)] : List (S26)) : List (S26))).bind fun y200 => ((override_Pieces.f k y200 140 210).bind fun bt203 => ((override_Next.f k y200 140).bind fun bt207 => ((override_Next.f k y200 200).bind fun bt209 => (if bt203.2 = 0 then (if (bt203.1.length : Int) = 4 then (if 1 < (bt203.1.length : Int) then (if (((rd_T49 bt203.1 1).f0) == 150 && (((rd_T49 bt203.1 1).f1) == 160 && (((rd_T49 bt203.1 1).f2) == 1))) = true then (if bt207.2 = 0 then (if bt207.1 = 150 then (if bt209.2 = 9 then ((override_At.f k y200 160).bind fun t212 => (if t212 = 0 then ((override_At.f k y200 200).bind fun t213 => (some (t213 == (-1)))) else (none))) else (none)) else (none)) else (none)) else (none)) else (none)) else (none)) else (none)))))) = some r := h
 clear h
 obtain ⟨y200,hy200⟩ : ∃ y_ : List (S26),y_ = (([(⟨(⟨#[97]⟩ : ByteArray),100,200,(⟨2,1⟩ : S24),1⟩ : S26),(⟨(⟨#[98]⟩ : ByteArray),150,160,(⟨2,1⟩ : S24),2⟩ : S26)] : List (S26))) := ⟨_,rfl⟩
 replace H : ((override_Pieces.f k y200 140 210).bind fun bt203 => ((override_Next.f k y200 140).bind fun bt207 => ((override_Next.f k y200 200).bind fun bt209 => (if bt203.2 = 0 then (if (bt203.1.length : Int) = 4 then (if 1 < (bt203.1.length : Int) then (if (((rd_T49 bt203.1 1).f0) == 150 && (((rd_T49 bt203.1 1).f1) == 160 && (((rd_T49 bt203.1 1).f2) == 1))) = true then (if bt207.2 = 0 then (if bt207.1 = 150 then (if bt209.2 = 9 then ((override_At.f k y200 160).bind fun t212 => (if t212 = 0 then ((override_At.f k y200 200).bind fun t213 => (some (t213 == (-1)))) else (none))) else (none)) else (none)) else (none)) else (none)) else (none)) else (none)) else (none))))) = some r := by first | (rw [hy200];with_reducible exact H) | (have H2_ := (Option.bind_some _ _).symm.trans H;rw [hy200];with_reducible exact H2_) | (have H2_ := (Option.bind_some _ _).symm.trans H;with_reducible exact H2_) | with_reducible exact H | (rw [hy200];exact H) | exact H
 have Ny200 := Yd hy200
 clear hy200
 replace H := Option.bind_eq_some_iff.mp H
 obtain ⟨⟨t203,t204⟩,A10,H⟩ := H
 replace H : ((override_Next.f k y200 140).bind fun bt207 => ((override_Next.f k y200 200).bind fun bt209 => (if t204 = 0 then (if (t203.length : Int) = 4 then (if 1 < (t203.length : Int) then (if (((rd_T49 t203 1).f0) == 150 && (((rd_T49 t203 1).f1) == 160 && (((rd_T49 t203 1).f2) == 1))) = true then (if bt207.2 = 0 then (if bt207.1 = 150 then (if bt209.2 = 9 then ((override_At.f k y200 160).bind fun t212 => (if t212 = 0 then ((override_At.f k y200 200).bind fun t213 => (some (t213 == (-1)))) else (none))) else (none)) else (none)) else (none)) else (none)) else (none)) else (none)) else (none)))) = some r := H
 have A1 := Yd A10
 clear A10
 replace H := Option.bind_eq_some_iff.mp H
 obtain ⟨⟨t207,t208⟩,A20,H⟩ := H
 replace H : ((override_Next.f k y200 200).bind fun bt209 => (if t204 = 0 then (if (t203.length : Int) = 4 then (if 1 < (t203.length : Int) then (if (((rd_T49 t203 1).f0) == 150 && (((rd_T49 t203 1).f1) == 160 && (((rd_T49 t203 1).f2) == 1))) = true then (if t208 = 0 then (if t207 = 150 then (if bt209.2 = 9 then ((override_At.f k y200 160).bind fun t212 => (if t212 = 0 then ((override_At.f k y200 200).bind fun t213 => (some (t213 == (-1)))) else (none))) else (none)) else (none)) else (none)) else (none)) else (none)) else (none)) else (none))) = some r := H
 have A2 := Yd A20
 clear A20
 replace H := Option.bind_eq_some_iff.mp H
 obtain ⟨⟨t209,t210⟩,A30,H⟩ := H
 replace H : (if t204 = 0 then (if (t203.length : Int) = 4 then (if 1 < (t203.length : Int) then (if (((rd_T49 t203 1).f0) == 150 && (((rd_T49 t203 1).f1) == 160 && (((rd_T49 t203 1).f2) == 1))) = true then (if t208 = 0 then (if t207 = 150 then (if t210 = 9 then ((override_At.f k y200 160).bind fun t212 => (if t212 = 0 then ((override_At.f k y200 200).bind fun t213 => (some (t213 == (-1)))) else (none))) else (none)) else (none)) else (none)) else (none)) else (none)) else (none)) else (none)) = some r := H
 have A3 := Yd A30
 clear A30
 by_cases c4 : t204 = 0
 case neg => rw [if_neg c4] at H;exact absurd H (by simp)
 rw [if_pos c4] at H
 have c4b0 : (t204 == 0) = true := beq_iff_eq.mpr c4
 have c4b1 : (t204 != 0) = false := bne_eq_false_iff_eq.mpr c4
 clear c4
 by_cases c5 : (t203.length : Int) = 4
 case neg => rw [if_neg c5] at H;exact absurd H (by simp)
 rw [if_pos c5] at H
 have c5b0 : ((t203.length : Int) == 4) = true := beq_iff_eq.mpr c5
 have c5b1 : ((t203.length : Int) != 4) = false := bne_eq_false_iff_eq.mpr c5
 clear c5
 by_cases c6 : 1 < (t203.length : Int)
 case neg => rw [if_neg c6] at H;exact absurd H (by simp)
 rw [if_pos c6] at H
 have c6b0 : decide (1 < (t203.length : Int)) = true := decide_eq_true c6
 have c6b1 : decide (1 < t203.length) = true := decide_eq_true (by omega)
 clear c6
 by_cases c7 : (((rd_T49 t203 1).f0) == 150 && (((rd_T49 t203 1).f1) == 160 && (((rd_T49 t203 1).f2) == 1))) = true
 case neg => rw [if_neg c7] at H;exact absurd H (by simp)
 rw [if_pos c7] at H
 have c7b0 : (((rd_T49 t203 1).f0) == 150 && (((rd_T49 t203 1).f1) == 160 && (((rd_T49 t203 1).f2) == 1))) = true := c7
 (try (have c7b1 : decide (((rd_T49 t203 1).f0) = 150 && (((rd_T49 t203 1).f1) == 160 && (((rd_T49 t203 1).f2) == 1))) = true := by simpa using c7))
 (try (have c7b2 : (((rd_T49 t203 1).f0) == 150 && (((rd_T49 t203 1).f1) == 160 && (((rd_T49 t203 1).f2) == 1))) = true := by simpa using c7))
 clear c7
 by_cases c8 : t208 = 0
 case neg => rw [if_neg c8] at H;exact absurd H (by simp)
 rw [if_pos c8] at H
 have c8b0 : (t208 == 0) = true := beq_iff_eq.mpr c8
 have c8b1 : (t208 != 0) = false := bne_eq_false_iff_eq.mpr c8
 clear c8
 by_cases c9 : t207 = 150
 case neg => rw [if_neg c9] at H;exact absurd H (by simp)
 rw [if_pos c9] at H
 have c9b0 : (t207 == 150) = true := beq_iff_eq.mpr c9
 have c9b1 : (t207 != 150) = false := bne_eq_false_iff_eq.mpr c9
 clear c9
 by_cases c10 : t210 = 9
 case neg => rw [if_neg c10] at H;exact absurd H (by simp)
 rw [if_pos c10] at H
 have c10b0 : (t210 == 9) = true := beq_iff_eq.mpr c10
 have c10b1 : (t210 != 9) = false := bne_eq_false_iff_eq.mpr c10
 clear c10
 replace H := Option.bind_eq_some_iff.mp H
 obtain ⟨t212,A110,H⟩ := H
 replace H : (if t212 = 0 then ((override_At.f k y200 200).bind fun t213 => (some (t213 == (-1)))) else (none)) = some r := H
 have A11 := Yd A110
 clear A110
 by_cases c12 : t212 = 0
 case neg => rw [if_neg c12] at H;exact absurd H (by simp)
 rw [if_pos c12] at H
 have c12b0 : (t212 == 0) = true := beq_iff_eq.mpr c12
 have c12b1 : (t212 != 0) = false := bne_eq_false_iff_eq.mpr c12
 clear c12
 replace H := Option.bind_eq_some_iff.mp H
 obtain ⟨t213,A130,H⟩ := H
 replace H : (some (t213 == (-1))) = some r := H
 have A13 := Yd A130
 clear A130
 obtain rfl := Option.some.inj H
 go_enter Try.func6,Try.ntmps6
 go_wp2_with (first | ((with_reducible refine gate_dst (N := 1) rfl ?_);refine box_event ?hg (N := 1) ?hd (cs := #[.int .i64 0,.int .i64 0]) (t := 24) ?hr ?_;(case hd => rfl);(case hg => rfl);(case hr => first | (go_simp;done) | (go_simp;rfl));intro gb199 hg w14 hbox hb;have n0_ := Yd (below_step (Y3 HB.out) hb);have n1_ := Yd (hbox);have n2_ := Yd ((by rw [hg];exact (below_size (Y3 HB.out)) : w.heap.size ≤ gb199));have n3_ := Yd ((by rw [hg];exact (below_size (Y3 HB.out)) : w.heap.size ≤ gb199));clear HB;have HB := n0_;have BK199 := n1_;have GW199 := n2_;have GE199 := n3_;clear n0_ n1_ n2_ n3_;clear hb hbox hg;have hcz15_0 : w14.cell? ⟨gb199,0,none⟩ = some (.int .i64 0) := (blk_cell BK199.out 0).trans rfl;have hcz15_1 : w14.cell? ⟨gb199,1,none⟩ = some (.int .i64 0) := (blk_cell BK199.out 1).trans rfl;have hfz15_0 := blk_frozen BK199.out 0;have hfz15_1 := blk_frozen BK199.out 1) | ((with_reducible refine gate_dst (N := 14) rfl ?_);refine Kd.R_lit k26 _ 26 ?hg (N := 14) ?hd (xs := ([(⟨(⟨#[97]⟩ : ByteArray),100,200,(⟨2,1⟩ : S24),1⟩ : S26),(⟨(⟨#[98]⟩ : ByteArray),150,160,(⟨2,1⟩ : S24),2⟩ : S26)] : List (S26))) (inner := [.string (⟨#[97]⟩ : ByteArray),.int .i64 100,.int .i64 200,.int .i64 2,.int .i64 1,.int .i64 1,.string (⟨#[98]⟩ : ByteArray),.int .i64 150,.int .i64 160,.int .i64 2,.int .i64 1,.int .i64 2]) (ok := fun _ => True) (okp := fun _ => True) ?hr ?hp (fun _ hk => hk) trivial (Below.refl _ _) (Nat.le_refl _) (by simp) ?_;(case hd => rfl);(case hg => rfl);(case hr => first | (go_simp;done) | (go_simp;rfl));(case hp => exact (Reps.c6 (show Kd.M k26 _ _ _ (⟨(⟨#[97]⟩ : ByteArray),100,200,(⟨2,1⟩ : S24),1⟩ : S26) [.string (⟨#[97]⟩ : ByteArray),.int .i64 100,.int .i64 200,.int .i64 2,.int .i64 1,.int .i64 1] from (k26_mkM _ _ _ (⟨(⟨#[97]⟩ : ByteArray),100,200,(⟨2,1⟩ : S24),1⟩ : S26) )) (Reps.c6 (show Kd.M k26 _ _ _ (⟨(⟨#[98]⟩ : ByteArray),150,160,(⟨2,1⟩ : S24),2⟩ : S26) [.string (⟨#[98]⟩ : ByteArray),.int .i64 150,.int .i64 160,.int .i64 2,.int .i64 1,.int .i64 2] from (k26_mkM _ _ _ (⟨(⟨#[98]⟩ : ByteArray),150,160,(⟨2,1⟩ : S24),2⟩ : S26) )) (Reps.none _ _))));intro v201 w16 ho17 hb hg_ hnew_;clear hg_ hnew_;(first | rw [← Ny200.out] at ho17 | (simp only [Int.reduceToNat] at ho17;rw [← Ny200.out] at ho17));have n0_ := Yd (Kd.R_lower ho17 (below_size (by first | exact Y4 HB.out GE199.out | exact Y3 HB.out)));have n1_ := Yd (blk_below (g := gb199) (o := .cells #[.int .i64 2,.int .i64 1] 24 (0,0)) (by (with_reducible repeat (first | refine blk_drewN ?_ _ | refine blk_drew ?_ | refine blk_alloc ?_ _));refine blk_put (cs := #[.int .i64 2,.int .i64 0]) ?_ 1 _ rfl;(with_reducible repeat (first | refine blk_drewN ?_ _ | refine blk_drew ?_ | refine blk_alloc ?_ _));refine blk_put (cs := #[.int .i64 0,.int .i64 0]) ?_ 0 _ rfl;(with_reducible repeat (first | refine blk_drewN ?_ _ | refine blk_drew ?_ | refine blk_alloc ?_ _));exact BK199.out) hb);have n2_ := Yd (below_step (by first | exact Y4 HB.out GE199.out | exact Y3 HB.out) hb);clear BK199;clear HB;have HO202 := n0_;have BK199 := n1_;have HB := n2_;clear n0_ n1_ n2_;clear hb ho17;obtain ⟨Ao18,co18,eo18⟩ := Kd.R_slice HO202.out;subst eo18) | ((with_reducible refine gate_callee (f := 19) rfl ?_);refine goesL_ (some 17) rfl rfl Try.func19 (by kernel_rfl) rfl #[.slice Ao18 y200.length co18,.int .i64 140,.int .i64 210] rfl Y8 ?_;(with_reducible refine (override_Pieces.calls k _ _ y200 140 210 t203 t204 _ ?side1 ?side2 A1.out).mono ?_);(case side1 => repeat (first | exact (Kd.R_reads' HO202.out).2.2 | (with_reducible refine Kd.C_alloc ?_ _) | (with_reducible refine Kd.C_drewN ?_ _) | (with_reducible refine Kd.C_drew ?_)));(case side2 => exact (Kd.R_reads' HO202.out).2.1);rintro e w19 ⟨v205,rfl,ho0,hb⟩;refine ⟨_,rfl,?_⟩;have n0_ := Yd (Kd.R_below (Y5 HO202.out) hb);have n1_ := Yd (Kd.R_lower ho0 (below_size (by first | exact Y4 HB.out GE199.out | exact Y3 HB.out)));have n2_ := Yd (blk_below (g := gb199) (o := .cells #[.int .i64 2,.int .i64 1] 24 (0,0)) (Y6 BK199.out) hb);have n3_ := Yd (below_step (by first | exact Y4 HB.out GE199.out | exact Y3 HB.out) hb);clear HO202;clear BK199;clear HB;have HO202 := n0_;have HO206 := n1_;have BK199 := n2_;have HB := n3_;clear n0_ n1_ n2_ n3_;(try clear hb);(try clear hb2);(try clear hk);(try clear hi);(try clear ho0)) | ((with_reducible refine gate_callee (f := 20) rfl ?_);refine goesL_ (some 22) rfl rfl Try.func20 (by kernel_rfl) rfl #[.slice Ao18 y200.length co18,.int .i64 140] rfl Y8 ?_;(with_reducible refine (override_Next.calls k _ _ y200 140 t207 t208 _ ?side1 ?side2 A2.out).mono ?_);(case side1 => repeat (first | exact (Kd.R_reads' HO202.out).2.2 | (with_reducible refine Kd.C_alloc ?_ _) | (with_reducible refine Kd.C_drewN ?_ _) | (with_reducible refine Kd.C_drew ?_)));(case side2 => exact (Kd.R_reads' HO202.out).2.1);rintro e w20 ⟨rfl,hb⟩;refine ⟨_,rfl,?_⟩;have n0_ := Yd (Kd.R_below (Y5 HO202.out) hb);have n1_ := Yd (Kd.R_below (Y5 HO206.out) hb);have n2_ := Yd (blk_below (g := gb199) (o := .cells #[.int .i64 2,.int .i64 1] 24 (0,0)) (Y6 BK199.out) hb);have n3_ := Yd (below_step (by first | exact Y4 HB.out GE199.out | exact Y3 HB.out) hb);clear HO202;clear HO206;clear BK199;clear HB;have HO202 := n0_;have HO206 := n1_;have BK199 := n2_;have HB := n3_;clear n0_ n1_ n2_ n3_;(try clear hb);(try clear hb2);(try clear hk);(try clear hi)) | ((with_reducible refine gate_callee (f := 20) rfl ?_);refine goesL_ (some 27) rfl rfl Try.func20 (by kernel_rfl) rfl #[.slice Ao18 y200.length co18,.int .i64 200] rfl Y8 ?_;(with_reducible refine (override_Next.calls k _ _ y200 200 t209 t210 _ ?side1 ?side2 A3.out).mono ?_);(case side1 => repeat (first | exact (Kd.R_reads' HO202.out).2.2 | (with_reducible refine Kd.C_alloc ?_ _) | (with_reducible refine Kd.C_drewN ?_ _) | (with_reducible refine Kd.C_drew ?_)));(case side2 => exact (Kd.R_reads' HO202.out).2.1);rintro e w21 ⟨rfl,hb⟩;refine ⟨_,rfl,?_⟩;have n0_ := Yd (Kd.R_below (Y5 HO202.out) hb);have n1_ := Yd (Kd.R_below (Y5 HO206.out) hb);have n2_ := Yd (blk_below (g := gb199) (o := .cells #[.int .i64 2,.int .i64 1] 24 (0,0)) (Y6 BK199.out) hb);have n3_ := Yd (below_step (by first | exact Y4 HB.out GE199.out | exact Y3 HB.out) hb);clear HO202;clear HO206;clear BK199;clear HB;have HO202 := n0_;have HO206 := n1_;have BK199 := n2_;have HB := n3_;clear n0_ n1_ n2_ n3_;(try clear hb);(try clear hb2);(try clear hk);(try clear hi);obtain ⟨Ao22,co22,eo22⟩ := Kd.R_slice HO206.out;subst eo22;have p211 : 0 ≤ (1 : Int) := (by omega);have q211 : 1 < (t203.length : Int) := Y9;obtain ⟨ad211,e211,hx211_0,hx211_1,hx211_2⟩ := at_T49 (Kd.R_reads' HO206.out).2.2 1 p211 q211;cases e211;(try simp only [show (1 : Int).toNat = 1 from rfl,Nat.reduceMul,Nat.reduceEqDiff,Go.Addr.add,↓reduceIte] at hx211_0);(try simp only [show (1 : Int).toNat = 1 from rfl,Nat.reduceMul,Nat.reduceEqDiff,Go.Addr.add,↓reduceIte] at hx211_1);(try simp only [show (1 : Int).toNat = 1 from rfl,Nat.reduceMul,Nat.reduceEqDiff,Go.Addr.add,↓reduceIte] at hx211_2);have qi211 : (1 < t203.length) = True := eq_true (by omega);(try rw [show ((1 : Int)).toNat = 1 from rfl] at hx211_0);(try rw [show 1 * 3 = 3 from rfl] at hx211_0);(try rw [show ((1 : Int)).toNat = 1 from rfl] at hx211_1);(try rw [show 1 * 3 = 3 from rfl] at hx211_1);(try rw [show ((1 : Int)).toNat = 1 from rfl] at hx211_2);(try rw [show 1 * 3 = 3 from rfl] at hx211_2);replace p211 := eq_true p211;replace q211 := eq_true q211) | (go_at_call 17;(with_reducible refine (override_At.calls k _ _ y200 160 t212 _ ?side1 ?side2 A11.out).mono ?_);(case side1 => repeat (first | exact (Kd.R_reads' HO202.out).2.2 | (with_reducible refine Kd.C_alloc ?_ _) | (with_reducible refine Kd.C_drewN ?_ _) | (with_reducible refine Kd.C_drew ?_)));(case side2 => exact (Kd.R_reads' HO202.out).2.1);rintro e w23 ⟨rfl,hb⟩;have n0_ := Yd (Kd.R_below (Y5 HO202.out) hb);have n1_ := Yd (Kd.R_below (Y5 HO206.out) hb);have n2_ := Yd (blk_below (g := gb199) (o := .cells #[.int .i64 2,.int .i64 1] 24 (0,0)) (Y6 BK199.out) hb);have n3_ := Yd (below_step (by first | exact Y4 HB.out GE199.out | exact Y3 HB.out) hb);clear HO202;clear HO206;clear BK199;clear HB;have HO202 := n0_;have HO206 := n1_;have BK199 := n2_;have HB := n3_;clear n0_ n1_ n2_ n3_;(try clear hb);(try clear hb2);(try clear hk);(try clear hi)) | (go_at_call 17;(with_reducible refine (override_At.calls k _ _ y200 200 t213 _ ?side1 ?side2 A13.out).mono ?_);(case side1 => repeat (first | exact (Kd.R_reads' HO202.out).2.2 | (with_reducible refine Kd.C_alloc ?_ _) | (with_reducible refine Kd.C_drewN ?_ _) | (with_reducible refine Kd.C_drew ?_)));(case side2 => exact (Kd.R_reads' HO202.out).2.1);rintro e w24 ⟨rfl,hb⟩;have n0_ := Yd (Kd.R_below (Y5 HO202.out) hb);have n1_ := Yd (Kd.R_below (Y5 HO206.out) hb);have n2_ := Yd (blk_below (g := gb199) (o := .cells #[.int .i64 2,.int .i64 1] 24 (0,0)) (Y6 BK199.out) hb);have n3_ := Yd (below_step (by first | exact Y4 HB.out GE199.out | exact Y3 HB.out) hb);clear HO202;clear HO206;clear BK199;clear HB;have HO202 := n0_;have HO206 := n1_;have BK199 := n2_;have HB := n3_;clear n0_ n1_ n2_ n3_;(try clear hb);(try clear hb2);(try clear hk);(try clear hi)))
 go_ret
 exact ⟨by first | rfl | (simp [errW_none,errW_some] <;> rfl) | (simp [*,errW_none,errW_some] <;> rfl),by repeat (first | (with_reducible first | exact HB.out | apply below_alloc | apply Y15 | apply below_drew1 | refine below_set ?_ GE199.out) | exact HB.out)⟩
end Go.Proofs.Ytaoicdkjjjlmeaa.PD34
namespace Go.Proofs.Ytaoicdkjjjlmeaa.PD34
open Go.RowKit Go.Proofs.YtaoicdkjjjlmeaaW.PrintWords Go.Proofs.YtaoicdkjjjlmeaaW.PrintLast Go.Proofs.YtaoicdkjjjlmeaaW.PrintMore
attribute [local go_sem] max2_int min2_int max_two min_two max_three min_three max_four min_four   -- for this text's walks alone
def plenumref34_Few.l0 : Nat → List (S26) → Int → Option (Bool)
 | 0,_,_ => none
 | k + 1,x0,x3 => if x3 < (x0.length : Int) then (if 0 ≤ x3 then (if (((rd_T26 x0 x3).f0).size : Int) > 100 then (some false) else (plenumref34_Few.l0 k x0 (wrap64 (x3 + 1)))) else (none)) else (some true)
def plenumref34_Few.f (k : Nat) (l0 : List (S26)) : Option (Bool) := if (l0.length : Int) > 70 then (some false) else (plenumref34_Few.l0 k l0 0)
theorem plenumref34_Few.mono_l : ∀ k,(∀ y0 y1,LeO (plenumref34_Few.l0 k y0 y1) (plenumref34_Few.l0 (k + 1) y0 y1))
 | 0 => fun _ _ r h => by simp [plenumref34_Few.l0] at h
 | k + 1 => by
  have ih0 := plenumref34_Few.mono_l k
  ·intro y0 y1
   unfold plenumref34_Few.l0
   repeat' first
   | (with_reducible exact ih0 _ _)
   | (with_reducible exact LeO.refl _)
   | (with_reducible exact LeO.none _)
   | (with_reducible refine LeO.ite ?_ ?_)
   | (with_reducible refine LeO.bind ?_ (fun _ => ?_))
   | exact ih0 _ _
   | exact LeO.none _
   | refine LeO.ite ?_ ?_
   | refine LeO.bind ?_ (fun _ => ?_)
theorem plenumref34_Few.mono : ∀ a0 k,LeO (plenumref34_Few.f k a0) (plenumref34_Few.f (k + 1) a0) := by
 intro a0 k
 have ih0 := plenumref34_Few.mono_l k
 unfold plenumref34_Few.f
 repeat' first
   | (with_reducible exact ih0 _ _)
   | (with_reducible exact LeO.refl _)
   | (with_reducible exact LeO.none _)
   | (with_reducible refine LeO.ite ?_ ?_)
   | (with_reducible refine LeO.bind ?_ (fun _ => ?_))
   | exact ih0 _ _
   | exact LeO.none _
   | refine LeO.ite ?_ ?_
   | refine LeO.bind ?_ (fun _ => ?_)
set_option maxHeartbeats 100000000 in
set_option maxRecDepth 100000 in
theorem plenumref34_Few.calls (k : Nat) (A0 : Option Addr) (c0 : Nat) (l0 : List (S26)) (r : Bool) (w : World) (hr0 : Kd.C k26 w A0 l0.length l0) (hc0 : l0.length ≤ c0) (h : plenumref34_Few.f k l0 = some r) :
  Calls Try.prog 7 #[.slice A0 l0.length c0] w fun e w' => e = .returned (.bool r) ∧ Drawn0 w w' := by
 have HR0 := Yd hr0
 have HC0 := Yd hc0
 clear hr0 hc0
 have H : (if (l0.length : Int) > 70 then (some false) else (plenumref34_Few.l0 k l0 0)) = some r := h
 clear h
 by_cases c2 : (l0.length : Int) > 70
 ·rw [if_pos c2] at H
  have c2b0 : decide (70 < (l0.length : Int)) = true := decide_eq_true c2
  have c2b1 : decide (70 < l0.length) = true := decide_eq_true (by omega)
  clear c2
  obtain rfl := Option.some.inj H
  go_enter Try.func7,Try.ntmps7
  go_wp2
  go_ret
  exact ⟨by first | rfl | (simp;done) | (simp [*];done),by repeat (first | exact Drawn0.refl _ | apply Drawn0.step)⟩
 ·rw [if_neg c2] at H
  have c2b0 : decide (70 < (l0.length : Int)) = false := decide_eq_false c2
  have c2b1 : decide (70 < l0.length) = false := decide_eq_false (by omega)
  clear c2
  have H' := Yd H
  clear H
  go_enter Try.func7,Try.ntmps7
  go_wp2
  go_loopg [3] k (fun kq v3 w' => ∃ (x3_1 : Int),v3 = .int .i64 x3_1 ∧ Aside0 (plenumref34_Few.l0 kq l0 x3_1 = some r) ∧ Aside0 (kq ≤ k) ∧ Drawn0 w w')
  case atStart => exact ⟨(0),Y12,H',⟨Nat.le_refl _⟩,by repeat (first | exact Drawn0.refl _ | apply Drawn0.step)⟩
  case round =>
   clear H'
   try clear c2
   try clear c2b0
   try clear c2b1
   try clear p2
   obtain ⟨x3_1,rfl,HA,HK1,⟨m1,rfl⟩⟩ := hrel
   cases gk with
   | zero => exact absurd HA.out (by simp [plenumref34_Few.l0])
   | succ k1 =>
    have H := HA.out
    clear HA
    simp only [plenumref34_Few.l0] at H
    by_cases c3 : x3_1 < (l0.length : Int)
    ·rw [if_pos c3] at H
     have c3b0 : decide (x3_1 < (l0.length : Int)) = true := decide_eq_true c3
     clear c3
     by_cases c4 : 0 ≤ x3_1
     case neg => rw [if_neg c4] at H;exact absurd H (by simp)
     rw [if_pos c4] at H
     have c4b0 : decide (0 ≤ x3_1) = true := decide_eq_true c4
     clear c4
     by_cases c5 : (((rd_T26 l0 x3_1).f0).size : Int) > 100
     ·rw [if_pos c5] at H
      have c5b0 : decide (100 < (((rd_T26 l0 x3_1).f0).size : Int)) = true := decide_eq_true c5
      have c5b1 : decide (100 < ((rd_T26 l0 x3_1).f0).size) = true := decide_eq_true (by omega)
      clear c5
      obtain rfl := Option.some.inj H
      have p214 : 0 ≤ (x3_1 : Int) := Y9
      have q214 : x3_1 < (l0.length : Int) := Y9
      obtain ⟨ad214,e214,hx214_0,hx214_1,hx214_2,hx214_3,hx214_4,hx214_5⟩ := at_T26 HR0.out x3_1 p214 q214
      cases e214
      replace p214 := eq_true p214
      replace q214 := eq_true q214
      go_wp2
      go_ret
      exact ⟨by first | rfl | (simp;done) | (simp [*];done),by repeat (first | exact Drawn0.refl _ | apply Drawn0.step)⟩
     ·rw [if_neg c5] at H
      have c5b0 : decide (100 < (((rd_T26 l0 x3_1).f0).size : Int)) = false := decide_eq_false c5
      have c5b1 : decide (100 < ((rd_T26 l0 x3_1).f0).size) = false := decide_eq_false (by omega)
      clear c5
      have H' := Yd H
      clear H
      have p214 : 0 ≤ (x3_1 : Int) := Y9
      have q214 : x3_1 < (l0.length : Int) := Y9
      obtain ⟨ad214,e214,hx214_0,hx214_1,hx214_2,hx214_3,hx214_4,hx214_5⟩ := at_T26 HR0.out x3_1 p214 q214
      cases e214
      replace p214 := eq_true p214
      replace q214 := eq_true q214
      go_wp2
      go_roundg k1
      case measure => have := HK1.out;omega
      case rel => exact ⟨(wrap64 (x3_1 + 1)),Y12,H',⟨by have := HK1.out;omega⟩,by repeat (first | exact Drawn0.refl _ | apply Drawn0.step)⟩
    ·rw [if_neg c3] at H
     have c3b0 : decide (x3_1 < (l0.length : Int)) = false := decide_eq_false c3
     clear c3
     obtain rfl := Option.some.inj H
     go_wp2
     go_ret
     exact ⟨by first | rfl | (simp;done) | (simp [*];done),by repeat (first | exact Drawn0.refl _ | apply Drawn0.step)⟩
-- NOT PRINTED: function 21 (api_Hold_21)
end Go.Proofs.Ytaoicdkjjjlmeaa.PD34
namespace Go.Proofs.Ytaoicdkjjjlmeaa.PD34
open Go.RowKit Go.Proofs.YtaoicdkjjjlmeaaW.PrintWords Go.Proofs.YtaoicdkjjjlmeaaW.PrintLast Go.Proofs.YtaoicdkjjjlmeaaW.PrintMore
def api_Hold_22.f (l0 : List S26) : Option (List S26) := if l0.length < 2513169434916 then some l0 else none
set_option maxHeartbeats 8000000 in
set_option maxRecDepth 100000 in
theorem api_Hold_22.calls (A0 : Option Addr) (c0 : Nat) (l0 : List S26) (r : List S26) (w : World) (hr0 : Kd.C k26 w A0 l0.length l0) (hc0 : l0.length ≤ c0) (h : api_Hold_22.f l0 = some r) :
  Calls Try.prog 22 #[.slice A0 l0.length c0] w fun e w' => ∃ v0_ : Value, e = .returned (v0_) ∧ Kd.R k26 26 w' w.heap.size (fun _ => True) v0_ r ∧ Below w.heap.size w w' := by
 have hue := Try.underlying26
 have hus := Try.underlying22
 unfold api_Hold_22.f at h
 split at h
 ·rename_i hl
  rw [Option.some.injEq] at h
  subst h
  have LM := Aside0.mk hl
  clear hl
  have hq : ∀ (w : World) (a : Option Addr) (n c n' c' : Nat), (binOp .eql 22 (.slice a n c) (.slice none n' c')).run Try.prog w = .ok (.bool a.isNone) w := fun w a n c n' c' => Go.Lib.run_eql_slice_nil w _ _ a n c n' c' Try.underlying22
  cases A0 with
  | none =>
   have hl0 : l0 = [] := by
    rcases Nat.eq_zero_or_pos l0.length with h0 | h0
    ·exact List.length_eq_zero_iff.1 h0
    ·obtain ⟨ad, ha, _⟩ := hr0.2.2 h0
     exact absurd ha (by simp)
   subst hl0
   clear hr0
   go_enter Try.func22, Try.ntmps22
   go_wp2
   go_ret
   exact ⟨_, rfl, Kd.R_nil _ _ _ _ _, Below.refl _ _⟩
  | some a =>
   have HR0 := Aside0.mk hr0
   clear hr0
   have HB := Aside0.mk (Below.refl w.heap.size w)
   go_enter Try.func22, Try.ntmps22
   go_wp2_with (first | ((with_reducible refine gate_dst (N := 5) rfl ?_); refine Kd.R_lit k26 _ 26 ?hg (N := 5) ?hd (xs := ([] : List S26)) (inner := []) (ok := fun _ => True) (okp := fun _ => True) ?hr ?hp (fun _ hk => hk) trivial (Below.refl _ _) (Nat.le_refl _) (by simp) ?_; (case hd => rfl); (case hg => rfl); (case hr => first | (go_simp; done) | (go_simp; rfl)); (case hp => exact (Reps.none _ _)); intro v309 w10 ho11 hb hg_ hnew_; clear hg_ hnew_; have n0_ := Aside0.mk (Kd.R_lower ho11 (below_size HB.out)); have n1_ := Aside0.mk (below_step HB.out hb); clear HB; have HO310 := n0_; have HB := n1_; clear n0_ n1_; clear hb ho11) | ((with_reducible refine gate_builtin (b := .append) (xs := #[.tmp 5, .tmp 6]) rfl ?_); at_builtin; refine Kd.R_append_rows k26 (w0 := w) w.heap.size rfl (.tmp 5) (.tmp 6) 22 26 (.agg #[(.string ⟨#[]⟩), (.int .i64 0), (.int .i64 0), (.int .i64 0), (.int .i64 0), (.int .i64 0)]) 56 rfl Try.underlying22 info26 rfl (by decide) (by omega) v309 ([] : List S26) l0 _ _ _ (fun _ => True) (fun _ => False) rfl rfl ?aO ?aR (fun _ _ h => h) (fun _ h => h.elim) ?aF ?aB ?aS ?aL ?_; (case aR => exact (Kd.C_below HR0.out HB.out)); (case aB => exact HB.out); (case aF => exact (fun _ _ => trivial)); (case aO => exact HO310.out); (case aS => exact (below_size HB.out)); (case aL => have := LM.out; simp only [List.length_nil]; omega); intro v312 w12 ho hb hg hat; have n0_ := Aside0.mk (hb); have n1_ := Aside0.mk (ho); clear HB; clear HO310; have HB := n0_; have HO313 := n1_; clear n0_ n1_; clear ho hb hg hat))
   go_ret
   refine ⟨_, rfl, ?_, HB.out⟩
   have := HO313.out
   rw [List.nil_append] at this
   exact this
 ·exact absurd h (by simp)
end Go.Proofs.Ytaoicdkjjjlmeaa.PD34
namespace Go.Proofs.Ytaoicdkjjjlmeaa.PD34
open Go.RowKit Go.Proofs.YtaoicdkjjjlmeaaW.PrintWords Go.Proofs.YtaoicdkjjjlmeaaW.PrintLast Go.Proofs.YtaoicdkjjjlmeaaW.PrintMore
def e26 (x : S26) : List Value := [.string x.f0, .int .i64 x.f1, .int .i64 x.f2, .int .i64 x.f3.f0, .int .i64 x.f3.f1, .int .i64 x.f4]
theorem e26_len (x : S26) : (e26 x).length = 6 := rfl
theorem e26_one (x : S26) : ∀ v ∈ e26 x, v.oneCell' = true := by
 intro v hv
 simp only [e26, List.mem_cons, List.not_mem_nil, or_false] at hv
 rcases hv with rfl | rfl | rfl | rfl | rfl | rfl <;> rfl
theorem fe_len (l : List S26) : (l.flatMap e26).length = l.length * 6 := by
 induction l with
 | nil => rfl
 | cons x l ih => rw [List.flatMap_cons, List.length_append, ih, e26_len, List.length_cons]; omega
theorem fe_one (l : List S26) : ∀ v ∈ l.flatMap e26, v.oneCell' = true := by
 intro v hv
 obtain ⟨x, _, h⟩ := List.mem_flatMap.1 hv
 exact e26_one x v h
theorem fe_take (l : List S26) (i : Nat) : (l.flatMap e26).take (i * 6) = (l.take i).flatMap e26 := by
 induction l generalizing i with
 | nil => simp
 | cons x l ih =>
  cases i with
  | zero => simp
  | succ i =>
   rw [List.take_succ_cons, List.flatMap_cons, List.flatMap_cons, ← ih i, show (i + 1) * 6 = (e26 x).length + i * 6 by rw [e26_len]; omega, List.take_length_add_append]
theorem fe_drop (l : List S26) (i : Nat) : (l.flatMap e26).drop (i * 6) = (l.drop i).flatMap e26 := by
 induction l generalizing i with
 | nil => simp
 | cons x l ih =>
  cases i with
  | zero => simp
  | succ i =>
   rw [List.drop_succ_cons, List.flatMap_cons, ← ih i, show (i + 1) * 6 = (e26 x).length + i * 6 by rw [e26_len]; omega, List.drop_length_add_append]
theorem reps_fe {w : World} {base : Nat} {ok : Nat → Prop} : ∀ {xs : List S26} {inner : List Value}, Reps (k26.M w base ok) 6 xs inner → inner = xs.flatMap e26
 | [], inner, h => by
  have h1 := h.1
  simpa using h1
 | x :: xs, inner, h => by
  have hl : inner.length = (xs.length + 1) * 6 := h.1
  have h0 := k26_openM (h.2 0 x rfl)
  rw [Nat.zero_mul, List.drop_zero] at h0
  have ih : inner.drop 6 = xs.flatMap e26 := reps_fe (w := w) (base := base) (ok := ok) ⟨by rw [List.length_drop, hl]; omega, fun j p hj => by
   have h3 := h.2 (j + 1) p (by simpa using hj)
   rw [List.drop_drop, show 6 + j * 6 = (j + 1) * 6 by omega]
   exact h3⟩
  rw [List.flatMap_cons, ← ih, ← List.take_append_drop 6 inner, h0]
  simp [e26]
theorem fe_reps (w : World) (base : Nat) (ok : Nat → Prop) (xs : List S26) : Reps (k26.M w base ok) 6 xs (xs.flatMap e26) := by
 refine ⟨fe_len xs, fun j p hj => ?_⟩
 rw [fe_drop, show 6 = 1 * 6 from rfl, fe_take]
 have hd : (xs.drop j).take 1 = [p] := by
  obtain ⟨hlt, rfl⟩ := List.getElem?_eq_some_iff.1 hj
  rw [List.drop_eq_getElem_cons hlt]
  rfl
 rw [hd]
 show k26.M w base ok p (e26 p ++ [])
 rw [List.append_nil]
 exact k26_mkM w base ok p
theorem R26_mk {w : World} {base g cap : Nat} {ok : Nat → Prop} {l : List S26} {cur : Array Value} (hg : ok g) (hb : base ≤ g) (hh : w.heap[g]? = some (.cells cur 26 (0, 0))) (h1 : l.length ≤ cap) (h2 : cap ≤ maxLen) (h3 : cur.size = cap * 6) (h4 : cur.toList.take (l.length * 6) = l.flatMap e26) :
  Kd.R k26 26 w base ok (.slice (some ⟨g, 0, none⟩) l.length cap) l := by
 refine ⟨fun q hq => ?_, l.flatMap e26, ⟨fe_len l, .inr ⟨g, cap, cur, rfl, hb, hh, h1, h2, h3, h4⟩⟩, fe_reps _ _ _ _⟩
 have : g = q := by simpa [Value.ownBlock] using hq
 subst this
 exact hg
theorem run_copy_rowN {P : Program} (w : World) (dT sT ty elem : TypeId) (g o dLen dCap : Nat) (a : Addr) (sLen sCap : Nat) (cur : Array Value) (t : TypeId) (cs : List Value) (sz : Nat)
  (hu : P.underlying dT = some (.slice elem)) (hs : (P.info? elem).map (·.size) = some sz)
  (hg : w.heap[g]? = some (.cells cur t (0, 0))) (hn : cs.length = Nat.min sLen dLen * sz)
  (hsrc : ∀ j v, cs[j]? = some v → w.cell? (a.add j) = some v) (hfit : o + cs.length ≤ cur.size) (h1 : ∀ v ∈ cs, v.oneCell' = true) :
  (Builtin.copy_ #[dT, sT] ty #[.slice (some ⟨g, o, none⟩) dLen dCap, .slice (some a) sLen sCap]).run P w =
   .ok (goInt (Nat.min sLen dLen)) (w.setRow g (cur.toList.take o ++ cs ++ cur.toList.drop (o + cs.length)).toArray) := by
 have hl := run_loadCells_list (P := P) w a cs hsrc
 have hst := run_storeCells_at P g o t cs 0 cur w hg (by simpa using hfit) h1
 cases hq : P.info? elem with
 | none => simp [hq] at hs
 | some i =>
  have hi : i.size = sz := by simpa [hq] using hs
  simp [Builtin.copy_, run_underlying hu, Builtin.lenOf, Builtin.firstCells, sizeOf, typeInfo, hq, hi, ← hn, hl, hst]
theorem wpList_copy_told {P : Program} (w : World) {ops : Array Oper} {rest : List Oper} {o : Oper} {a : Act} {Q : Exit → Act → World → Prop} (hgd : o.guard = none) (d s : Operand) (t t' : TypeId)
  (ho : o.op = .call { callee := .builtin .copy, args := #[d, s], argTypes := #[t, t'] }) (v u : Value) (hd : a.eval d = v) (hs : a.eval s = u) {v' : Value} {w' : World}
  (hr : ∀ ty, (Builtin.copy_ #[t, t'] ty #[v, u]).run P w = .ok v' w') (h : wpList P ops Q rest (a.put o.dst v') w') : wpList P ops Q (o :: rest) a w := by
 refine wpList_plain hgd fun K hK => ?_
 unfold Oper.wp execOp
 simp only [ho, resolve, invoke, builtin, Sem.run_bind, Sem.run_pure, Result.andThen_ok, List.map_toArray, List.map_cons, List.map_nil, hd, hs, hr]
 exact hK _ _ h
theorem step_copy_told {P : Program} {ops : Array Oper} {o : Oper} {a : Act} {w : World} {K : Act → World → Prop} {Q : Exit → Act → World → Prop} {E : Prop}
  (hg : o.guard = none) (d x : Operand) (t t' : TypeId) (ho : o.op = .call { callee := .builtin .copy, args := #[d, x], argTypes := #[t, t'] })
  (v u : Value) (hd : a.eval d = v) (hx : a.eval x = u) {v' : Value} {w' : World} (hr : ∀ ty, (Builtin.copy_ #[t, t'] ty #[v, u]).run P w = .ok v' w') (hK : K (a.put o.dst v') w') :
  if Region.wanted o (yielded ops a.tmps) = true then Oper.wp P o a w K Q else E := by
 have hw : Region.wanted o (yielded ops a.tmps) = true := by simp [Region.wanted, hg]
 rw [if_pos hw]
 unfold Oper.wp
 simp [execOp, ho, resolve, invoke, builtin, hd, hx, hr, Result.andThen]
 exact hK
end Go.Proofs.Ytaoicdkjjjlmeaa.PD34
namespace Go.Proofs.Ytaoicdkjjjlmeaa.PD34
open Go.RowKit Go.Proofs.YtaoicdkjjjlmeaaW.PrintWords Go.Proofs.YtaoicdkjjjlmeaaW.PrintLast Go.Proofs.YtaoicdkjjjlmeaaW.PrintMore
set_option maxHeartbeats 8000000 in
set_option maxRecDepth 100000 in
theorem ins_shift (gb n c i g2 c2 : Nat) (cur cur2 : Array Value) (cs cs2 : List Value) (w : World) (hh : w.heap[gb]? = some (.cells cur 26 (0, 0))) (hh2 : w.heap[g2]? = some (.cells cur2 26 (0, 0))) (hne : g2 ≠ gb) (hi : i < n) (hroom : n + 1 ≤ c) (hc : c ≤ 9223372036854775807)
  (hs : cur.size = c * 6) (hs2 : cur2.size ≠ 0) (hcs : cs = (cur.toList.take (n * 6)).drop (i * 6)) (hcs2 : cs2 = cur2.toList.take 6) (hl2 : cs2.length = 6) (h1 : ∀ v ∈ cs, v.oneCell' = true) (h12 : ∀ v ∈ cs2, v.oneCell' = true) :
  Calls Try.prog 24 #[.slice (some ⟨gb, 0, none⟩) n c, .int .i64 i, .slice (some ⟨g2, 0, none⟩) 1 c2] w fun e w' => e = .returned (.slice (some ⟨gb, 0, none⟩) (n + 1) c) ∧
   ∃ cur1 : Array Value, cur1 = (cur.toList.take ((i + 1) * 6) ++ cs ++ cur.toList.drop ((i + 1) * 6 + cs.length)).toArray ∧ w' = (w.drew.setRow gb cur1).setRow gb (cur1.toList.take (i * 6) ++ cs2 ++ cur1.toList.drop (i * 6 + cs2.length)).toArray := by
 have hcl : cs.length = (n - i) * 6 := by
  rw [hcs, List.length_drop, List.length_take, Array.length_toList, hs, Nat.min_eq_left (by omega)]
  omega
 have hsz : (Try.prog.info? 26).map (·.size) = some 6 := by
  obtain ⟨i0, hi0, _, h1_, _⟩ := info_parts info26
  rw [hi0]
  simp [h1_]
 have z26_ : ∀ w, (Go.sizeOf 26).run Try.prog w = .ok 6 w := fun w => by
  obtain ⟨i0, hi0, _, h1_, _⟩ := info_parts info26
  simp [Go.sizeOf, typeInfo, hi0, h1_]
 have hov : ∀ lb cb, (callFunc 40 #[.slice (some ⟨g2, 0, none⟩) 1 c2, .slice (some ⟨gb, (i + 1) * 6, none⟩) lb cb]).run Try.prog w = .ok (.value (.bool false)) w := fun lb cb => by
  rw [run_callFunc_extern Try.func40 (by kernel_rfl) (by kernel_rfl) (by kernel_rfl) (e := Extern.SlicesOverlaps.overlaps #[22, 22] #[4]) (by kernel_rfl),
   Go.Lib.run_overlaps_apart w 22 4 26 Try.underlying22 6 z26_ ⟨g2, 0, none⟩ ⟨gb, (i + 1) * 6, none⟩ 1 c2 lb cb hne 26 26 cur2.size cur.size (by simp [World.shape?, hh2]) (by simp [World.shape?, hh]) (by omega) (by simp [World.frozen?, hh2]) (by simp [World.frozen?, hh2])]
  rfl
 obtain ⟨cur1, hc1⟩ : ∃ cur1 : Array Value, cur1 = (cur.toList.take ((i + 1) * 6) ++ cs ++ cur.toList.drop ((i + 1) * 6 + cs.length)).toArray := ⟨_, rfl⟩
 have hcp1 : ∀ dc sc ty, (Builtin.copy_ #[22, 22] ty #[.slice (some ⟨gb, (i + 1) * 6, none⟩) (n - i) dc, .slice (some ⟨gb, i * 6, none⟩) (n + 1 - i) sc]).run Try.prog w.drew =   .ok (goInt ((n - i : Nat) : Int)) (w.drew.setRow gb cur1) := fun dc sc ty => by
  have h := run_copy_rowN (P := Try.prog) w.drew 22 22 ty 26 gb ((i + 1) * 6) (n - i) dc ⟨gb, i * 6, none⟩ (n + 1 - i) sc cur 26 cs 6 Try.underlying22 hsz hh (by rw [hcl]; congr 1; simp only [Nat.min_def]; split <;> omega)
   (fun j v hj => by
    rw [hcs, List.getElem?_drop] at hj
    have hj2 : i * 6 + j < n * 6 := by
     rcases Nat.lt_or_ge (i * 6 + j) (n * 6) with h | h
     ·exact h
     ·rw [List.getElem?_take_eq_none (by omega)] at hj
      cases hj
    rw [List.getElem?_take_of_lt hj2, Array.getElem?_toList] at hj
    rw [Addr.add_lit]
    show (w.cell? _) = _
    simp only [World.cell?, hh]
    exact hj)
   (by rw [hcl, hs]; omega) h1
  rw [show Nat.min (n + 1 - i) (n - i) = n - i by simp only [Nat.min_def]; split <;> omega, ← hc1] at h
  exact h
 have hh1 : (w.drew.setRow gb cur1).heap[gb]? = some (.cells cur1 26 (0, 0)) := setRow_heap w.drew gb cur cur1 26 (0, 0) hh
 have hh21 : (w.drew.setRow gb cur1).heap[g2]? = some (.cells cur2 26 (0, 0)) := (setRow_other w.drew gb g2 cur1 hne).trans hh2
 have hs1 : cur1.size = c * 6 := by
  rw [hc1]
  simp only [List.size_toArray, List.length_append, List.length_take, List.length_drop, Array.length_toList, hs, hcl]
  omega
 have hcp2 : ∀ dc ty, (Builtin.copy_ #[22, 22] ty #[.slice (some ⟨gb, i * 6, none⟩) (n + 1 - i) dc, .slice (some ⟨g2, 0, none⟩) 1 c2]).run Try.prog (w.drew.setRow gb cur1) = .ok (goInt 1) ((w.drew.setRow gb cur1).setRow gb (cur1.toList.take (i * 6) ++ cs2 ++ cur1.toList.drop (i * 6 + cs2.length)).toArray) := fun dc ty => by
  have h := run_copy_rowN (P := Try.prog) (w.drew.setRow gb cur1) 22 22 ty 26 gb (i * 6) (n + 1 - i) dc ⟨g2, 0, none⟩ 1 c2 cur1 26 cs2 6 Try.underlying22 hsz hh1 (by rw [hl2]; simp only [Nat.min_def]; split <;> omega)
   (fun j v hj => by
    have hj2 : j < 6 := by
     have := (List.getElem?_eq_some_iff.1 hj).1
     omega
    rw [hcs2, List.getElem?_take_of_lt hj2, Array.getElem?_toList] at hj
    rw [Addr.add_lit]
    simp only [World.cell?, hh21, Nat.zero_add]
    exact hj)
   (by rw [hl2, hs1]; omega) h12
  rw [show Nat.min 1 (n + 1 - i) = 1 by simp only [Nat.min_def]; split <;> omega] at h
  exact h
 have hz2 : ((i : Int) == (n : Int)) = false := by simpa using (by omega : ¬ (i : Int) = (n : Int))
 have hz3 : decide ((c : Int) < (n : Int) + 1) = false := decide_eq_false (by omega)
 have hw0 : IntKind.i64.wrap ((n : Int) + 1) = (n : Int) + 1 := by rw [IntKind.wrap_i64]; omega
 have hw1 : IntKind.i64.wrap ((i : Int) + 1) = (i : Int) + 1 := by rw [IntKind.wrap_i64]; omega
 have hb1 : (0 : Int) ≤ (i : Int) + 1 := by omega
 have hin : i ≤ n := by omega
 have htn : ((i : Int) + 1).toNat = i + 1 := by omega
 have htm : ((n : Int) + 1).toNat = n + 1 := by omega
 have hb2 : ¬ (c = i + 1) := by omega
 have hb3 : (i : Int) ≤ (n : Int) + 1 := by omega
 have hb4 : ¬ (c = i) := by omega
 have hb5 : i + 1 ≤ n + 1 := by omega
 have HC1 := Aside0.mk hc1
 clear hc1 hcs hcs2 hs hs1 hl2 hcl hh1 hh21 hs2
 go_enter Try.func24, Try.ntmps24
 go_wp2_with (simp only [hov])
 go_region_law (refine step_copy_told rfl _ _ 22 22 rfl _ _ (by simp [Act.eval, Act.put]) (by simp [Act.eval, Act.put]) (hcp1 _ _) ?_)
 go_wp2_with ((with_reducible refine gate_builtin (b := .copy) (xs := #[.tmp 80, .tmp 81]) rfl ?_); refine wpList_copy_told _ rfl _ _ 22 22 rfl _ _ rfl rfl (hcp2 _) ?_)
 go_ret
 exact ⟨rfl, cur1, HC1.out, by simp only [List.append_assoc]⟩
end Go.Proofs.Ytaoicdkjjjlmeaa.PD34
namespace Go.Proofs.Ytaoicdkjjjlmeaa.PD34
open Go.RowKit Go.Proofs.YtaoicdkjjjlmeaaW.PrintWords Go.Proofs.YtaoicdkjjjlmeaaW.PrintLast Go.Proofs.YtaoicdkjjjlmeaaW.PrintMore
theorem below_setRow {B : Nat} {w W : World} (h : Below B w W) {g : Nat} (hg : B ≤ g) (cs : Array Value) : Below B w (W.setRow g cs) :=
 ⟨h.os, h.tape, h.output, by rw [setRow_size]; exact h.size, fun k hk => (setRow_other W g k cs (by omega)).trans (h.block k hk)⟩
set_option maxHeartbeats 8000000 in
set_option maxRecDepth 100000 in
theorem ins_grow (gb n c i g2 c2 : Nat) (cur cur2 : Array Value) (cs0 cs cs2 : List Value) (w : World) (hh : w.heap[gb]? = some (.cells cur 26 (0, 0))) (hh2 : w.heap[g2]? = some (.cells cur2 26 (0, 0))) (hi : i < n) (hnc : n ≤ c) (hroom : c < n + 1) (hbig : n < 1000000000)
  (hs : cur.size = c * 6) (hcs0 : cs0 = cur.toList.take (i * 6)) (hcs : cs = (cur.toList.take (n * 6)).drop (i * 6)) (hcs2 : cs2 = cur2.toList.take 6) (hl2 : cs2.length = 6) (h1 : ∀ v ∈ cs, v.oneCell' = true) (h12 : ∀ v ∈ cs2, v.oneCell' = true) :
  Calls Try.prog 24 #[.slice (some ⟨gb, 0, none⟩) n c, .int .i64 i, .slice (some ⟨g2, 0, none⟩) 1 c2] w fun e w' => ∃ G : Nat, ∃ row : Array Value, e = .returned (.slice (some ⟨w.heap.size, 0, none⟩) (n + 1) G) ∧ n + 1 ≤ G ∧ G ≤ maxLen ∧ row.size = G * 6 ∧ row.toList.take ((n + 1) * 6) = cs0 ++ cs2 ++ cs ∧
   w'.heap[w.heap.size]? = some (.cells row 26 (0, 0)) ∧ Below w.heap.size w w' := by
 have hcl : cs.length = (n - i) * 6 := by
  rw [hcs, List.length_drop, List.length_take, Array.length_toList, hs, Nat.min_eq_left (by omega)]
  omega
 have hcl0 : cs0.length = i * 6 := by
  rw [hcs0, List.length_take, Array.length_toList, hs, Nat.min_eq_left (by omega)]
 obtain ⟨i0, hi0, hz0, hzs, hzb⟩ := info_parts info26
 have hsz : (Try.prog.info? 26).map (·.size) = some 6 := by
  rw [hi0]
  simp [hzs]
 have hold : (Builtin.firstCells i0.size i (.slice (some ⟨gb, 0, none⟩) i c)).run Try.prog w.drew = .ok cs0.toArray w.drew := by
  rw [hzs]
  refine run_firstCells_some w.drew 6 i ⟨gb, 0, none⟩ i c cs0 hcl0 (fun j v hj => ?_)
  have hj2 : j < i * 6 := by
   have := (List.getElem?_eq_some_iff.1 hj).1
   omega
  rw [hcs0, List.getElem?_take_of_lt hj2, Array.getElem?_toList] at hj
  rw [Addr.add_lit]
  show (w.cell? _) = _
  simp only [World.cell?, hh, Nat.zero_add]
  exact hj
 obtain ⟨G, hG⟩ : ∃ G, G = grownCap w (n + 1) c 26 := ⟨_, rfl⟩
 have hik : i + (n + 1 - i) = n + 1 := by omega
 obtain ⟨ROW, hROW⟩ : ∃ ROW : Array Value, ROW = cs0.toArray ++ Builtin.zeroCells (Value.agg #[(.string ⟨#[]⟩), (.int .i64 0), (.int .i64 0), (.int .i64 0), (.int .i64 0), (.int .i64 0)]).cells (n + 1 - i) ++ Builtin.zeroCells (Value.agg #[(.string ⟨#[]⟩), (.int .i64 0), (.int .i64 0), (.int .i64 0), (.int .i64 0), (.int .i64 0)]).cells (G - (n + 1)) := ⟨_, rfl⟩
 have hrz : ∀ ty, (Builtin.append_ #[22, 3] ty #[.slice (some ⟨gb, 0, none⟩) i c, .int .i64 ((n : Int) + 1 - (i : Int))]).run Try.prog w = .ok (.slice (some ⟨w.heap.size, 0, none⟩) (n + 1) G) (w.drew.alloc (.cells ROW 26)) := fun ty => by
  have h := Go.Lib.run_append_grow_zeros (P := Try.prog) w 22 3 ty 26 i0 _ .i64 .i64 Try.underlying22 Try.underlying3 hi0 hz0 (some ⟨gb, 0, none⟩) i c cs0 hold (n + 1 - i) (by omega) (by omega) (by omega) (by omega) (by rw [hzb]; omega) (by rw [hzb, hik]; exact growslice_fits (by omega) (by omega))
  rw [hik, ← hG, ← hROW] at h
  rw [show (n : Int) + 1 - (i : Int) = ((n + 1 - i : Nat) : Int) by omega]
  exact h
 have hGn : n + 1 ≤ G := by rw [hG]; exact grownCap_ge w _ _ _
 have hGm : G ≤ maxLen := by
  rw [hG]
  exact grownCap_le_maxLen w (n + 1) c 26 (by unfold maxLen; omega)
 have hG63 : G ≤ 9223372036854775807 := by
  have := hGm
  unfold maxLen at this
  exact this
 have hRs : ROW.size = G * 6 := by
  rw [hROW]
  simp only [Array.size_append, List.size_toArray, hcl0, Builtin.zeroCells, Array.size_map, Array.size_range]
  show i * 6 + (n + 1 - i) * 6 + (G - (n + 1)) * 6 = G * 6
  omega
 have hRt : ROW.toList.take (i * 6) = cs0 := by
  rw [hROW, Array.toList_append, Array.toList_append, List.append_assoc]
  exact List.take_left' hcl0
 have hgb : gb < w.heap.size := (Array.getElem?_eq_some_iff.1 hh).1
 have hg2 : g2 < w.heap.size := (Array.getElem?_eq_some_iff.1 hh2).1
 obtain ⟨row1, hr1⟩ : ∃ row1 : Array Value, row1 = (ROW.toList.take (i * 6) ++ cs2 ++ ROW.toList.drop (i * 6 + cs2.length)).toArray := ⟨_, rfl⟩
 have hs1 : row1.size = G * 6 := by
  rw [hr1]
  simp only [List.size_toArray, List.length_append, List.length_take, List.length_drop, Array.length_toList, hRs, hl2]
  omega
 have hcpA : ∀ (W : World), W.heap[w.heap.size]? = some (.cells ROW 26 (0, 0)) → W.heap[g2]? = some (.cells cur2 26 (0, 0)) → ∀ dc ty, (Builtin.copy_ #[22, 22] ty #[.slice (some ⟨w.heap.size, i * 6, none⟩) (n + 1 - i) dc, .slice (some ⟨g2, 0, none⟩) 1 c2]).run Try.prog W = .ok (goInt 1) (W.setRow w.heap.size row1) := fun W hW1 hW2 dc ty => by
  have h := run_copy_rowN (P := Try.prog) W 22 22 ty 26 w.heap.size (i * 6) (n + 1 - i) dc ⟨g2, 0, none⟩ 1 c2 ROW 26 cs2 6 Try.underlying22 hsz hW1 (by rw [hl2]; simp only [Nat.min_def]; split <;> omega)
   (fun j v hj => by
    have hj2 : j < 6 := by
     have := (List.getElem?_eq_some_iff.1 hj).1
     omega
    rw [hcs2, List.getElem?_take_of_lt hj2, Array.getElem?_toList] at hj
    rw [Addr.add_lit]
    simp only [World.cell?, hW2, Nat.zero_add]
    exact hj)
   (by rw [hl2, hRs]; omega) h12
  rw [show Nat.min 1 (n + 1 - i) = 1 by simp only [Nat.min_def]; split <;> omega, ← hr1] at h
  exact h
 obtain ⟨row2, hr2⟩ : ∃ row2 : Array Value, row2 = (row1.toList.take ((i + 1) * 6) ++ cs ++ row1.toList.drop ((i + 1) * 6 + cs.length)).toArray := ⟨_, rfl⟩
 have hcpB : ∀ (W : World), W.heap[w.heap.size]? = some (.cells row1 26 (0, 0)) → W.heap[gb]? = some (.cells cur 26 (0, 0)) → ∀ dc sc ty, (Builtin.copy_ #[22, 22] ty #[.slice (some ⟨w.heap.size, (i + 1) * 6, none⟩) (n - i) dc, .slice (some ⟨gb, i * 6, none⟩) (n - i) sc]).run Try.prog W = .ok (goInt ((n - i : Nat) : Int)) (W.setRow w.heap.size row2) := fun W hW1 hW2 dc sc ty => by
  have h := run_copy_rowN (P := Try.prog) W 22 22 ty 26 w.heap.size ((i + 1) * 6) (n - i) dc ⟨gb, i * 6, none⟩ (n - i) sc row1 26 cs 6 Try.underlying22 hsz hW1 (by rw [hcl]; simp only [Nat.min_def]; split <;> omega)
   (fun j v hj => by
    rw [hcs, List.getElem?_drop] at hj
    have hj2 : i * 6 + j < n * 6 := by
     rcases Nat.lt_or_ge (i * 6 + j) (n * 6) with h | h
     ·exact h
     ·rw [List.getElem?_take_eq_none (by omega)] at hj
      cases hj
    rw [List.getElem?_take_of_lt hj2, Array.getElem?_toList] at hj
    rw [Addr.add_lit]
    simp only [World.cell?, hW2]
    exact hj)
   (by rw [hcl, hs1]; omega) h1
  rw [show Nat.min (n - i) (n - i) = n - i by simp only [Nat.min_def]; split <;> omega, ← hr2] at h
  exact h
 have hs2' : row2.size = G * 6 := by
  rw [hr2]
  simp only [List.size_toArray, List.length_append, List.length_take, List.length_drop, Array.length_toList, hs1, hcl]
  omega
 have hrt : row2.toList.take ((n + 1) * 6) = cs0 ++ cs2 ++ cs := by
  rw [hr2]
  show List.take _ (row1.toList.take ((i + 1) * 6) ++ cs ++ _) = _
  have ht1 : row1.toList.take ((i + 1) * 6) = cs0 ++ cs2 := by
   rw [hr1]
   show List.take _ (ROW.toList.take (i * 6) ++ cs2 ++ _) = _
   rw [hRt]
   exact List.take_left' (by rw [List.length_append, hcl0, hl2]; omega)
  rw [ht1]
  exact List.take_left' (by simp only [List.length_append, hcl0, hl2, hcl]; omega)
 have hz2 : ((i : Int) == (n : Int)) = false := by simpa using (by omega : ¬ (i : Int) = (n : Int))
 have hz3 : decide ((c : Int) < (n : Int) + 1) = true := decide_eq_true (by omega)
 have hz4 : (c : Int) < (n : Int) + 1 := by omega
 have hw0 : IntKind.i64.wrap ((n : Int) + 1) = (n : Int) + 1 := by rw [IntKind.wrap_i64]; omega
 have hw1 : IntKind.i64.wrap ((i : Int) + 1) = (i : Int) + 1 := by rw [IntKind.wrap_i64]; omega
 have hb1 : (0 : Int) ≤ (i : Int) + 1 := by omega
 have hin : i ≤ n := by omega
 have htn : ((i : Int) + 1).toNat = i + 1 := by omega
 have hb2 : ¬ (G = i + 1) := by omega
 have hb3 : (i : Int) ≤ (n : Int) := by omega
 have hb4 : ¬ (c = i) := by omega
 have hb5 : ¬ (G = i) := by omega
 have HF := Aside0.mk (And.intro hGn (And.intro hGm (And.intro hs2' hrt)))
 have HH := Aside0.mk hh
 have HH2 := Aside0.mk hh2
 clear hROW hG hRs hRt hr1 hs1 hr2 hs2' hrt hcs hcs0 hcs2 hcl hcl0 hl2 hold hGm hs hh hh2 hi0 hz0 hzs hzb hik
 go_enter Try.func24, Try.ntmps24
 go_wp2_with (first
  | ((with_reducible refine gate_builtin (b := .append) (xs := #[.tmp 34, .tmp 39]) rfl ?_); refine Go.Lib.wpList_append_run _ rfl _ _ _ _ rfl _ _ rfl rfl _ _ (hrz _) ?_)
  | ((with_reducible refine gate_builtin (b := .copy) (xs := #[.tmp 43, .tmp 44]) rfl ?_); refine wpList_copy_told _ rfl _ _ 22 22 rfl _ _ rfl rfl (hcpA _ ?hA1 ?hA2 _) ?_; (case hA1 => exact blk_drew (blk_new _ _)); (case hA2 => exact blk_drew (blk_alloc HH2.out _))))
 have hW1 : (((w.alloc (.cells ROW 26)).drew.setRow w.heap.size row1).drew).heap[w.heap.size]? = some (.cells row1 26 (0, 0)) := blk_drew (setRow_heap _ _ ROW row1 26 (0, 0) (blk_drew (blk_new _ _)))
 have hW2 : (((w.alloc (.cells ROW 26)).drew.setRow w.heap.size row1).drew).heap[gb]? = some (.cells cur 26 (0, 0)) := blk_drew ((setRow_other _ _ _ _ (by omega)).trans (blk_drew (blk_alloc HH.out _)))
 have HW1 := Aside0.mk hW1
 have HW2 := Aside0.mk hW2
 clear hW1 hW2
 go_region_law (refine step_copy_told rfl _ _ 22 22 rfl _ _ (by simp [Act.eval, Act.put]) (by simp [Act.eval, Act.put]) (hcpB _ HW1.out HW2.out (G - (i + 1)) (c - i)) ?_)
 go_wp2
 go_ret
 refine ⟨G, row2, rfl, HF.out.1, HF.out.2.1, HF.out.2.2.1, HF.out.2.2.2, ?_, ?_⟩
 ·exact setRow_heap _ _ row1 row2 26 (0, 0) HW1.out
 ·exact below_setRow (below_drew (below_setRow (below_drew (below_alloc (Below.refl _ _) _)) (Nat.le_refl _) _)) (Nat.le_refl _) _
end Go.Proofs.Ytaoicdkjjjlmeaa.PD34
namespace Go.Proofs.Ytaoicdkjjjlmeaa.PD34
open Go.RowKit Go.Proofs.YtaoicdkjjjlmeaaW.PrintWords Go.Proofs.YtaoicdkjjjlmeaaW.PrintLast Go.Proofs.YtaoicdkjjjlmeaaW.PrintMore
def ins_Hold.f (l0 : List S26) (a1 : Int) (l2 : List S26) : Option (List S26) := if 0 ≤ a1 ∧ a1 ≤ (l0.length : Int) ∧ l2.length = 1 ∧ l0.length < 1000000000 then some (l0.take a1.toNat ++ l2 ++ l0.drop a1.toNat) else none
set_option maxHeartbeats 8000000 in
set_option maxRecDepth 100000 in
theorem ins_end (P0_ : Nat → Prop) (P2_ : Nat → Prop) (A0 : Option Addr) (c0 : Nat) (l0 : List S26) (g2 c2 : Nat) (x : S26) (w0 w : World) (hB : Below w0.heap.size w0 w) (ho0 : Kd.R k26 26 w w0.heap.size P0_ (.slice A0 l0.length c0) l0)
  (ho2 : Kd.R k26 26 w w0.heap.size P2_ (.slice (some ⟨g2, 0, none⟩) 1 c2) [x]) (hbig : l0.length < 1000000000) :
  Calls Try.prog 24 #[.slice A0 l0.length c0, .int .i64 (l0.length : Int), .slice (some ⟨g2, 0, none⟩) 1 c2] w fun e w' => ∃ v0_ : Value, e = .returned (v0_) ∧ Kd.R k26 26 w' w0.heap.size (fun k_ => ((P0_ k_ ∨ P2_ k_) ∨ w.heap.size ≤ k_)) v0_ (l0 ++ [x]) ∧ Below w0.heap.size w0 w' ∧ Kept w w' (fun k_ => P0_ k_ ∨ P2_ k_) := by
 have hR : Kd.R k26 26 w w0.heap.size (fun k_ => ((P0_ k_ ∨ P2_ k_) ∨ w.heap.size ≤ k_)) (.slice A0 l0.length c0) l0 := Kd.R_mono ho0 (fun _ hk => .inl (.inl hk))
 have hC2 : Kd.C k26 w (some ⟨g2, 0, none⟩) 1 [x] := (Kd.R_reads' ho2).2.2
 have hKM : ∀ y cs, k26.K w y cs → k26.M w w0.heap.size (fun _ => False) y cs := fun y cs hk => by
  rw [k26_open hk]
  exact k26_mkM _ _ _ y
 obtain ⟨i0, hi0, _, hsz, _⟩ := info_parts info26
 have hroom : l0.length ≤ c0 := (Kd.R_reads' ho0).2.1
 have hcut := cut_from (P := Try.prog) 22 26 .i64 Try.underlying22 hi0 6 hsz A0 l0.length c0 (l0.length : Int) (by omega) (by omega)
 have HRR := Aside0.mk hR
 have HC2 := Aside0.mk hC2
 have H0 := Aside0.mk ho0
 have HI := Aside0.mk hi0
 clear hR hC2 ho0 ho2 hi0 hsz
 go_enter Try.func24, Try.ntmps24
 go_wp2_with (first | ((with_reducible refine gate_builtin (b := .append) (xs := #[.tmp 23, .tmp 24]) rfl ?_); refine Kd.R_append_rows k26 (Rr := k26.K w) (w0 := w0) w0.heap.size rfl (.tmp 23) (.tmp 24) 22 26 (.agg #[(.string ⟨#[]⟩), (.int .i64 0), (.int .i64 0), (.int .i64 0), (.int .i64 0), (.int .i64 0)]) 56 rfl Try.underlying22 info26 rfl (by decide) (by omega) (.slice A0 l0.length c0) l0 [x] _ _ _ (fun k_ => ((P0_ k_ ∨ P2_ k_) ∨ w.heap.size ≤ k_)) (fun _ => False) rfl rfl HRR.out HC2.out hKM (fun _ h => h.elim) (fun _ h => .inr h) hB hB.size ?aL ?_; (case aL => omega); intro v1 w1 ho hb hg hat))
 all_goals go_ret
 all_goals refine ⟨_, rfl, ho, hb, ?_⟩
 all_goals exact Kept.of_grown (S := fun k_ => P0_ k_ ∨ P2_ k_) hg (Kept.refl _ _) (fun k_ e_ => .inl (.inl (H0.out.1 k_ e_)))
theorem ins_Hold.calls (P0_ : Nat → Prop) (u9000_ : Value) (l0 : List S26) (a1 : Int) (P2_ : Nat → Prop) (u9001_ : Value) (l2 : List S26) (r : List S26) (w0 w : World) (hB : Below w0.heap.size w0 w) (ho0 : Kd.R k26 26 w w0.heap.size P0_ u9000_ l0) (hp0_2 : ∀ k_, P0_ k_ → ¬ P2_ k_)
  (ho2 : Kd.R k26 26 w w0.heap.size P2_ u9001_ l2) (hp2_0 : ∀ k_, P2_ k_ → ¬ P0_ k_) (h : ins_Hold.f l0 a1 l2 = some r) :
  Calls Try.prog 24 #[u9000_, .int .i64 a1, u9001_] w fun e w' => ∃ v0_ : Value, e = .returned (v0_) ∧ Kd.R k26 26 w' w0.heap.size (fun k_ => ((P0_ k_ ∨ P2_ k_) ∨ w.heap.size ≤ k_)) v0_ r ∧ Below w0.heap.size w0 w' ∧ Kept w w' (fun k_ => P0_ k_ ∨ P2_ k_) := by
 unfold ins_Hold.f at h
 split at h
 ·rename_i hc
  obtain ⟨h0, hn, hl2, hbig⟩ := hc
  obtain rfl := Option.some.inj h
  clear h
  obtain ⟨i, rfl⟩ : ∃ i : Nat, a1 = (i : Int) := ⟨a1.toNat, by omega⟩
  obtain ⟨x, rfl⟩ := List.length_eq_one_iff.1 hl2
  rw [Int.toNat_natCast]
  have hi : i ≤ l0.length := by omega
  have ho2' := ho2
  obtain ⟨hok2, inner2, ⟨hlen2, hcase2⟩, hreps2⟩ := ho2
  rcases hcase2 with ⟨_, hn2⟩ | ⟨g2, cap2, cur2, rfl, hb2, hh2, h12, h22, h32, h42⟩
  ·exact absurd hn2 (by simp)
  replace hh2 : w.heap[g2]? = some (.cells cur2 26 (0, 0)) := hh2
  replace h42 : cur2.toList.take (1 * 6) = inner2 := h42
  replace h32 : cur2.size = cap2 * 6 := h32
  have hin2 : inner2 = [x].flatMap e26 := reps_fe hreps2
  have hP2 : P2_ g2 := hok2 g2 (by simp [Value.ownBlock])
  rcases Nat.lt_or_ge i l0.length with hlt | hge
  ·have ho0' := ho0
   obtain ⟨hok, inner, ⟨hlen, hcase⟩, hreps⟩ := ho0
   rcases hcase with ⟨_, hn0⟩ | ⟨gb, cap, cur, rfl, hb, hh, h1, h2, h3, h4⟩
   ·omega
   replace hh : w.heap[gb]? = some (.cells cur 26 (0, 0)) := hh
   replace h4 : cur.toList.take (l0.length * 6) = inner := h4
   replace h3 : cur.size = cap * 6 := h3
   have hin : inner = l0.flatMap e26 := reps_fe hreps
   have hP : P0_ gb := hok gb (by simp [Value.ownBlock])
   have hne : g2 ≠ gb := fun he => hp0_2 gb hP (he ▸ hP2)
   have hcs : (l0.drop i).flatMap e26 = (cur.toList.take (l0.length * 6)).drop (i * 6) := by rw [h4, hin, fe_drop]
   have hcs0 : (l0.take i).flatMap e26 = cur.toList.take (i * 6) := by
    rw [← fe_take, ← hin, ← h4, List.take_take, Nat.min_eq_left (by omega)]
   have hcs2 : [x].flatMap e26 = cur2.toList.take 6 := by rw [← hin2, ← h42]
   have hll : (l0.take i ++ [x] ++ l0.drop i).length = l0.length + 1 := by simp; omega
   have hfe : (l0.take i ++ [x] ++ l0.drop i).flatMap e26 = (l0.take i).flatMap e26 ++ [x].flatMap e26 ++ (l0.drop i).flatMap e26 := by rw [List.flatMap_append, List.flatMap_append]
   rcases Nat.lt_or_ge cap (l0.length + 1) with hr | hr
   ·refine Calls.mono (ins_grow gb l0.length cap i g2 cap2 cur cur2 _ _ _ w hh hh2 hlt h1 hr hbig h3 hcs0 hcs hcs2 rfl (fe_one _) (fe_one _)) ?_
    rintro e w' ⟨G, row, rfl, hG1, hG2, hrs, hrt, hrow, hbl⟩
    refine ⟨_, rfl, ?_, ⟨hbl.os.trans hB.os, hbl.tape.trans hB.tape, hbl.output.trans hB.output, Nat.le_trans hB.size hbl.size, fun k hk => (hbl.block k (Nat.lt_of_lt_of_le hk hB.size)).trans (hB.block k hk)⟩, ⟨hbl.size, fun k hk _ => hbl.block k hk⟩⟩
    rw [← hll]
    exact R26_mk (.inr (Nat.le_refl _)) hB.size hrow (by rw [hll]; exact hG1) hG2 hrs (by rw [hll, hfe]; exact hrt)
   ·refine Calls.mono (ins_shift gb l0.length cap i g2 cap2 cur cur2 _ _ w hh hh2 hne hlt hr (by unfold maxLen at h2; exact h2) h3 (by omega) hcs hcs2 rfl (fe_one _) (fe_one _)) ?_
    rintro e w' ⟨rfl, cur1, hc1, rfl⟩
    have hh1 : (w.drew.setRow gb cur1).heap[gb]? = some (.cells cur1 26 (0, 0)) := setRow_heap w.drew gb cur cur1 26 (0, 0) hh
    have hcl : ((l0.drop i).flatMap e26).length = (l0.length - i) * 6 := by rw [fe_len, List.length_drop]
    have hs1 : cur1.size = cap * 6 := by
     rw [hc1]
     simp only [List.size_toArray, List.length_append, List.length_take, List.length_drop, Array.length_toList, h3, hcl]
     omega
    have hx6 : ([x].flatMap e26).length = 6 := rfl
    refine ⟨_, rfl, ?_, ?_, ?_⟩
    ·rw [← hll]
     refine R26_mk (.inl (.inl hP)) hb (setRow_heap _ gb cur1 _ 26 (0, 0) hh1) (by rw [hll]; exact hr) h2 ?_ ?_
     ·simp only [List.size_toArray, List.length_append, List.length_take, List.length_drop, Array.length_toList, hs1, hx6]
      omega
     ·rw [hll, hfe]
      show List.take _ (cur1.toList.take (i * 6) ++ [x].flatMap e26 ++ cur1.toList.drop (i * 6 + ([x].flatMap e26).length)) = _
      have e1 : cur1.toList.take (i * 6) = (l0.take i).flatMap e26 := by
       rw [hc1]
       show List.take _ (cur.toList.take ((i + 1) * 6) ++ (l0.drop i).flatMap e26 ++ _) = _
       rw [List.append_assoc, List.take_append_of_le_length (by rw [List.length_take, Array.length_toList, h3]; omega), List.take_take, Nat.min_eq_left (by omega), hcs0]
      have e2 : cur1.toList.drop (i * 6 + ([x].flatMap e26).length) = (l0.drop i).flatMap e26 ++ cur.toList.drop ((i + 1) * 6 + ((l0.drop i).flatMap e26).length) := by
       rw [hc1, hx6]
       show List.drop _ (cur.toList.take ((i + 1) * 6) ++ (l0.drop i).flatMap e26 ++ cur.toList.drop ((i + 1) * 6 + ((l0.drop i).flatMap e26).length)) = _
       rw [List.append_assoc]
       exact List.drop_left' (by rw [List.length_take, Array.length_toList, h3]; omega)
      rw [e1, e2, ← List.append_assoc]
      exact List.take_left' (by simp only [List.length_append, fe_len, List.length_take, List.length_drop, List.length_singleton]; omega)
    ·refine ⟨hB.os, hB.tape, hB.output, by simp only [setRow_size]; exact hB.size, fun k hk => ?_⟩
     rw [setRow_other _ _ _ _ (by omega), setRow_other _ _ _ _ (by omega)]
     exact hB.block k hk
    ·refine ⟨by simp only [setRow_size]; exact Nat.le_refl _, fun k hk hn_ => ?_⟩
     have hkg : k ≠ gb := fun he => hn_ (.inl (he ▸ hP))
     rw [setRow_other _ _ _ _ hkg, setRow_other _ _ _ _ hkg]
     rfl
  ·obtain rfl : i = l0.length := by omega
   rw [List.take_length, List.drop_length, List.append_nil]
   obtain ⟨A0, c0, rfl⟩ := Kd.R_slice ho0
   exact ins_end P0_ P2_ A0 c0 l0 g2 cap2 x w0 w hB ho0 ho2' hbig
 ·exact absurd h (by simp)
end Go.Proofs.Ytaoicdkjjjlmeaa.PD34
namespace Go.Proofs.Ytaoicdkjjjlmeaa.PD34
open Go.RowKit Go.Proofs.YtaoicdkjjjlmeaaW.PrintWords Go.Proofs.YtaoicdkjjjlmeaaW.PrintLast Go.Proofs.YtaoicdkjjjlmeaaW.PrintMore
attribute [local go_sem] max2_int min2_int max_two min_two max_three min_three max_four min_four
def override_Add_1_.f (a0_0 : ByteArray) (a0_1 : Int) (a0_2 : Int) (a0_3 : Int) (a0_4 : Int) (a0_5 : Int) (a1_0 : ByteArray) (a1_1 : Int) (a1_2 : Int) (a1_3 : Int) (a1_4 : Int) (a1_5 : Int) : Option (Bool) := some (a0_0.toList == a1_0.toList)
set_option maxHeartbeats 100000000 in
set_option maxRecDepth 100000 in
theorem override_Add_1_.calls (a0_0 : ByteArray) (a0_1 : Int) (a0_2 : Int) (a0_3 : Int) (a0_4 : Int) (a0_5 : Int) (B1_0_ : Nat) (a1_0 : ByteArray) (a1_1 : Int) (a1_2 : Int) (a1_3 : Int) (a1_4 : Int) (a1_5 : Int) (r : Bool) (w : World) (hx1_0_ : w.heap[B1_0_]? = some (.cells #[.string a1_0,.int .i64 a1_1,.int .i64 a1_2,.int .i64 a1_3,.int .i64 a1_4,.int .i64 a1_5] 26 (0,0))) (h : override_Add_1_.f a0_0 a0_1 a0_2 a0_3 a0_4 a0_5 a1_0 a1_1 a1_2 a1_3 a1_4 a1_5 = some r) :
  Calls Try.prog 23 #[.agg #[.string a0_0,.int .i64 a0_1,.int .i64 a0_2,.int .i64 a0_3,.int .i64 a0_4,.int .i64 a0_5],.pointer (some ⟨B1_0_,0,none⟩)] w fun e w' => e = .returned (.bool r) ∧ Below w.heap.size w w' := by
 have hu26 := Try.underlying26
 have BK215 := Yd hx1_0_
 clear hx1_0_
 have HB := Yd (Below.refl w.heap.size w)
 have H : (some (a0_0.toList == a1_0.toList)) = some r := h
 clear h
 obtain rfl := Option.some.inj H
 go_enter Try.func23,Try.ntmps23
 go_wp2_with (first | ((with_reducible refine gate_dst (N := 2) rfl ?_);refine box_event ?hg (N := 2) ?hd (cs := #[.string a0_0,.int .i64 a0_1,.int .i64 a0_2,.int .i64 a0_3,.int .i64 a0_4,.int .i64 a0_5]) (t := 26) ?hr ?_;(case hd => rfl);(case hg => rfl);(case hr => first | (go_simp;done) | (go_simp;rfl));intro gb216 hg w3 hbox hb;have n0_ := Yd (blk_below (g := B1_0_) (o := .cells #[.string a1_0,.int .i64 a1_1,.int .i64 a1_2,.int .i64 a1_3,.int .i64 a1_4,.int .i64 a1_5] 26 (0,0)) (Y6 BK215.out) hb);have n1_ := Yd (below_step (by first | exact Y4 HB.out GE215.out | exact Y3 HB.out) hb);have n2_ := Yd (hbox);have n3_ := Yd ((by rw [hg];exact (below_size (by first | exact Y4 HB.out GE215.out | exact Y3 HB.out)) : w.heap.size ≤ gb216));have n4_ := Yd ((by rw [hg];exact (below_size (by first | exact Y4 HB.out GE215.out | exact Y3 HB.out)) : w.heap.size ≤ gb216));have n5_ := Yd ((by rw [hg];exact Nat.ne_of_lt (blk_lt (g := B1_0_) (o := .cells #[.string a1_0,.int .i64 a1_1,.int .i64 a1_2,.int .i64 a1_3,.int .i64 a1_4,.int .i64 a1_5] 26 (0,0)) (Y6 BK215.out)) : B1_0_ ≠ gb216));have n6_ := Yd ((by rw [hg];exact Nat.ne_of_gt (blk_lt (g := B1_0_) (o := .cells #[.string a1_0,.int .i64 a1_1,.int .i64 a1_2,.int .i64 a1_3,.int .i64 a1_4,.int .i64 a1_5] 26 (0,0)) (Y6 BK215.out)) : gb216 ≠ B1_0_));clear BK215;clear HB;have BK215 := n0_;have HB := n1_;have BK216 := n2_;have GW216 := n3_;have GE216 := n4_;have NB215_216 := n5_;have NB216_215 := n6_;clear n0_ n1_ n2_ n3_ n4_ n5_ n6_;clear hb hbox hg;have hnb4 := NB216_215.out;have hnc4 := NB215_216.out;have hcz5_0 : w3.cell? ⟨gb216,0,none⟩ = some (.string a0_0) := (blk_cell BK216.out 0).trans rfl;have hcz5_1 : w3.cell? ⟨gb216,1,none⟩ = some (.int .i64 a0_1) := (blk_cell BK216.out 1).trans rfl;have hcz5_2 : w3.cell? ⟨gb216,2,none⟩ = some (.int .i64 a0_2) := (blk_cell BK216.out 2).trans rfl;have hcz5_3 : w3.cell? ⟨gb216,3,none⟩ = some (.int .i64 a0_3) := (blk_cell BK216.out 3).trans rfl;have hcz5_4 : w3.cell? ⟨gb216,4,none⟩ = some (.int .i64 a0_4) := (blk_cell BK216.out 4).trans rfl;have hcz5_5 : w3.cell? ⟨gb216,5,none⟩ = some (.int .i64 a0_5) := (blk_cell BK216.out 5).trans rfl;have hfz5_0 := blk_frozen BK216.out 0;have hfz5_1 := blk_frozen BK216.out 1;have hfz5_2 := blk_frozen BK216.out 2;have hfz5_3 := blk_frozen BK216.out 3;have hfz5_4 := blk_frozen BK216.out 4;have hfz5_5 := blk_frozen BK216.out 5;have hcz6_0 : w3.cell? ⟨B1_0_,0,none⟩ = some (.string a1_0) := (blk_cell BK215.out 0).trans rfl;have hcz6_1 : w3.cell? ⟨B1_0_,1,none⟩ = some (.int .i64 a1_1) := (blk_cell BK215.out 1).trans rfl;have hcz6_2 : w3.cell? ⟨B1_0_,2,none⟩ = some (.int .i64 a1_2) := (blk_cell BK215.out 2).trans rfl;have hcz6_3 : w3.cell? ⟨B1_0_,3,none⟩ = some (.int .i64 a1_3) := (blk_cell BK215.out 3).trans rfl;have hcz6_4 : w3.cell? ⟨B1_0_,4,none⟩ = some (.int .i64 a1_4) := (blk_cell BK215.out 4).trans rfl;have hcz6_5 : w3.cell? ⟨B1_0_,5,none⟩ = some (.int .i64 a1_5) := (blk_cell BK215.out 5).trans rfl;have hfz6_0 := blk_frozen BK215.out 0;have hfz6_1 := blk_frozen BK215.out 1;have hfz6_2 := blk_frozen BK215.out 2;have hfz6_3 := blk_frozen BK215.out 3;have hfz6_4 := blk_frozen BK215.out 4;have hfz6_5 := blk_frozen BK215.out 5))
 go_ret
 exact ⟨by first | rfl | (simp [errW_none,errW_some] <;> rfl) | (simp [*,errW_none,errW_some] <;> rfl),by repeat (first | (with_reducible first | exact HB.out | apply below_alloc | apply Y15 | apply below_drew1 | refine below_set ?_ GE215.out | refine below_set ?_ GE216.out) | exact HB.out)⟩
def api_Hold__c23_.l0 : Nat → List (S26) → Int → Int → ByteArray → Int → Int → Int → Int → Int → Option (Int)
 | 0,_,_,_,_,_,_,_,_,_ => none
 | k + 1,x0,x7,x8,x218000,x218001,x218002,x218003,x218004,x218005 => if x8 < x7 then (if 0 ≤ x8 then (if x8 < (x0.length : Int) then ((override_Add_1_.f ((rd_T26 x0 x8).f0) ((rd_T26 x0 x8).f1) ((rd_T26 x0 x8).f2) ((rd_T26 x0 x8).f3.f0) ((rd_T26 x0 x8).f3.f1) ((rd_T26 x0 x8).f4) x218000 x218001 x218002 x218003 x218004 x218005).bind fun t219 => (if t219 = true then (some x8) else (api_Hold__c23_.l0 k x0 x7 (wrap64 (x8 + 1)) x218000 x218001 x218002 x218003 x218004 x218005))) else (none)) else (none)) else (some (-1))
def api_Hold__c23_.f (k : Nat) (l0 : List (S26)) (a1_0 : ByteArray) (a1_1 : Int) (a1_2 : Int) (a1_3 : Int) (a1_4 : Int) (a1_5 : Int) : Option (Int) := api_Hold__c23_.l0 k l0 (l0.length : Int) 0 a1_0 a1_1 a1_2 a1_3 a1_4 a1_5
theorem api_Hold__c23_.mono_l : ∀ k,(∀ y0 y1 y2 y3 y4 y5 y6 y7 y8,LeO (api_Hold__c23_.l0 k y0 y1 y2 y3 y4 y5 y6 y7 y8) (api_Hold__c23_.l0 (k + 1) y0 y1 y2 y3 y4 y5 y6 y7 y8))
 | 0 => fun _ _ _ _ _ _ _ _ _ r h => by simp [api_Hold__c23_.l0] at h
 | k + 1 => by
  have ih0 := api_Hold__c23_.mono_l k
  ·intro y0 y1 y2 y3 y4 y5 y6 y7 y8
   unfold api_Hold__c23_.l0
   repeat' first
   | (with_reducible exact ih0 _ _ _ _ _ _ _ _ _)
   | (with_reducible exact LeO.refl _)
   | (with_reducible exact LeO.none _)
   | (with_reducible refine LeO.ite ?_ ?_)
   | (with_reducible refine LeO.bind ?_ (fun _ => ?_))
   | exact ih0 _ _ _ _ _ _ _ _ _
   | exact LeO.none _
   | refine LeO.ite ?_ ?_
   | refine LeO.bind ?_ (fun _ => ?_)
theorem api_Hold__c23_.mono : ∀ a0 a1 a2 a3 a4 a5 a6 k,LeO (api_Hold__c23_.f k a0 a1 a2 a3 a4 a5 a6) (api_Hold__c23_.f (k + 1) a0 a1 a2 a3 a4 a5 a6) := by
 intro a0 a1 a2 a3 a4 a5 a6 k
 have ih0 := api_Hold__c23_.mono_l k
 unfold api_Hold__c23_.f
 repeat' first
   | (with_reducible exact ih0 _ _ _ _ _ _ _ _ _)
   | (with_reducible exact LeO.refl _)
   | (with_reducible exact LeO.none _)
   | (with_reducible refine LeO.ite ?_ ?_)
   | (with_reducible refine LeO.bind ?_ (fun _ => ?_))
   | exact ih0 _ _ _ _ _ _ _ _ _
   | exact LeO.none _
   | refine LeO.ite ?_ ?_
   | refine LeO.bind ?_ (fun _ => ?_)
set_option maxHeartbeats 100000000 in
set_option maxRecDepth 100000 in
theorem api_Hold__c23_.calls (k : Nat) (A0 : Option Addr) (c0 : Nat) (l0 : List (S26)) (B1_0_ : Nat) (a1_0 : ByteArray) (a1_1 : Int) (a1_2 : Int) (a1_3 : Int) (a1_4 : Int) (a1_5 : Int) (r : Int) (w : World) (hr0 : Kd.C k26 w A0 l0.length l0) (hc0 : l0.length ≤ c0) (hx1_0_ : w.heap[B1_0_]? = some (.cells #[.string a1_0,.int .i64 a1_1,.int .i64 a1_2,.int .i64 a1_3,.int .i64 a1_4,.int .i64 a1_5] 26 (0,0))) (h : api_Hold__c23_.f k l0 a1_0 a1_1 a1_2 a1_3 a1_4 a1_5 = some r) :
  Calls Try.prog 39 #[.slice A0 l0.length c0,.func (.func 23) #[] #[.pointer (some ⟨B1_0_,0,none⟩)]] w fun e w' => e = .returned (.int .i64 r) ∧ Below w.heap.size w w' := by
 have hu26 := Try.underlying26
 have HR0 := Yd hr0
 have HC0 := Yd hc0
 clear hr0 hc0
 have BK217 := Yd hx1_0_
 clear hx1_0_
 have HB := Yd (Below.refl w.heap.size w)
 have H : (api_Hold__c23_.l0 k l0 (l0.length : Int) 0 a1_0 a1_1 a1_2 a1_3 a1_4 a1_5) = some r := h
 clear h
 have H' := Yd H
 clear H
 go_enter Try.func39,Try.ntmps39
 go_wp2
 go_loopg [8] k (fun kq v8 w' => ∃ (x8_1 : Int),v8 = .int .i64 x8_1 ∧ Aside0 (api_Hold__c23_.l0 kq l0 (l0.length : Int) x8_1 a1_0 a1_1 a1_2 a1_3 a1_4 a1_5 = some r) ∧ Aside0 (kq ≤ k) ∧ Aside0 (w'.heap[B1_0_]? = some (.cells #[.string a1_0,.int .i64 a1_1,.int .i64 a1_2,.int .i64 a1_3,.int .i64 a1_4,.int .i64 a1_5] 26 (0,0))) ∧ Aside0 (Below w.heap.size w w'))
 case atStart => exact ⟨(0),Y12,H',⟨Nat.le_refl _⟩,⟨Y6 BK217.out⟩,⟨by repeat (first | (with_reducible first | exact HB.out | apply below_alloc | apply Y15 | apply below_drew1 | refine below_set ?_ GE217.out) | exact HB.out)⟩⟩
 case round =>
  clear H'
  try clear hx1
  try clear c2
  try clear p2
  obtain ⟨x8_1,rfl,HA,HK1,BK217,HB⟩ := hrel
  cases gk with
  | zero => exact absurd HA.out (by simp [api_Hold__c23_.l0])
  | succ k1 =>
   have H := HA.out
   clear HA
   simp only [api_Hold__c23_.l0] at H
   by_cases c3 : x8_1 < (l0.length : Int)
   ·rw [if_pos c3] at H
    have c3b0 : decide (x8_1 < (l0.length : Int)) = true := decide_eq_true c3
    clear c3
    by_cases c4 : 0 ≤ x8_1
    case neg => rw [if_neg c4] at H;exact absurd H (by simp)
    rw [if_pos c4] at H
    have c4b0 : decide (0 ≤ x8_1) = true := decide_eq_true c4
    clear c4
    by_cases c5 : x8_1 < (l0.length : Int)
    case neg => rw [if_neg c5] at H;exact absurd H (by simp)
    rw [if_pos c5] at H
    have c5b0 : decide (x8_1 < (l0.length : Int)) = true := decide_eq_true c5
    clear c5
    replace H := Option.bind_eq_some_iff.mp H
    obtain ⟨t219,A60,H⟩ := H
    replace H : (if t219 = true then (some x8_1) else (api_Hold__c23_.l0 k1 l0 (l0.length : Int) (wrap64 (x8_1 + 1)) a1_0 a1_1 a1_2 a1_3 a1_4 a1_5)) = some r := H
    have A6 := Yd A60
    clear A60
    by_cases c7 : t219 = true
    ·subst c7
     have H1 : (some x8_1) = some r := by rw [if_pos rfl] at H;exact H
     clear H
     have H := H1
     clear H1
     obtain rfl := Option.some.inj H
     have p218 : 0 ≤ (x8_1 : Int) := Y9
     have q218 : x8_1 < (l0.length : Int) := Y9
     obtain ⟨ad218,e218,hx218_0,hx218_1,hx218_2,hx218_3,hx218_4,hx218_5⟩ := at_T26 HR0.out x8_1 p218 q218
     cases e218
     replace hx218_0 := Y10 HB.out hx218_0
     replace hx218_1 := Y10 HB.out hx218_1
     replace hx218_2 := Y10 HB.out hx218_2
     replace hx218_3 := Y10 HB.out hx218_3
     replace hx218_4 := Y10 HB.out hx218_4
     replace hx218_5 := Y10 HB.out hx218_5
     replace p218 := eq_true p218
     replace q218 := eq_true q218
     go_wp2_with (first | (go_at_call 23;(with_reducible refine (override_Add_1_.calls ((rd_T26 l0 x8_1).f0) ((rd_T26 l0 x8_1).f1) ((rd_T26 l0 x8_1).f2) ((rd_T26 l0 x8_1).f3.f0) ((rd_T26 l0 x8_1).f3.f1) ((rd_T26 l0 x8_1).f4) B1_0_ a1_0 a1_1 a1_2 a1_3 a1_4 a1_5 true _ ?side1 A6.out).mono ?_);(case side1 => exact (Y6 BK217.out));rintro e w8 ⟨rfl,hb⟩;have n0_ := Yd (blk_below (g := B1_0_) (o := .cells #[.string a1_0,.int .i64 a1_1,.int .i64 a1_2,.int .i64 a1_3,.int .i64 a1_4,.int .i64 a1_5] 26 (0,0)) (Y6 BK217.out) hb);have n1_ := Yd (below_step (by first | exact Y4 HB.out GE217.out | exact Y3 HB.out) hb);clear BK217;clear HB;have BK217 := n0_;have HB := n1_;clear n0_ n1_;(try clear hb);(try clear hb2);(try clear hk);(try clear hi)))
     go_ret
     exact ⟨by first | rfl | (simp [errW_none,errW_some] <;> rfl) | (simp [*,errW_none,errW_some] <;> rfl),by repeat (first | (with_reducible first | exact HB.out | apply below_alloc | apply Y15 | apply below_drew1 | refine below_set ?_ GE217.out) | exact HB.out)⟩
    ·replace c7 := Bool.eq_false_iff.mpr c7
     subst c7
     have H1 : (api_Hold__c23_.l0 k1 l0 (l0.length : Int) (wrap64 (x8_1 + 1)) a1_0 a1_1 a1_2 a1_3 a1_4 a1_5) = some r := by rw [if_neg (show ¬ (false = true) by decide)] at H;exact H
     clear H
     have H := H1
     clear H1
     have H' := Yd H
     clear H
     have p218 : 0 ≤ (x8_1 : Int) := Y9
     have q218 : x8_1 < (l0.length : Int) := Y9
     obtain ⟨ad218,e218,hx218_0,hx218_1,hx218_2,hx218_3,hx218_4,hx218_5⟩ := at_T26 HR0.out x8_1 p218 q218
     cases e218
     replace hx218_0 := Y10 HB.out hx218_0
     replace hx218_1 := Y10 HB.out hx218_1
     replace hx218_2 := Y10 HB.out hx218_2
     replace hx218_3 := Y10 HB.out hx218_3
     replace hx218_4 := Y10 HB.out hx218_4
     replace hx218_5 := Y10 HB.out hx218_5
     replace p218 := eq_true p218
     replace q218 := eq_true q218
     go_wp2_with (first | (go_at_call 23;(with_reducible refine (override_Add_1_.calls ((rd_T26 l0 x8_1).f0) ((rd_T26 l0 x8_1).f1) ((rd_T26 l0 x8_1).f2) ((rd_T26 l0 x8_1).f3.f0) ((rd_T26 l0 x8_1).f3.f1) ((rd_T26 l0 x8_1).f4) B1_0_ a1_0 a1_1 a1_2 a1_3 a1_4 a1_5 false _ ?side1 A6.out).mono ?_);(case side1 => exact (Y6 BK217.out));rintro e w9 ⟨rfl,hb⟩;have n0_ := Yd (blk_below (g := B1_0_) (o := .cells #[.string a1_0,.int .i64 a1_1,.int .i64 a1_2,.int .i64 a1_3,.int .i64 a1_4,.int .i64 a1_5] 26 (0,0)) (Y6 BK217.out) hb);have n1_ := Yd (below_step (by first | exact Y4 HB.out GE217.out | exact Y3 HB.out) hb);clear BK217;clear HB;have BK217 := n0_;have HB := n1_;clear n0_ n1_;(try clear hb);(try clear hb2);(try clear hk);(try clear hi)))
     go_roundg k1
     case measure => have := HK1.out;omega
     case rel => exact ⟨(wrap64 (x8_1 + 1)),Y12,H',⟨by have := HK1.out;omega⟩,⟨Y6 BK217.out⟩,⟨by repeat (first | (with_reducible first | exact HB.out | apply below_alloc | apply Y15 | apply below_drew1 | refine below_set ?_ GE217.out) | exact HB.out)⟩⟩
   ·rw [if_neg c3] at H
    have c3b0 : decide (x8_1 < (l0.length : Int)) = false := decide_eq_false c3
    clear c3
    obtain rfl := Option.some.inj H
    go_wp2
    go_ret
    exact ⟨by first | rfl | (simp [errW_none,errW_some] <;> rfl) | (simp [*,errW_none,errW_some] <;> rfl),by repeat (first | (with_reducible first | exact HB.out | apply below_alloc | apply Y15 | apply below_drew1 | refine below_set ?_ GE217.out) | exact HB.out)⟩
def api_Hold__c23.l0 : Nat → List (S26) → Int → Int → ByteArray → Int → Int → Int → Int → Int → Option ((List (S26)))
 | 0,_,_,_,_,_,_,_,_,_ => none
 | k + 1,x0,x5,x6,x221000,x221001,x221002,x221003,x221004,x221005 => if x6 < (x0.length : Int) then (if 0 ≤ x6 then ((override_Add_1_.f ((rd_T26 x0 x6).f0) ((rd_T26 x0 x6).f1) ((rd_T26 x0 x6).f2) ((rd_T26 x0 x6).f3.f0) ((rd_T26 x0 x6).f3.f1) ((rd_T26 x0 x6).f4) x221000 x221001 x221002 x221003 x221004 x221005).bind fun t232 => (if t232 = true then (api_Hold__c23.l0 k x0 x5 (wrap64 (x6 + 1)) x221000 x221001 x221002 x221003 x221004 x221005) else (if 0 ≤ x5 then (if x5 < (x0.length : Int) then (api_Hold__c23.l0 k (x0.set (x5 : Int).toNat (⟨(rd_T26 x0 x6).f0,(rd_T26 x0 x6).f1,(rd_T26 x0 x6).f2,(⟨(rd_T26 x0 x6).f3.f0,(rd_T26 x0 x6).f3.f1⟩ : S24),(rd_T26 x0 x6).f4⟩ : S26)) (wrap64 (x5 + 1)) (wrap64 (x6 + 1)) x221000 x221001 x221002 x221003 x221004 x221005) else (none)) else (none)))) else (none)) else (if 0 ≤ x5 then (if x5 ≤ (x0.length : Int) then (some ((x0.take (x5 : Int).toNat ++ List.replicate (x0.length - (x5 : Int).toNat) z26).take (x5 : Int).toNat)) else (none)) else (none))
def api_Hold__c23.f (k : Nat) (l0 : List (S26)) (a1_0 : ByteArray) (a1_1 : Int) (a1_2 : Int) (a1_3 : Int) (a1_4 : Int) (a1_5 : Int) : Option ((List (S26))) := (api_Hold__c23_.f k l0 a1_0 a1_1 a1_2 a1_3 a1_4 a1_5).bind fun t221 => (if t221 = (-1) then (some l0) else (api_Hold__c23.l0 k l0 t221 (wrap64 (t221 + 1)) a1_0 a1_1 a1_2 a1_3 a1_4 a1_5))
theorem api_Hold__c23.mono_l : ∀ k,(∀ y0 y1 y2 y3 y4 y5 y6 y7 y8,LeO (api_Hold__c23.l0 k y0 y1 y2 y3 y4 y5 y6 y7 y8) (api_Hold__c23.l0 (k + 1) y0 y1 y2 y3 y4 y5 y6 y7 y8))
 | 0 => fun _ _ _ _ _ _ _ _ _ r h => by simp [api_Hold__c23.l0] at h
 | k + 1 => by
  have ih0 := api_Hold__c23.mono_l k
  ·intro y0 y1 y2 y3 y4 y5 y6 y7 y8
   unfold api_Hold__c23.l0
   repeat' first
   | (with_reducible exact ih0 _ _ _ _ _ _ _ _ _)
   | (with_reducible exact api_Hold__c23_.mono _ _ _ _ _ _ _ _)
   | (with_reducible exact LeO.refl _)
   | (with_reducible exact LeO.none _)
   | (with_reducible refine LeO.ite ?_ ?_)
   | (with_reducible refine LeO.bind ?_ (fun _ => ?_))
   | exact ih0 _ _ _ _ _ _ _ _ _
   | exact api_Hold__c23_.mono _ _ _ _ _ _ _ _
   | exact LeO.none _
   | refine LeO.ite ?_ ?_
   | refine LeO.bind ?_ (fun _ => ?_)
theorem api_Hold__c23.mono : ∀ a0 a1 a2 a3 a4 a5 a6 k,LeO (api_Hold__c23.f k a0 a1 a2 a3 a4 a5 a6) (api_Hold__c23.f (k + 1) a0 a1 a2 a3 a4 a5 a6) := by
 intro a0 a1 a2 a3 a4 a5 a6 k
 have ih0 := api_Hold__c23.mono_l k
 unfold api_Hold__c23.f
 repeat' first
   | (with_reducible exact ih0 _ _ _ _ _ _ _ _ _)
   | (with_reducible exact api_Hold__c23_.mono _ _ _ _ _ _ _ _)
   | (with_reducible exact LeO.refl _)
   | (with_reducible exact LeO.none _)
   | (with_reducible refine LeO.ite ?_ ?_)
   | (with_reducible refine LeO.bind ?_ (fun _ => ?_))
   | exact ih0 _ _ _ _ _ _ _ _ _
   | exact api_Hold__c23_.mono _ _ _ _ _ _ _ _
   | exact LeO.none _
   | refine LeO.ite ?_ ?_
   | refine LeO.bind ?_ (fun _ => ?_)
set_option maxHeartbeats 100000000 in
set_option maxRecDepth 100000 in
theorem api_Hold__c23.calls (k : Nat) (P0_ : Nat → Prop) (u9000_ : Value) (l0 : List (S26)) (B1_0_ : Nat) (a1_0 : ByteArray) (a1_1 : Int) (a1_2 : Int) (a1_3 : Int) (a1_4 : Int) (a1_5 : Int) (r : List (S26)) (w0 w : World) (hB : Below w0.heap.size w0 w) (ho0 : Kd.R k26 26 w w0.heap.size P0_ u9000_ l0) (hx1_0_ : w.heap[B1_0_]? = some (.cells #[.string a1_0,.int .i64 a1_1,.int .i64 a1_2,.int .i64 a1_3,.int .i64 a1_4,.int .i64 a1_5] 26 (0,0))) (hn1_0_ : ¬ P0_ B1_0_) (h : api_Hold__c23.f k l0 a1_0 a1_1 a1_2 a1_3 a1_4 a1_5 = some r) :
  Calls Try.prog 21 #[u9000_,.func (.func 23) #[] #[.pointer (some ⟨B1_0_,0,none⟩)]] w fun e w' => ∃ v0_ : Value,e = .returned (v0_) ∧ Kd.R k26 26 w' w0.heap.size (fun k_ => (P0_ k_ ∨ w.heap.size ≤ k_)) v0_ r ∧ Below w0.heap.size w0 w' ∧ Kept w w' (fun k_ => P0_ k_) := by
 have hu26 := Try.underlying26
 have HO0 := Yd (show Kd.R k26 26 w w0.heap.size (fun k_ => (P0_ k_ ∨ w.heap.size ≤ k_) ∧ k_ ≠ B1_0_) u9000_ l0 from Kd.R_mono ho0 (fun k_ hk => ⟨(.inl hk),fun e_ => hn1_0_ (e_ ▸ hk)⟩))
 have BK220 := Yd hx1_0_
 clear hx1_0_
 have HK := Yd (Kept.refl w (fun k_ => P0_ k_))
 have HW0 := Yd hB.size
 have HB := Yd hB
 clear hB
 have H : ((api_Hold__c23_.f k l0 a1_0 a1_1 a1_2 a1_3 a1_4 a1_5).bind fun t221 => (if t221 = (-1) then (some l0) else (api_Hold__c23.l0 k l0 t221 (wrap64 (t221 + 1)) a1_0 a1_1 a1_2 a1_3 a1_4 a1_5))) = some r := h
 clear h
 replace H := Option.bind_eq_some_iff.mp H
 obtain ⟨t221,A30,H⟩ := H
 replace H : (if t221 = (-1) then (some l0) else (api_Hold__c23.l0 k l0 t221 (wrap64 (t221 + 1)) a1_0 a1_1 a1_2 a1_3 a1_4 a1_5)) = some r := H
 have A3 := Yd A30
 clear A30
 by_cases c4 : t221 = (-1)
 ·rw [if_pos c4] at H
  have c4b0 : (t221 == (-1)) = true := beq_iff_eq.mpr c4
  have c4b1 : (t221 != (-1)) = false := bne_eq_false_iff_eq.mpr c4
  clear c4
  obtain rfl := Option.some.inj H
  obtain ⟨Ao5,co5,eo5⟩ := Kd.R_slice HO0.out
  subst eo5
  go_enter Try.func21,Try.ntmps21
  go_wp2_with (first | ((with_reducible refine gate_callee (f := 39) rfl ?_);refine goesL_ (some 10) rfl rfl Try.func39 (by kernel_rfl) rfl #[.slice Ao5 l0.length co5,.func (.func 23) #[] #[.pointer (some ⟨B1_0_,0,none⟩)]] rfl Y8 ?_;(with_reducible refine (api_Hold__c23_.calls k _ _ l0 B1_0_ a1_0 a1_1 a1_2 a1_3 a1_4 a1_5 t221 _ ?side1 ?side2 ?side3 A3.out).mono ?_);(case side1 => repeat (first | exact (Kd.R_reads' HO0.out).2.2 | (with_reducible refine Kd.C_alloc ?_ _) | (with_reducible refine Kd.C_drewN ?_ _) | (with_reducible refine Kd.C_drew ?_)));(case side2 => exact (Kd.R_reads' HO0.out).2.1);(case side3 => exact (Y6 BK220.out));rintro e w6 ⟨rfl,hb⟩;refine ⟨_,rfl,?_⟩;have n0_ := Yd (Kd.R_below (Y5 HO0.out) hb);have n1_ := Yd (blk_below (g := B1_0_) (o := .cells #[.string a1_0,.int .i64 a1_1,.int .i64 a1_2,.int .i64 a1_3,.int .i64 a1_4,.int .i64 a1_5] 26 (0,0)) (Y6 BK220.out) hb);have n2_ := Yd (Kept.below (S := (fun k_ => P0_ k_)) (by repeat (first | (with_reducible first | exact HK.out | apply Kept.alloc | apply Kept.drewN | apply Kept.drew | refine Kept.setCell ?_ (.inr GW220.out) _) | exact HK.out)) hb);have n3_ := Yd (below_step (by first | exact Y4 HB.out GE220.out | exact Y3 HB.out) hb);clear HO0;clear BK220;clear HK;clear HB;have HO0 := n0_;have BK220 := n1_;have HK := n2_;have HB := n3_;clear n0_ n1_ n2_ n3_;(try clear hb);(try clear hb2);(try clear hk);(try clear hi)))
  go_ret
  exact ⟨_,by first | rfl | (simp [errW_none,errW_some] <;> rfl) | (simp [*,errW_none,errW_some] <;> rfl),by (with_reducible repeat (first | apply Kd.R_alloc | apply Kd.R_drewN | apply Kd.R_drew));exact Kd.R_mono HO0.out (fun _ hk => hk.1),by repeat (first | (with_reducible first | exact HB.out | apply below_alloc | apply Y15 | apply below_drew1 | refine below_set ?_ GE220.out) | exact HB.out),by repeat (first | (with_reducible first | exact HK.out | apply Kept.alloc | apply Kept.drewN | apply Kept.drew | refine Kept.setCell ?_ (.inr GW220.out) _) | exact HK.out)⟩
 ·rw [if_neg c4] at H
  have c4b0 : (t221 == (-1)) = false := beq_eq_false_iff_ne.mpr c4
  have c4b1 : (t221 != (-1)) = true := bne_iff_ne.mpr c4
  have H' := Yd H
  clear H
  obtain ⟨Ao7,co7,eo7⟩ := Kd.R_slice HO0.out
  subst eo7
  go_enter Try.func21,Try.ntmps21
  go_wp2_with (first | ((with_reducible refine gate_callee (f := 39) rfl ?_);refine goesL_ (some 10) rfl rfl Try.func39 (by kernel_rfl) rfl #[.slice Ao7 l0.length co7,.func (.func 23) #[] #[.pointer (some ⟨B1_0_,0,none⟩)]] rfl Y8 ?_;(with_reducible refine (api_Hold__c23_.calls k _ _ l0 B1_0_ a1_0 a1_1 a1_2 a1_3 a1_4 a1_5 t221 _ ?side1 ?side2 ?side3 A3.out).mono ?_);(case side1 => repeat (first | exact (Kd.R_reads' HO0.out).2.2 | (with_reducible refine Kd.C_alloc ?_ _) | (with_reducible refine Kd.C_drewN ?_ _) | (with_reducible refine Kd.C_drew ?_)));(case side2 => exact (Kd.R_reads' HO0.out).2.1);(case side3 => exact (Y6 BK220.out));rintro e w8 ⟨rfl,hb⟩;refine ⟨_,rfl,?_⟩;have n0_ := Yd (Kd.R_below (Y5 HO0.out) hb);have n1_ := Yd (blk_below (g := B1_0_) (o := .cells #[.string a1_0,.int .i64 a1_1,.int .i64 a1_2,.int .i64 a1_3,.int .i64 a1_4,.int .i64 a1_5] 26 (0,0)) (Y6 BK220.out) hb);have n2_ := Yd (Kept.below (S := (fun k_ => P0_ k_)) (by repeat (first | (with_reducible first | exact HK.out | apply Kept.alloc | apply Kept.drewN | apply Kept.drew | refine Kept.setCell ?_ (.inr GW220.out) _) | exact HK.out)) hb);have n3_ := Yd (below_step (by first | exact Y4 HB.out GE220.out | exact Y3 HB.out) hb);clear HO0;clear BK220;clear HK;clear HB;have HO0 := n0_;have BK220 := n1_;have HK := n2_;have HB := n3_;clear n0_ n1_ n2_ n3_;(try clear hb);(try clear hb2);(try clear hk);(try clear hi)))
  go_loopg [5,6] k (fun kq v5 v6 w' => ∃ (x0_1 : List (S26)) (x5_1 : Int) (x6_1 : Int) (x221000_1 : ByteArray) (x221001_1 : Int) (x221002_1 : Int) (x221003_1 : Int) (x221004_1 : Int) (x221005_1 : Int),v5 = .int .i64 x5_1 ∧ v6 = .int .i64 x6_1 ∧ Aside0 (api_Hold__c23.l0 kq x0_1 x5_1 x6_1 x221000_1 x221001_1 x221002_1 x221003_1 x221004_1 x221005_1 = some r) ∧ Aside0 (kq ≤ k) ∧ Aside0 (Kd.R k26 26 w' w0.heap.size (fun k_ => (P0_ k_ ∨ w.heap.size ≤ k_) ∧ k_ ≠ B1_0_) (.slice Ao7 l0.length co7) x0_1) ∧ Aside0 (w'.heap[B1_0_]? = some (.cells #[.string x221000_1,.int .i64 x221001_1,.int .i64 x221002_1,.int .i64 x221003_1,.int .i64 x221004_1,.int .i64 x221005_1] 26 (0,0))) ∧ Aside0 (Kept w w' (fun k_ => P0_ k_)) ∧ Aside0 (Below w0.heap.size w0 w'))
  case atStart => exact ⟨(l0),(t221),(wrap64 (t221 + 1)),(a1_0),(a1_1),(a1_2),(a1_3),(a1_4),(a1_5),Y12,Y12,H',⟨Nat.le_refl _⟩,⟨Y5 HO0.out⟩,⟨Y6 BK220.out⟩,⟨by repeat (first | (with_reducible first | exact HK.out | apply Kept.alloc | apply Kept.drewN | apply Kept.drew | refine Kept.setCell ?_ (.inr GW220.out) _) | exact HK.out)⟩,⟨by repeat (first | (with_reducible first | exact HB.out | apply below_alloc | apply Y15 | apply below_drew1 | refine below_set ?_ GE220.out) | exact HB.out)⟩⟩
  case round =>
   clear H'
   try clear hx1
   try clear c2
   try clear p2
   try clear c3
   try clear c4
   try clear c4b0
   try clear c4b1
   try clear p6
   obtain ⟨x0_1,x5_1,x6_1,x221000_1,x221001_1,x221002_1,x221003_1,x221004_1,x221005_1,rfl,rfl,HA,HK1,HO_0,BK220,HK,HB⟩ := hrel
   have hl0_1 := (Kd.R_reads' HO_0.out).1
   rw [hl0_1] at HO_0
   (try simp only [hl0_1])
   (try simp only [hl0_1] at BK220)
   cases gk with
   | zero => exact absurd HA.out (by simp [api_Hold__c23.l0])
   | succ k1 =>
    have H := HA.out
    clear HA
    simp only [api_Hold__c23.l0] at H
    by_cases c9 : x6_1 < (x0_1.length : Int)
    ·rw [if_pos c9] at H
     have c9b0 : decide (x6_1 < (x0_1.length : Int)) = true := decide_eq_true c9
     (try simp only [hl0_1] at c9b0)
     clear c9
     by_cases c10 : 0 ≤ x6_1
     case neg => rw [if_neg c10] at H;exact absurd H (by simp)
     rw [if_pos c10] at H
     have c10b0 : decide (0 ≤ x6_1) = true := decide_eq_true c10
     clear c10
     replace H := Option.bind_eq_some_iff.mp H
     obtain ⟨t232,A110,H⟩ := H
     replace H : (if t232 = true then (api_Hold__c23.l0 k1 x0_1 x5_1 (wrap64 (x6_1 + 1)) x221000_1 x221001_1 x221002_1 x221003_1 x221004_1 x221005_1) else (if 0 ≤ x5_1 then (if x5_1 < (x0_1.length : Int) then (api_Hold__c23.l0 k1 (x0_1.set (x5_1 : Int).toNat (⟨(rd_T26 x0_1 x6_1).f0,(rd_T26 x0_1 x6_1).f1,(rd_T26 x0_1 x6_1).f2,(⟨(rd_T26 x0_1 x6_1).f3.f0,(rd_T26 x0_1 x6_1).f3.f1⟩ : S24),(rd_T26 x0_1 x6_1).f4⟩ : S26)) (wrap64 (x5_1 + 1)) (wrap64 (x6_1 + 1)) x221000_1 x221001_1 x221002_1 x221003_1 x221004_1 x221005_1) else (none)) else (none))) = some r := H
     have A11 := Yd A110
     clear A110
     by_cases c12 : t232 = true
     ·subst c12
      have H1 : (api_Hold__c23.l0 k1 x0_1 x5_1 (wrap64 (x6_1 + 1)) x221000_1 x221001_1 x221002_1 x221003_1 x221004_1 x221005_1) = some r := by rw [if_pos rfl] at H;exact H
      clear H
      have H := H1
      clear H1
      have H' := Yd H
      clear H
      have p230 : 0 ≤ (x6_1 : Int) := Y9
      have q230 : x6_1 < (x0_1.length : Int) := Y9
      obtain ⟨ad230,e230,hx230_0,hx230_1,hx230_2,hx230_3,hx230_4,hx230_5⟩ := at_T26 (Kd.R_reads' HO_0.out).2.2 x6_1 p230 q230
      cases e230
      replace p230 := eq_true p230
      replace q230 := eq_true q230
      go_wp2_with (first | ((with_reducible refine gate_dst (N := 7) rfl ?_);refine box_event ?hg (N := 7) ?hd (cs := #[.string (⟨#[]⟩ : ByteArray),.int .i64 0,.int .i64 0,.int .i64 0,.int .i64 0,.int .i64 0]) (t := 26) ?hr ?_;(case hd => rfl);(case hg => rfl);(case hr => first | (go_simp;done) | (go_simp;rfl));intro gb231 hg w13 hbox hb;have n0_ := Yd (Kd.R_below (Kd.R_elderB (Y5 HO_0.out) gb231 (Nat.le_of_eq hg.symm)) hb);have n1_ := Yd (blk_below (g := B1_0_) (o := .cells #[.string x221000_1,.int .i64 x221001_1,.int .i64 x221002_1,.int .i64 x221003_1,.int .i64 x221004_1,.int .i64 x221005_1] 26 (0,0)) (Y6 BK220.out) hb);have n2_ := Yd (Kept.below (S := (fun k_ => P0_ k_)) (by repeat (first | (with_reducible first | exact HK.out | apply Kept.alloc | apply Kept.drewN | apply Kept.drew | refine Kept.setCell ?_ (.inr GW220.out) _) | exact HK.out)) hb);have n3_ := Yd (below_step (by first | exact Y4 HB.out GE220.out | exact Y3 HB.out) hb);have n4_ := Yd (hbox);have n5_ := Yd ((by rw [hg];exact (by first | exact HK.out.1 | exact (show Kept w _ (fun k_ => P0_ k_) from by repeat (first | (with_reducible first | exact HK.out | apply Kept.alloc | apply Kept.drewN | apply Kept.drew | refine Kept.setCell ?_ (.inr GW220.out) _) | exact HK.out)).1) : w.heap.size ≤ gb231));have n6_ := Yd ((by rw [hg];exact (below_size (by first | exact Y4 HB.out GE220.out | exact Y3 HB.out)) : w0.heap.size ≤ gb231));have n7_ := Yd ((by rw [hg];exact Nat.ne_of_lt (blk_lt (g := B1_0_) (o := .cells #[.string x221000_1,.int .i64 x221001_1,.int .i64 x221002_1,.int .i64 x221003_1,.int .i64 x221004_1,.int .i64 x221005_1] 26 (0,0)) (Y6 BK220.out)) : B1_0_ ≠ gb231));have n8_ := Yd ((by rw [hg];exact Nat.ne_of_gt (blk_lt (g := B1_0_) (o := .cells #[.string x221000_1,.int .i64 x221001_1,.int .i64 x221002_1,.int .i64 x221003_1,.int .i64 x221004_1,.int .i64 x221005_1] 26 (0,0)) (Y6 BK220.out)) : gb231 ≠ B1_0_));clear HO_0;clear BK220;clear HK;clear HB;have HO_0 := n0_;have BK220 := n1_;have HK := n2_;have HB := n3_;have BK231 := n4_;have GW231 := n5_;have GE231 := n6_;have NB220_231 := n7_;have NB231_220 := n8_;clear n0_ n1_ n2_ n3_ n4_ n5_ n6_ n7_ n8_;clear hb hbox hg;have hnb14 := NB231_220.out;have hnc14 := NB220_231.out;have hcz15_0 : w13.cell? ⟨gb231,0,none⟩ = some (.string (⟨#[]⟩ : ByteArray)) := (blk_cell BK231.out 0).trans rfl;have hcz15_1 : w13.cell? ⟨gb231,1,none⟩ = some (.int .i64 0) := (blk_cell BK231.out 1).trans rfl;have hcz15_2 : w13.cell? ⟨gb231,2,none⟩ = some (.int .i64 0) := (blk_cell BK231.out 2).trans rfl;have hcz15_3 : w13.cell? ⟨gb231,3,none⟩ = some (.int .i64 0) := (blk_cell BK231.out 3).trans rfl;have hcz15_4 : w13.cell? ⟨gb231,4,none⟩ = some (.int .i64 0) := (blk_cell BK231.out 4).trans rfl;have hcz15_5 : w13.cell? ⟨gb231,5,none⟩ = some (.int .i64 0) := (blk_cell BK231.out 5).trans rfl;have hfz15_0 := blk_frozen BK231.out 0;have hfz15_1 := blk_frozen BK231.out 1;have hfz15_2 := blk_frozen BK231.out 2;have hfz15_3 := blk_frozen BK231.out 3;have hfz15_4 := blk_frozen BK231.out 4;have hfz15_5 := blk_frozen BK231.out 5) | (go_at_call 23;(with_reducible refine (override_Add_1_.calls ((rd_T26 x0_1 x6_1).f0) ((rd_T26 x0_1 x6_1).f1) ((rd_T26 x0_1 x6_1).f2) ((rd_T26 x0_1 x6_1).f3.f0) ((rd_T26 x0_1 x6_1).f3.f1) ((rd_T26 x0_1 x6_1).f4) B1_0_ x221000_1 x221001_1 x221002_1 x221003_1 x221004_1 x221005_1 true _ ?side1 A11.out).mono ?_);(case side1 => exact (by (with_reducible repeat (first | refine blk_drewN ?_ _ | refine blk_drew ?_ | refine blk_alloc ?_ _));refine blk_far ?_ NB220_231.out _;(with_reducible repeat (first | refine blk_drewN ?_ _ | refine blk_drew ?_ | refine blk_alloc ?_ _));refine blk_far ?_ NB220_231.out _;(with_reducible repeat (first | refine blk_drewN ?_ _ | refine blk_drew ?_ | refine blk_alloc ?_ _));refine blk_far ?_ NB220_231.out _;(with_reducible repeat (first | refine blk_drewN ?_ _ | refine blk_drew ?_ | refine blk_alloc ?_ _));refine blk_far ?_ NB220_231.out _;(with_reducible repeat (first | refine blk_drewN ?_ _ | refine blk_drew ?_ | refine blk_alloc ?_ _));refine blk_far ?_ NB220_231.out _;(with_reducible repeat (first | refine blk_drewN ?_ _ | refine blk_drew ?_ | refine blk_alloc ?_ _));refine blk_far ?_ NB220_231.out _;(with_reducible repeat (first | refine blk_drewN ?_ _ | refine blk_drew ?_ | refine blk_alloc ?_ _));exact BK220.out));rintro e w16 ⟨rfl,hb⟩;have n0_ := Yd (Kd.R_below (by (with_reducible repeat (first | apply Kd.R_alloc | apply Kd.R_drewN | apply Kd.R_drew));exact (Kd.R_mono (Kd.R_far (p := ⟨gb231,5,none⟩) (Kd.R_far (p := ⟨gb231,4,none⟩) (Kd.R_far (p := ⟨gb231,3,none⟩) (Kd.R_far (p := ⟨gb231,2,none⟩) (Kd.R_far (p := ⟨gb231,1,none⟩) (Kd.R_far (p := ⟨gb231,0,none⟩) (Kd.R_mono HO_0.out (fun k_ hk => (⟨hk,hk.2⟩ : _ ∧ k_ ≠ gb231))) (fun _ hk => hk.2) (.string ((rd_T26 x0_1 x6_1).f0))) (fun _ hk => hk.2) (.int .i64 ((rd_T26 x0_1 x6_1).f1))) (fun _ hk => hk.2) (.int .i64 ((rd_T26 x0_1 x6_1).f2))) (fun _ hk => hk.2) (.int .i64 ((rd_T26 x0_1 x6_1).f3.f0))) (fun _ hk => hk.2) (.int .i64 ((rd_T26 x0_1 x6_1).f3.f1))) (fun _ hk => hk.2) (.int .i64 ((rd_T26 x0_1 x6_1).f4))) (fun _ h_ => h_.1))) hb);have n1_ := Yd (blk_below (g := B1_0_) (o := .cells #[.string x221000_1,.int .i64 x221001_1,.int .i64 x221002_1,.int .i64 x221003_1,.int .i64 x221004_1,.int .i64 x221005_1] 26 (0,0)) (by (with_reducible repeat (first | refine blk_drewN ?_ _ | refine blk_drew ?_ | refine blk_alloc ?_ _));refine blk_far ?_ NB220_231.out _;(with_reducible repeat (first | refine blk_drewN ?_ _ | refine blk_drew ?_ | refine blk_alloc ?_ _));refine blk_far ?_ NB220_231.out _;(with_reducible repeat (first | refine blk_drewN ?_ _ | refine blk_drew ?_ | refine blk_alloc ?_ _));refine blk_far ?_ NB220_231.out _;(with_reducible repeat (first | refine blk_drewN ?_ _ | refine blk_drew ?_ | refine blk_alloc ?_ _));refine blk_far ?_ NB220_231.out _;(with_reducible repeat (first | refine blk_drewN ?_ _ | refine blk_drew ?_ | refine blk_alloc ?_ _));refine blk_far ?_ NB220_231.out _;(with_reducible repeat (first | refine blk_drewN ?_ _ | refine blk_drew ?_ | refine blk_alloc ?_ _));refine blk_far ?_ NB220_231.out _;(with_reducible repeat (first | refine blk_drewN ?_ _ | refine blk_drew ?_ | refine blk_alloc ?_ _));exact BK220.out) hb);have n2_ := Yd (blk_below (g := gb231) (o := .cells #[.string ((rd_T26 x0_1 x6_1).f0),.int .i64 ((rd_T26 x0_1 x6_1).f1),.int .i64 ((rd_T26 x0_1 x6_1).f2),.int .i64 ((rd_T26 x0_1 x6_1).f3.f0),.int .i64 ((rd_T26 x0_1 x6_1).f3.f1),.int .i64 ((rd_T26 x0_1 x6_1).f4)] 26 (0,0)) (by (with_reducible repeat (first | refine blk_drewN ?_ _ | refine blk_drew ?_ | refine blk_alloc ?_ _));refine blk_put (cs := #[.string ((rd_T26 x0_1 x6_1).f0),.int .i64 ((rd_T26 x0_1 x6_1).f1),.int .i64 ((rd_T26 x0_1 x6_1).f2),.int .i64 ((rd_T26 x0_1 x6_1).f3.f0),.int .i64 ((rd_T26 x0_1 x6_1).f3.f1),.int .i64 0]) ?_ 5 _ rfl;(with_reducible repeat (first | refine blk_drewN ?_ _ | refine blk_drew ?_ | refine blk_alloc ?_ _));refine blk_put (cs := #[.string ((rd_T26 x0_1 x6_1).f0),.int .i64 ((rd_T26 x0_1 x6_1).f1),.int .i64 ((rd_T26 x0_1 x6_1).f2),.int .i64 ((rd_T26 x0_1 x6_1).f3.f0),.int .i64 0,.int .i64 0]) ?_ 4 _ rfl;(with_reducible repeat (first | refine blk_drewN ?_ _ | refine blk_drew ?_ | refine blk_alloc ?_ _));refine blk_put (cs := #[.string ((rd_T26 x0_1 x6_1).f0),.int .i64 ((rd_T26 x0_1 x6_1).f1),.int .i64 ((rd_T26 x0_1 x6_1).f2),.int .i64 0,.int .i64 0,.int .i64 0]) ?_ 3 _ rfl;(with_reducible repeat (first | refine blk_drewN ?_ _ | refine blk_drew ?_ | refine blk_alloc ?_ _));refine blk_put (cs := #[.string ((rd_T26 x0_1 x6_1).f0),.int .i64 ((rd_T26 x0_1 x6_1).f1),.int .i64 0,.int .i64 0,.int .i64 0,.int .i64 0]) ?_ 2 _ rfl;(with_reducible repeat (first | refine blk_drewN ?_ _ | refine blk_drew ?_ | refine blk_alloc ?_ _));refine blk_put (cs := #[.string ((rd_T26 x0_1 x6_1).f0),.int .i64 0,.int .i64 0,.int .i64 0,.int .i64 0,.int .i64 0]) ?_ 1 _ rfl;(with_reducible repeat (first | refine blk_drewN ?_ _ | refine blk_drew ?_ | refine blk_alloc ?_ _));refine blk_put (cs := #[.string (⟨#[]⟩ : ByteArray),.int .i64 0,.int .i64 0,.int .i64 0,.int .i64 0,.int .i64 0]) ?_ 0 _ rfl;(with_reducible repeat (first | refine blk_drewN ?_ _ | refine blk_drew ?_ | refine blk_alloc ?_ _));exact BK231.out) hb);have n3_ := Yd (Kept.below (S := (fun k_ => P0_ k_)) (by repeat (first | (with_reducible first | exact HK.out | apply Kept.alloc | apply Kept.drewN | apply Kept.drew | refine Kept.setCell ?_ (.inr GW220.out) _ | refine Kept.setCell ?_ (.inr GW231.out) _) | exact HK.out)) hb);have n4_ := Yd (below_step (by repeat (first | (with_reducible first | exact HB.out | apply below_alloc | apply Y15 | apply below_drew1 | refine below_set ?_ GE220.out | refine below_set ?_ GE231.out) | exact HB.out)) hb);clear HO_0;clear BK220;clear BK231;clear HK;clear HB;have HO_0 := n0_;have BK220 := n1_;have BK231 := n2_;have HK := n3_;have HB := n4_;clear n0_ n1_ n2_ n3_ n4_;(try clear hb);(try clear hb2);(try clear hk);(try clear hi)))
      (try simp only [← hl0_1])
      go_roundg k1
      case measure => have := HK1.out;omega
      case rel => exact ⟨(x0_1),(x5_1),(wrap64 (x6_1 + 1)),(x221000_1),(x221001_1),(x221002_1),(x221003_1),(x221004_1),(x221005_1),Y12,Y12,H',⟨by have := HK1.out;omega⟩,⟨by (try simp only [hl0_1]);(with_reducible repeat (first | apply Kd.R_alloc | apply Kd.R_drewN | apply Kd.R_drew));exact Kd.R_mono HO_0.out (fun _ hk => ⟨hk.1.1,hk.1.2⟩)⟩,⟨by (try simp only [hl0_1]);(with_reducible repeat (first | refine blk_drewN ?_ _ | refine blk_drew ?_ | refine blk_alloc ?_ _));exact BK220.out⟩,⟨by repeat (first | (with_reducible first | exact HK.out | apply Kept.alloc | apply Kept.drewN | apply Kept.drew | refine Kept.setCell ?_ (.inr GW220.out) _ | refine Kept.setCell ?_ (.inr GW231.out) _) | exact HK.out)⟩,⟨by repeat (first | (with_reducible first | exact HB.out | apply below_alloc | apply Y15 | apply below_drew1 | refine below_set ?_ GE220.out | refine below_set ?_ GE231.out) | exact HB.out)⟩⟩
     ·replace c12 := Bool.eq_false_iff.mpr c12
      subst c12
      have H1 : (if 0 ≤ x5_1 then (if x5_1 < (x0_1.length : Int) then (api_Hold__c23.l0 k1 (x0_1.set (x5_1 : Int).toNat (⟨(rd_T26 x0_1 x6_1).f0,(rd_T26 x0_1 x6_1).f1,(rd_T26 x0_1 x6_1).f2,(⟨(rd_T26 x0_1 x6_1).f3.f0,(rd_T26 x0_1 x6_1).f3.f1⟩ : S24),(rd_T26 x0_1 x6_1).f4⟩ : S26)) (wrap64 (x5_1 + 1)) (wrap64 (x6_1 + 1)) x221000_1 x221001_1 x221002_1 x221003_1 x221004_1 x221005_1) else (none)) else (none)) = some r := by rw [if_neg (show ¬ (false = true) by decide)] at H;exact H
      clear H
      have H := H1
      clear H1
      by_cases c17 : 0 ≤ x5_1
      case neg => rw [if_neg c17] at H;exact absurd H (by simp)
      rw [if_pos c17] at H
      have c17b0 : decide (0 ≤ x5_1) = true := decide_eq_true c17
      clear c17
      by_cases c18 : x5_1 < (x0_1.length : Int)
      case neg => rw [if_neg c18] at H;exact absurd H (by simp)
      rw [if_pos c18] at H
      have c18b0 : decide (x5_1 < (x0_1.length : Int)) = true := decide_eq_true c18
      (try simp only [hl0_1] at c18b0)
      clear c18
      obtain ⟨y233,hy233⟩ : ∃ y_ : List (S26),y_ = (x0_1.set (x5_1 : Int).toNat (⟨(rd_T26 x0_1 x6_1).f0,(rd_T26 x0_1 x6_1).f1,(rd_T26 x0_1 x6_1).f2,(⟨(rd_T26 x0_1 x6_1).f3.f0,(rd_T26 x0_1 x6_1).f3.f1⟩ : S24),(rd_T26 x0_1 x6_1).f4⟩ : S26)) := ⟨_,rfl⟩
      replace H : (api_Hold__c23.l0 k1 y233 (wrap64 (x5_1 + 1)) (wrap64 (x6_1 + 1)) x221000_1 x221001_1 x221002_1 x221003_1 x221004_1 x221005_1) = some r := by first | (rw [hy233];with_reducible exact H) | (have H2_ := (Option.bind_some _ _).symm.trans H;rw [hy233];with_reducible exact H2_) | (have H2_ := (Option.bind_some _ _).symm.trans H;with_reducible exact H2_) | with_reducible exact H | (rw [hy233];exact H) | exact H
      have Ny233 := Yd hy233
      clear hy233
      have H' := Yd H
      clear H
      have p230 : 0 ≤ (x6_1 : Int) := Y9
      have q230 : x6_1 < (x0_1.length : Int) := Y9
      obtain ⟨ad230,e230,hx230_0,hx230_1,hx230_2,hx230_3,hx230_4,hx230_5⟩ := at_T26 (Kd.R_reads' HO_0.out).2.2 x6_1 p230 q230
      cases e230
      replace p230 := eq_true p230
      replace q230 := eq_true q230
      go_wp2_with (first | ((with_reducible refine gate_dst (N := 7) rfl ?_);refine box_event ?hg (N := 7) ?hd (cs := #[.string (⟨#[]⟩ : ByteArray),.int .i64 0,.int .i64 0,.int .i64 0,.int .i64 0,.int .i64 0]) (t := 26) ?hr ?_;(case hd => rfl);(case hg => rfl);(case hr => first | (go_simp;done) | (go_simp;rfl));intro gb231 hg w20 hbox hb;have n0_ := Yd (Kd.R_below (Kd.R_elderB (Y5 HO_0.out) gb231 (Nat.le_of_eq hg.symm)) hb);have n1_ := Yd (blk_below (g := B1_0_) (o := .cells #[.string x221000_1,.int .i64 x221001_1,.int .i64 x221002_1,.int .i64 x221003_1,.int .i64 x221004_1,.int .i64 x221005_1] 26 (0,0)) (Y6 BK220.out) hb);have n2_ := Yd (Kept.below (S := (fun k_ => P0_ k_)) (by repeat (first | (with_reducible first | exact HK.out | apply Kept.alloc | apply Kept.drewN | apply Kept.drew | refine Kept.setCell ?_ (.inr GW220.out) _) | exact HK.out)) hb);have n3_ := Yd (below_step (by first | exact Y4 HB.out GE220.out | exact Y3 HB.out) hb);have n4_ := Yd (hbox);have n5_ := Yd ((by rw [hg];exact (by first | exact HK.out.1 | exact (show Kept w _ (fun k_ => P0_ k_) from by repeat (first | (with_reducible first | exact HK.out | apply Kept.alloc | apply Kept.drewN | apply Kept.drew | refine Kept.setCell ?_ (.inr GW220.out) _) | exact HK.out)).1) : w.heap.size ≤ gb231));have n6_ := Yd ((by rw [hg];exact (below_size (by first | exact Y4 HB.out GE220.out | exact Y3 HB.out)) : w0.heap.size ≤ gb231));have n7_ := Yd ((by rw [hg];exact Nat.ne_of_lt (blk_lt (g := B1_0_) (o := .cells #[.string x221000_1,.int .i64 x221001_1,.int .i64 x221002_1,.int .i64 x221003_1,.int .i64 x221004_1,.int .i64 x221005_1] 26 (0,0)) (Y6 BK220.out)) : B1_0_ ≠ gb231));have n8_ := Yd ((by rw [hg];exact Nat.ne_of_gt (blk_lt (g := B1_0_) (o := .cells #[.string x221000_1,.int .i64 x221001_1,.int .i64 x221002_1,.int .i64 x221003_1,.int .i64 x221004_1,.int .i64 x221005_1] 26 (0,0)) (Y6 BK220.out)) : gb231 ≠ B1_0_));clear HO_0;clear BK220;clear HK;clear HB;have HO_0 := n0_;have BK220 := n1_;have HK := n2_;have HB := n3_;have BK231 := n4_;have GW231 := n5_;have GE231 := n6_;have NB220_231 := n7_;have NB231_220 := n8_;clear n0_ n1_ n2_ n3_ n4_ n5_ n6_ n7_ n8_;clear hb hbox hg;have hnb21 := NB231_220.out;have hnc21 := NB220_231.out;have hcz22_0 : w20.cell? ⟨gb231,0,none⟩ = some (.string (⟨#[]⟩ : ByteArray)) := (blk_cell BK231.out 0).trans rfl;have hcz22_1 : w20.cell? ⟨gb231,1,none⟩ = some (.int .i64 0) := (blk_cell BK231.out 1).trans rfl;have hcz22_2 : w20.cell? ⟨gb231,2,none⟩ = some (.int .i64 0) := (blk_cell BK231.out 2).trans rfl;have hcz22_3 : w20.cell? ⟨gb231,3,none⟩ = some (.int .i64 0) := (blk_cell BK231.out 3).trans rfl;have hcz22_4 : w20.cell? ⟨gb231,4,none⟩ = some (.int .i64 0) := (blk_cell BK231.out 4).trans rfl;have hcz22_5 : w20.cell? ⟨gb231,5,none⟩ = some (.int .i64 0) := (blk_cell BK231.out 5).trans rfl;have hfz22_0 := blk_frozen BK231.out 0;have hfz22_1 := blk_frozen BK231.out 1;have hfz22_2 := blk_frozen BK231.out 2;have hfz22_3 := blk_frozen BK231.out 3;have hfz22_4 := blk_frozen BK231.out 4;have hfz22_5 := blk_frozen BK231.out 5) | (go_at_call 23;(with_reducible refine (override_Add_1_.calls ((rd_T26 x0_1 x6_1).f0) ((rd_T26 x0_1 x6_1).f1) ((rd_T26 x0_1 x6_1).f2) ((rd_T26 x0_1 x6_1).f3.f0) ((rd_T26 x0_1 x6_1).f3.f1) ((rd_T26 x0_1 x6_1).f4) B1_0_ x221000_1 x221001_1 x221002_1 x221003_1 x221004_1 x221005_1 false _ ?side1 A11.out).mono ?_);(case side1 => exact (by (with_reducible repeat (first | refine blk_drewN ?_ _ | refine blk_drew ?_ | refine blk_alloc ?_ _));refine blk_far ?_ NB220_231.out _;(with_reducible repeat (first | refine blk_drewN ?_ _ | refine blk_drew ?_ | refine blk_alloc ?_ _));refine blk_far ?_ NB220_231.out _;(with_reducible repeat (first | refine blk_drewN ?_ _ | refine blk_drew ?_ | refine blk_alloc ?_ _));refine blk_far ?_ NB220_231.out _;(with_reducible repeat (first | refine blk_drewN ?_ _ | refine blk_drew ?_ | refine blk_alloc ?_ _));refine blk_far ?_ NB220_231.out _;(with_reducible repeat (first | refine blk_drewN ?_ _ | refine blk_drew ?_ | refine blk_alloc ?_ _));refine blk_far ?_ NB220_231.out _;(with_reducible repeat (first | refine blk_drewN ?_ _ | refine blk_drew ?_ | refine blk_alloc ?_ _));refine blk_far ?_ NB220_231.out _;(with_reducible repeat (first | refine blk_drewN ?_ _ | refine blk_drew ?_ | refine blk_alloc ?_ _));exact BK220.out));rintro e w23 ⟨rfl,hb⟩;have n0_ := Yd (Kd.R_below (by (with_reducible repeat (first | apply Kd.R_alloc | apply Kd.R_drewN | apply Kd.R_drew));exact (Kd.R_mono (Kd.R_far (p := ⟨gb231,5,none⟩) (Kd.R_far (p := ⟨gb231,4,none⟩) (Kd.R_far (p := ⟨gb231,3,none⟩) (Kd.R_far (p := ⟨gb231,2,none⟩) (Kd.R_far (p := ⟨gb231,1,none⟩) (Kd.R_far (p := ⟨gb231,0,none⟩) (Kd.R_mono HO_0.out (fun k_ hk => (⟨hk,hk.2⟩ : _ ∧ k_ ≠ gb231))) (fun _ hk => hk.2) (.string ((rd_T26 x0_1 x6_1).f0))) (fun _ hk => hk.2) (.int .i64 ((rd_T26 x0_1 x6_1).f1))) (fun _ hk => hk.2) (.int .i64 ((rd_T26 x0_1 x6_1).f2))) (fun _ hk => hk.2) (.int .i64 ((rd_T26 x0_1 x6_1).f3.f0))) (fun _ hk => hk.2) (.int .i64 ((rd_T26 x0_1 x6_1).f3.f1))) (fun _ hk => hk.2) (.int .i64 ((rd_T26 x0_1 x6_1).f4))) (fun _ h_ => h_.1))) hb);have n1_ := Yd (blk_below (g := B1_0_) (o := .cells #[.string x221000_1,.int .i64 x221001_1,.int .i64 x221002_1,.int .i64 x221003_1,.int .i64 x221004_1,.int .i64 x221005_1] 26 (0,0)) (by (with_reducible repeat (first | refine blk_drewN ?_ _ | refine blk_drew ?_ | refine blk_alloc ?_ _));refine blk_far ?_ NB220_231.out _;(with_reducible repeat (first | refine blk_drewN ?_ _ | refine blk_drew ?_ | refine blk_alloc ?_ _));refine blk_far ?_ NB220_231.out _;(with_reducible repeat (first | refine blk_drewN ?_ _ | refine blk_drew ?_ | refine blk_alloc ?_ _));refine blk_far ?_ NB220_231.out _;(with_reducible repeat (first | refine blk_drewN ?_ _ | refine blk_drew ?_ | refine blk_alloc ?_ _));refine blk_far ?_ NB220_231.out _;(with_reducible repeat (first | refine blk_drewN ?_ _ | refine blk_drew ?_ | refine blk_alloc ?_ _));refine blk_far ?_ NB220_231.out _;(with_reducible repeat (first | refine blk_drewN ?_ _ | refine blk_drew ?_ | refine blk_alloc ?_ _));refine blk_far ?_ NB220_231.out _;(with_reducible repeat (first | refine blk_drewN ?_ _ | refine blk_drew ?_ | refine blk_alloc ?_ _));exact BK220.out) hb);have n2_ := Yd (blk_below (g := gb231) (o := .cells #[.string ((rd_T26 x0_1 x6_1).f0),.int .i64 ((rd_T26 x0_1 x6_1).f1),.int .i64 ((rd_T26 x0_1 x6_1).f2),.int .i64 ((rd_T26 x0_1 x6_1).f3.f0),.int .i64 ((rd_T26 x0_1 x6_1).f3.f1),.int .i64 ((rd_T26 x0_1 x6_1).f4)] 26 (0,0)) (by (with_reducible repeat (first | refine blk_drewN ?_ _ | refine blk_drew ?_ | refine blk_alloc ?_ _));refine blk_put (cs := #[.string ((rd_T26 x0_1 x6_1).f0),.int .i64 ((rd_T26 x0_1 x6_1).f1),.int .i64 ((rd_T26 x0_1 x6_1).f2),.int .i64 ((rd_T26 x0_1 x6_1).f3.f0),.int .i64 ((rd_T26 x0_1 x6_1).f3.f1),.int .i64 0]) ?_ 5 _ rfl;(with_reducible repeat (first | refine blk_drewN ?_ _ | refine blk_drew ?_ | refine blk_alloc ?_ _));refine blk_put (cs := #[.string ((rd_T26 x0_1 x6_1).f0),.int .i64 ((rd_T26 x0_1 x6_1).f1),.int .i64 ((rd_T26 x0_1 x6_1).f2),.int .i64 ((rd_T26 x0_1 x6_1).f3.f0),.int .i64 0,.int .i64 0]) ?_ 4 _ rfl;(with_reducible repeat (first | refine blk_drewN ?_ _ | refine blk_drew ?_ | refine blk_alloc ?_ _));refine blk_put (cs := #[.string ((rd_T26 x0_1 x6_1).f0),.int .i64 ((rd_T26 x0_1 x6_1).f1),.int .i64 ((rd_T26 x0_1 x6_1).f2),.int .i64 0,.int .i64 0,.int .i64 0]) ?_ 3 _ rfl;(with_reducible repeat (first | refine blk_drewN ?_ _ | refine blk_drew ?_ | refine blk_alloc ?_ _));refine blk_put (cs := #[.string ((rd_T26 x0_1 x6_1).f0),.int .i64 ((rd_T26 x0_1 x6_1).f1),.int .i64 0,.int .i64 0,.int .i64 0,.int .i64 0]) ?_ 2 _ rfl;(with_reducible repeat (first | refine blk_drewN ?_ _ | refine blk_drew ?_ | refine blk_alloc ?_ _));refine blk_put (cs := #[.string ((rd_T26 x0_1 x6_1).f0),.int .i64 0,.int .i64 0,.int .i64 0,.int .i64 0,.int .i64 0]) ?_ 1 _ rfl;(with_reducible repeat (first | refine blk_drewN ?_ _ | refine blk_drew ?_ | refine blk_alloc ?_ _));refine blk_put (cs := #[.string (⟨#[]⟩ : ByteArray),.int .i64 0,.int .i64 0,.int .i64 0,.int .i64 0,.int .i64 0]) ?_ 0 _ rfl;(with_reducible repeat (first | refine blk_drewN ?_ _ | refine blk_drew ?_ | refine blk_alloc ?_ _));exact BK231.out) hb);have n3_ := Yd (Kept.below (S := (fun k_ => P0_ k_)) (by repeat (first | (with_reducible first | exact HK.out | apply Kept.alloc | apply Kept.drewN | apply Kept.drew | refine Kept.setCell ?_ (.inr GW220.out) _ | refine Kept.setCell ?_ (.inr GW231.out) _) | exact HK.out)) hb);have n4_ := Yd (below_step (by repeat (first | (with_reducible first | exact HB.out | apply below_alloc | apply Y15 | apply below_drew1 | refine below_set ?_ GE220.out | refine below_set ?_ GE231.out) | exact HB.out)) hb);clear HO_0;clear BK220;clear BK231;clear HK;clear HB;have HO_0 := n0_;have BK220 := n1_;have BK231 := n2_;have HK := n3_;have HB := n4_;clear n0_ n1_ n2_ n3_ n4_;(try clear hb);(try clear hb2);(try clear hk);(try clear hi);have hcz24_0 : w23.cell? ⟨gb231,0,none⟩ = some (.string ((rd_T26 x0_1 x6_1).f0)) := (blk_cell BK231.out 0).trans rfl;have hcz24_1 : w23.cell? ⟨gb231,1,none⟩ = some (.int .i64 ((rd_T26 x0_1 x6_1).f1)) := (blk_cell BK231.out 1).trans rfl;have hcz24_2 : w23.cell? ⟨gb231,2,none⟩ = some (.int .i64 ((rd_T26 x0_1 x6_1).f2)) := (blk_cell BK231.out 2).trans rfl;have hcz24_3 : w23.cell? ⟨gb231,3,none⟩ = some (.int .i64 ((rd_T26 x0_1 x6_1).f3.f0)) := (blk_cell BK231.out 3).trans rfl;have hcz24_4 : w23.cell? ⟨gb231,4,none⟩ = some (.int .i64 ((rd_T26 x0_1 x6_1).f3.f1)) := (blk_cell BK231.out 4).trans rfl;have hcz24_5 : w23.cell? ⟨gb231,5,none⟩ = some (.int .i64 ((rd_T26 x0_1 x6_1).f4)) := (blk_cell BK231.out 5).trans rfl;have hfz24_0 := blk_frozen BK231.out 0;have hfz24_1 := blk_frozen BK231.out 1;have hfz24_2 := blk_frozen BK231.out 2;have hfz24_3 := blk_frozen BK231.out 3;have hfz24_4 := blk_frozen BK231.out 4;have hfz24_5 := blk_frozen BK231.out 5;have p19 : 0 ≤ (x5_1 : Int) := Y9;have q19 : (x5_1 : Int) < ((x0_1.length : Int) : Int) := Y9;obtain ⟨go19,co19,eo19,gb19,gl19,cl19,HG19⟩ := Kd.R_form HO_0.out (by omega);(first | cases eo19 | (injection eo19 with ea_ en_ ec_;(first | subst ea_ | (injection ea_ with ea_;subst ea_));subst ec_;clear en_));have GB19 := Yd gb19;have GG19 := Yd HG19;clear gb19 gl19 HG19;have HMgo19 := Yd (show (P0_ go19 ∨ w.heap.size ≤ go19) from (HO_0.out.1 _ rfl).1.1);(first | simp only [add_plain] at hx230_0 | skip);(first | simp only [add_plain] at hx230_1 | skip);(first | simp only [add_plain] at hx230_2 | skip);(first | simp only [add_plain] at hx230_3 | skip);(first | simp only [add_plain] at hx230_4 | skip);(first | simp only [add_plain] at hx230_5 | skip);obtain ⟨ce19,hcl19,hM19,hcc19,hfr19⟩ := Kd.R_elem HO_0.out z26 (x5_1 : Int) p19 q19;obtain rfl := k26_openM hM19;have hx19_0 : w23.cell? ⟨go19,(x5_1 : Int).toNat * 6,none⟩ = some (.string ((rd_T26 x0_1 x5_1).f0)) := hcc19 0 _ rfl;have hx19_1 : w23.cell? ⟨go19,(x5_1 : Int).toNat * 6 + 1,none⟩ = some (.int .i64 ((rd_T26 x0_1 x5_1).f1)) := hcc19 1 _ rfl;have hx19_2 : w23.cell? ⟨go19,(x5_1 : Int).toNat * 6 + 2,none⟩ = some (.int .i64 ((rd_T26 x0_1 x5_1).f2)) := hcc19 2 _ rfl;have hx19_3 : w23.cell? ⟨go19,(x5_1 : Int).toNat * 6 + 3,none⟩ = some (.int .i64 ((rd_T26 x0_1 x5_1).f3.f0)) := hcc19 3 _ rfl;have hx19_4 : w23.cell? ⟨go19,(x5_1 : Int).toNat * 6 + 4,none⟩ = some (.int .i64 ((rd_T26 x0_1 x5_1).f3.f1)) := hcc19 4 _ rfl;have hx19_5 : w23.cell? ⟨go19,(x5_1 : Int).toNat * 6 + 5,none⟩ = some (.int .i64 ((rd_T26 x0_1 x5_1).f4)) := hcc19 5 _ rfl;have hf19_0 : w23.frozen? ⟨go19,(x5_1 : Int).toNat * 6,none⟩ = false := hfr19 0;have hf19_1 : w23.frozen? ⟨go19,(x5_1 : Int).toNat * 6 + 1,none⟩ = false := hfr19 1;have hf19_2 : w23.frozen? ⟨go19,(x5_1 : Int).toNat * 6 + 2,none⟩ = false := hfr19 2;have hf19_3 : w23.frozen? ⟨go19,(x5_1 : Int).toNat * 6 + 3,none⟩ = false := hfr19 3;have hf19_4 : w23.frozen? ⟨go19,(x5_1 : Int).toNat * 6 + 4,none⟩ = false := hfr19 4;have hf19_5 : w23.frozen? ⟨go19,(x5_1 : Int).toNat * 6 + 5,none⟩ = false := hfr19 5;clear hcl19 hcc19 hfr19 hM19;replace p19 := eq_true p19;replace q19 := eq_true q19;have n_ := Yd (Kd.R_mono (ok' := (fun k_ => (P0_ k_ ∨ w.heap.size ≤ k_) ∧ k_ ≠ B1_0_ ∧ k_ ≠ gb231)) HO_0.out (fun k_ hk => ⟨hk.1.1,⟨hk.1.2,hk.2⟩⟩));clear HO_0;have HO_0 := n_;clear n_;have HX25 := Yd (show Kd.R k26 26 w23 w0.heap.size (fun k_ => (P0_ k_ ∨ w.heap.size ≤ k_) ∧ k_ ≠ B1_0_ ∧ k_ ≠ gb231) (.slice (some ⟨go19,0,none⟩) x0_1.length co7) x0_1 from (Y5 HO_0.out));obtain ⟨ce25,hcl25,hM25,hcc25,hfr25⟩ := Kd.R_elem HX25.out z26 (x5_1 : Int) (Y9) (by have h_ : (x5_1 : Int) < ((x0_1.length : Int) : Int) := Y9;first | exact h_ | (have e_ := (Kd.R_reads' HO_0.out).1;omega) | simpa using h_);obtain rfl := k26_openM hM25;have HP25 := Kd.R_seg HX25.out (x5_1 : Int) (Y9) (by have h_ : (x5_1 : Int) < ((x0_1.length : Int) : Int) := Y9;first | exact h_ | (have e_ := (Kd.R_reads' HO_0.out).1;omega) | simpa using h_) (seg := [.string ((rd_T26 x0_1 x6_1).f0),.int .i64 ((rd_T26 x0_1 x6_1).f1),.int .i64 ((rd_T26 x0_1 x6_1).f2),.int .i64 ((rd_T26 x0_1 x6_1).f3.f0),.int .i64 ((rd_T26 x0_1 x6_1).f3.f1),.int .i64 ((rd_T26 x0_1 x6_1).f4)]) (j := 0) hcl25 hcc25 (show 6 ≤ 6 from by decide) (x' := (⟨(rd_T26 x0_1 x6_1).f0,(rd_T26 x0_1 x6_1).f1,(rd_T26 x0_1 x6_1).f2,(⟨(rd_T26 x0_1 x6_1).f3.f0,(rd_T26 x0_1 x6_1).f3.f1⟩ : S24),(rd_T26 x0_1 x6_1).f4⟩ : S26)) (k26_mkM _ _ _ (⟨(rd_T26 x0_1 x6_1).f0,(rd_T26 x0_1 x6_1).f1,(rd_T26 x0_1 x6_1).f2,(⟨(rd_T26 x0_1 x6_1).f3.f0,(rd_T26 x0_1 x6_1).f3.f1⟩ : S24),(rd_T26 x0_1 x6_1).f4⟩ : S26) ) (fun _ hk => hk);have hx25_0 := hcc25 0 _ rfl;(try simp only [show (k26).sz = 6 from rfl,Nat.mul_one,Nat.add_zero] at hx25_0);have hf25_0 := hfr25 0;(try simp only [show (k26).sz = 6 from rfl,Nat.mul_one,Nat.add_zero] at hf25_0);have hx25_1 := hcc25 1 _ rfl;(try simp only [show (k26).sz = 6 from rfl,Nat.mul_one,Nat.add_zero] at hx25_1);have hf25_1 := hfr25 1;(try simp only [show (k26).sz = 6 from rfl,Nat.mul_one,Nat.add_zero] at hf25_1);have hx25_2 := hcc25 2 _ rfl;(try simp only [show (k26).sz = 6 from rfl,Nat.mul_one,Nat.add_zero] at hx25_2);have hf25_2 := hfr25 2;(try simp only [show (k26).sz = 6 from rfl,Nat.mul_one,Nat.add_zero] at hf25_2);have hx25_3 := hcc25 3 _ rfl;(try simp only [show (k26).sz = 6 from rfl,Nat.mul_one,Nat.add_zero] at hx25_3);have hf25_3 := hfr25 3;(try simp only [show (k26).sz = 6 from rfl,Nat.mul_one,Nat.add_zero] at hf25_3);have hx25_4 := hcc25 4 _ rfl;(try simp only [show (k26).sz = 6 from rfl,Nat.mul_one,Nat.add_zero] at hx25_4);have hf25_4 := hfr25 4;(try simp only [show (k26).sz = 6 from rfl,Nat.mul_one,Nat.add_zero] at hf25_4);have hx25_5 := hcc25 5 _ rfl;(try simp only [show (k26).sz = 6 from rfl,Nat.mul_one,Nat.add_zero] at hx25_5);have hf25_5 := hfr25 5;(try simp only [show (k26).sz = 6 from rfl,Nat.mul_one,Nat.add_zero] at hf25_5);clear hcl25 hcc25 hfr25 hM25) | ((with_reducible refine gate_store (t := 26) (p := 33) rfl ?_);refine store_event (t := 26) (p := 33) (v := ?vo_w26) (w1 := ((((((w23.setCell ⟨go19,(x5_1 : Int).toNat * 6,none⟩ (.string ((rd_T26 x0_1 x6_1).f0))).setCell ⟨go19,(x5_1 : Int).toNat * 6 + 1,none⟩ (.int .i64 ((rd_T26 x0_1 x6_1).f1))).setCell ⟨go19,(x5_1 : Int).toNat * 6 + 2,none⟩ (.int .i64 ((rd_T26 x0_1 x6_1).f2))).setCell ⟨go19,(x5_1 : Int).toNat * 6 + 3,none⟩ (.int .i64 ((rd_T26 x0_1 x6_1).f3.f0))).setCell ⟨go19,(x5_1 : Int).toNat * 6 + 4,none⟩ (.int .i64 ((rd_T26 x0_1 x6_1).f3.f1))).setCell ⟨go19,(x5_1 : Int).toNat * 6 + 5,none⟩ (.int .i64 ((rd_T26 x0_1 x6_1).f4)))) ?hg ?ho ?hn ?hr ?_;(case ho => rfl);(case hg => rfl);(case hn => rfl);(case hr => first | (go_simp;done) | (go_simp;rfl));intro w26 hw;have hg : w23.grownBy w26 (some go19) := (by rw [hw];exact HP25.2);have hp_ : Kd.R k26 26 w26 w0.heap.size (fun k_ => (P0_ k_ ∨ w.heap.size ≤ k_) ∧ k_ ≠ B1_0_ ∧ k_ ≠ gb231) (.slice (some ⟨go19,0,none⟩) x0_1.length co7) y233 := (by rw [hw,Ny233.out];exact HP25.1);clear HP25;have n0_ := Yd (hp_);have n1_ := Yd (blk_grown (g := B1_0_) (o := .cells #[.string x221000_1,.int .i64 x221001_1,.int .i64 x221002_1,.int .i64 x221003_1,.int .i64 x221004_1,.int .i64 x221005_1] 26 (0,0)) (Y6 BK220.out) hg (Kd.R_away HO_0.out (fun _ hk => hk.2.1)));have n2_ := Yd (blk_grown (g := gb231) (o := .cells #[.string ((rd_T26 x0_1 x6_1).f0),.int .i64 ((rd_T26 x0_1 x6_1).f1),.int .i64 ((rd_T26 x0_1 x6_1).f2),.int .i64 ((rd_T26 x0_1 x6_1).f3.f0),.int .i64 ((rd_T26 x0_1 x6_1).f3.f1),.int .i64 ((rd_T26 x0_1 x6_1).f4)] 26 (0,0)) (Y6 BK231.out) hg (Kd.R_away HO_0.out (fun _ hk => hk.2.2)));have n3_ := Yd ((by rw [hw];exact below_set (below_set (below_set (below_set (below_set (below_set (HB.out) GB19.out) GB19.out) GB19.out) GB19.out) GB19.out) GB19.out : Below w0.heap.size w0 w26));have n4_ := Yd (Kept.of_grown (S := (fun k_ => P0_ k_)) hg (by repeat (first | (with_reducible first | exact HK.out | apply Kept.alloc | apply Kept.drewN | apply Kept.drew | refine Kept.setCell ?_ (.inr GW220.out) _ | refine Kept.setCell ?_ (.inr GW231.out) _) | exact HK.out)) (fun k_ e_ => (HO_0.out.1 k_ e_).1));clear HO_0;clear BK220;clear BK231;clear HB;clear HK;have HO_0 := n0_;have BK220 := n1_;have BK231 := n2_;have HB := n3_;have HK := n4_;clear n0_ n1_ n2_ n3_ n4_;clear hg hw hp_))
      (try simp only [← hl0_1])
      go_roundg k1
      case measure => have := HK1.out;omega
      case rel => exact ⟨(y233),(wrap64 (x5_1 + 1)),(wrap64 (x6_1 + 1)),(x221000_1),(x221001_1),(x221002_1),(x221003_1),(x221004_1),(x221005_1),Y12,Y12,H',⟨by have := HK1.out;omega⟩,⟨by (try simp only [hl0_1]);(with_reducible repeat (first | apply Kd.R_alloc | apply Kd.R_drewN | apply Kd.R_drew));exact Kd.R_mono HO_0.out (fun _ hk => ⟨hk.1,hk.2.1⟩)⟩,⟨by (try simp only [hl0_1]);(with_reducible repeat (first | refine blk_drewN ?_ _ | refine blk_drew ?_ | refine blk_alloc ?_ _));exact BK220.out⟩,⟨by repeat (first | (with_reducible first | exact HK.out | apply Kept.alloc | apply Kept.drewN | apply Kept.drew | refine Kept.setCell ?_ (.inr GW220.out) _ | refine Kept.setCell ?_ (.inr GW231.out) _) | exact HK.out)⟩,⟨by repeat (first | (with_reducible first | exact HB.out | apply below_alloc | apply Y15 | apply below_drew1 | refine below_set ?_ GE220.out | refine below_set ?_ GE231.out) | exact HB.out)⟩⟩
    ·rw [if_neg c9] at H
     have c9b0 : decide (x6_1 < (x0_1.length : Int)) = false := decide_eq_false c9
     (try simp only [hl0_1] at c9b0)
     clear c9
     by_cases c27 : 0 ≤ x5_1
     case neg => rw [if_neg c27] at H;exact absurd H (by simp)
     rw [if_pos c27] at H
     have c27b0 := eq_true c27
     have c27b1 : decide (0 ≤ x5_1) = true := decide_eq_true c27
     clear c27
     by_cases c28 : x5_1 ≤ (x0_1.length : Int)
     case neg => rw [if_neg c28] at H;exact absurd H (by simp)
     rw [if_pos c28] at H
     have c28b0 := eq_true c28
     have c28b1 : decide (x5_1 ≤ (x0_1.length : Int)) = true := decide_eq_true c28
     clear c28
     obtain ⟨y222,hy222⟩ : ∃ y_ : List (S26),y_ = (x0_1.drop (x5_1 : Int).toNat) := ⟨_,rfl⟩
     replace H : (some ((x0_1.take (x5_1 : Int).toNat ++ List.replicate (x0_1.length - (x5_1 : Int).toNat) z26).take (x5_1 : Int).toNat)) = some r := by first | (rw [hy222];with_reducible exact H) | (have H2_ := (Option.bind_some _ _).symm.trans H;rw [hy222];with_reducible exact H2_) | (have H2_ := (Option.bind_some _ _).symm.trans H;with_reducible exact H2_) | with_reducible exact H | (rw [hy222];exact H) | exact H
     have Ny222 := Yd hy222
     clear hy222
     obtain ⟨y226,hy226⟩ : ∃ y_ : List (S26),y_ = (x0_1.take (x5_1 : Int).toNat ++ List.replicate (x0_1.length - (x5_1 : Int).toNat) z26) := ⟨_,rfl⟩
     replace H : (some (y226.take (x5_1 : Int).toNat)) = some r := by first | (rw [hy226];with_reducible exact H) | (have H2_ := (Option.bind_some _ _).symm.trans H;rw [hy226];with_reducible exact H2_) | (have H2_ := (Option.bind_some _ _).symm.trans H;with_reducible exact H2_) | with_reducible exact H | (rw [hy226];exact H) | exact H
     have Ny226 := Yd hy226
     clear hy226
     have c29b0 := eq_true (Y9 : x5_1 ≤ (x0_1.length : Int))
     obtain ⟨y227,hy227⟩ : ∃ y_ : List (S26),y_ = (y226.take (x5_1 : Int).toNat) := ⟨_,rfl⟩
     replace H : (some y227) = some r := by first | (rw [hy227];with_reducible exact H) | (have H2_ := (Option.bind_some _ _).symm.trans H;rw [hy227];with_reducible exact H2_) | (have H2_ := (Option.bind_some _ _).symm.trans H;with_reducible exact H2_) | with_reducible exact H | (rw [hy227];exact H) | exact H
     have Ny227 := Yd hy227
     clear hy227
     obtain rfl := Option.some.inj H
     have q30 : (x5_1 : Int) ≤ ((x0_1.length : Int) : Int) := Y9
     obtain ⟨i030,hi030,_,hsz30,_⟩ := info_parts info26
     have hroom30 : x0_1.length ≤ co7 := (Kd.R_reads' HO_0.out).2.1
     have hC30 : Kd.C k26 _ Ao7 x0_1.length x0_1 := (Kd.R_reads' HO_0.out).2.2
     have q030 : (0 : Int) ≤ (x5_1 : Int) := Y9
     have hcut30 := cut_from (P := Try.prog) 22 26 .i64 Try.underlying22 hi030 6 hsz30 Ao7 x0_1.length co7 x5_1 q030 q30
     have hr30 := Kd.C_drop (m := (x5_1 : Int).toNat) (c := co7) hC30 (by omega) hroom30
     obtain ⟨A30,hA30⟩ : ∃ A1,A1 = (if co7 = (x5_1 : Int).toNat then Ao7 else (Ao7 : Option Addr).map (·.add ((x5_1 : Int).toNat * 6))) := ⟨_,rfl⟩
     obtain ⟨c30,hc30⟩ : ∃ c1,c1 = co7 - (x5_1 : Int).toNat := ⟨_,rfl⟩
     have hy30 : y222.length = x0_1.length - (x5_1 : Int).toNat := (by rw [Ny222.out,List.length_drop] <;> omega)
     rw [show (x0_1).drop (x5_1 : Int).toNat = y222 from Ny222.out.symm] at hr30
     replace hr30 : Kd.C k26 _ A30 y222.length y222 := (by rw [hA30];exact hr30)
     rw [← hy30,← hA30,← hc30] at hcut30
     have HR225 := Yd hr30
     have HC225 := Yd (show y222.length ≤ c30 from by rw [hy30,hc30];exact Nat.sub_le_sub_right hroom30 _)
     clear hr30 hC30 hroom30 hi030 hsz30 hc30
     have KY30 := Yd hy30
     have KA30 := Yd hA30
     clear hy30 hA30
     have KL30 := Yd (show (x5_1 : Int).toNat ≤ x0_1.length from by omega)
     replace q30 := eq_true q30
     go_wp2_with (first | ((with_reducible refine gate_builtin (b := .clear) (xs := #[.tmp 38]) rfl ?_);have hy1_ := KY30.out;have hj_ : 0 ≤ (x5_1 : Int) := Y9;have hh_ : (x5_1 : Int) ≤ (x0_1.length : Int) := Y9;refine Kd.R_clear k26 (w0 := w0) w0.heap.size rfl (.tmp 38) 22 26 (.agg #[(.string ⟨#[]⟩),(.int .i64 0),(.int .i64 0),(.int .i64 0),(.int .i64 0),(.int .i64 0)]) z26 rfl Try.underlying22 (fun _ => rfl) rfl (by decide) (fun _ _ _ => k26_mkM _ _ _ z26) (n := x0_1.length) (c := co7) (k := (x5_1 : Int).toNat) rfl ?hA ?hm (Y5 HO_0.out) ?hk (by first | exact Y4 HB.out GE220.out | exact Y3 HB.out) (below_size (by first | exact Y4 HB.out GE220.out | exact Y3 HB.out)) ?_;(case hA => first | exact KA30.out | rfl);(case hm => first | exact hy1_ | omega);(case hk => omega);intro w31 ho hb hg;clear hh_ hy1_;(try clear hj_);rw [← Ny226.out] at ho;have n0_ := Yd (ho);have n1_ := Yd (blk_grown (g := B1_0_) (o := .cells #[.string x221000_1,.int .i64 x221001_1,.int .i64 x221002_1,.int .i64 x221003_1,.int .i64 x221004_1,.int .i64 x221005_1] 26 (0,0)) (Y6 BK220.out) hg (Kd.R_away HO_0.out (fun _ hk => hk.2)));have n2_ := Yd (hb);have n3_ := Yd (Kept.of_grown (S := (fun k_ => P0_ k_)) hg (by repeat (first | (with_reducible first | exact HK.out | apply Kept.alloc | apply Kept.drewN | apply Kept.drew | refine Kept.setCell ?_ (.inr GW220.out) _) | exact HK.out)) (fun k_ e_ => (HO_0.out.1 k_ e_).1));clear HO_0;clear BK220;clear HB;clear HK;have HO_0 := n0_;have BK220 := n1_;have HB := n2_;have HK := n3_;clear n0_ n1_ n2_ n3_;clear ho hb hg;have q32 : (x5_1 : Int) ≤ ((x0_1.length : Int) : Int) := Y9;obtain ⟨i032,hi032,_,hsz32,_⟩ := info_parts info26;have hcut32 := cut_to (P := Try.prog) 22 26 .i64 Try.underlying22 hi032 Ao7 x0_1.length co7 x5_1 (Y9) q32 (Kd.R_reads' HO_0.out).2.1;have hr32 := Kd.R_take (m := (x5_1 : Int).toNat) HO_0.out (by have e_ := (Kd.R_reads' HO_0.out).1;omega);have hy32 : y227.length = (x5_1 : Int).toNat := (by have e_ := (Kd.R_reads' HO_0.out).1;rw [Ny227.out,List.length_take];omega);rw [← Ny227.out] at hr32;rw [← hy32] at hr32 hcut32;clear hy32 hi032 hsz32 HO_0;have HO229 := Yd hr32;clear hr32;replace q32 := eq_true q32))
     go_ret
     exact ⟨_,by first | rfl | (simp [errW_none,errW_some] <;> rfl) | (simp [*,errW_none,errW_some] <;> rfl),by (with_reducible repeat (first | apply Kd.R_alloc | apply Kd.R_drewN | apply Kd.R_drew));exact Kd.R_mono HO229.out (fun _ hk => hk.1),by repeat (first | (with_reducible first | exact HB.out | apply below_alloc | apply Y15 | apply below_drew1 | refine below_set ?_ GE220.out) | exact HB.out),by repeat (first | (with_reducible first | exact HK.out | apply Kept.alloc | apply Kept.drewN | apply Kept.drew | refine Kept.setCell ?_ (.inr GW220.out) _) | exact HK.out)⟩
mutual
def override_Add.j1 : Nat → List (S26) → Int → ByteArray → Int → Int → Int → Int → Int → Option ((List (S26)) × Int)
 | 0,_,_,_,_,_,_,_,_ => none
 | k + 1,x7,x8,x235000,x235001,x235002,x235003,x235004,x235005 => (ins_Hold.f x7 x8 (([(⟨x235000,x235001,x235002,(⟨x235003,x235004⟩ : S24),x235005⟩ : S26)] : List (S26)))).bind fun t246 => ((override_Check.f k t246).bind fun t249 => (if t249 = 0 then (some (t246,0)) else (some (([] : List (S26)),t249))))
def override_Add.l0 : Nat → List (S26) → Int → ByteArray → Int → Int → Int → Int → Int → Option ((List (S26)) × Int)
 | 0,_,_,_,_,_,_,_,_ => none
 | k + 1,x7,x8,x235000,x235001,x235002,x235003,x235004,x235005 => if x8 < (x7.length : Int) then (if 0 ≤ x8 then (if (Op.bytesLess (((rd_T26 x7 x8).f0).toList) x235000.toList) = true then (override_Add.l0 k x7 (wrap64 (x8 + 1)) x235000 x235001 x235002 x235003 x235004 x235005) else (override_Add.j1 k x7 x8 x235000 x235001 x235002 x235003 x235004 x235005)) else (none)) else (override_Add.j1 k x7 x8 x235000 x235001 x235002 x235003 x235004 x235005)
end
def override_Add.f (k : Nat) (l0 : List (S26)) (a1_0 : ByteArray) (a1_1 : Int) (a1_2 : Int) (a1_3 : Int) (a1_4 : Int) (a1_5 : Int) : Option ((List (S26)) × Int) := (override_Check.f k l0).bind fun t235 => (if t235 = 0 then ((api_Hold_22.f l0).bind fun t236 => ((api_Hold__c23.f k t236 a1_0 a1_1 a1_2 a1_3 a1_4 a1_5).bind fun t239 => (override_Add.l0 k t239 0 a1_0 a1_1 a1_2 a1_3 a1_4 a1_5))) else (some (([] : List (S26)),t235)))
theorem override_Add.mono_l : ∀ k,(∀ y0 y1 y2 y3 y4 y5 y6 y7,LeO (override_Add.j1 k y0 y1 y2 y3 y4 y5 y6 y7) (override_Add.j1 (k + 1) y0 y1 y2 y3 y4 y5 y6 y7)) ∧ (∀ y0 y1 y2 y3 y4 y5 y6 y7,LeO (override_Add.l0 k y0 y1 y2 y3 y4 y5 y6 y7) (override_Add.l0 (k + 1) y0 y1 y2 y3 y4 y5 y6 y7))
 | 0 => ⟨fun _ _ _ _ _ _ _ _ r h => by simp [override_Add.j1] at h,fun _ _ _ _ _ _ _ _ r h => by simp [override_Add.l0] at h⟩
 | k + 1 => by
  obtain ⟨ih0,ih1⟩ := override_Add.mono_l k
  refine ⟨?_,?_⟩
  ·intro y0 y1 y2 y3 y4 y5 y6 y7
   unfold override_Add.j1
   repeat' first
   | (with_reducible exact ih0 _ _ _ _ _ _ _ _)
   | (with_reducible exact ih1 _ _ _ _ _ _ _ _)
   | (with_reducible exact api_Hold__c23.mono _ _ _ _ _ _ _ _)
   | (with_reducible exact override_Check.mono _ _)
   | (with_reducible exact LeO.refl _)
   | (with_reducible exact LeO.none _)
   | (with_reducible refine LeO.ite ?_ ?_)
   | (with_reducible refine LeO.bind ?_ (fun _ => ?_))
   | exact ih0 _ _ _ _ _ _ _ _
   | exact ih1 _ _ _ _ _ _ _ _
   | exact api_Hold__c23.mono _ _ _ _ _ _ _ _
   | exact override_Check.mono _ _
   | exact LeO.none _
   | refine LeO.ite ?_ ?_
   | refine LeO.bind ?_ (fun _ => ?_)
  ·intro y0 y1 y2 y3 y4 y5 y6 y7
   unfold override_Add.l0
   repeat' first
   | (with_reducible exact ih0 _ _ _ _ _ _ _ _)
   | (with_reducible exact ih1 _ _ _ _ _ _ _ _)
   | (with_reducible exact api_Hold__c23.mono _ _ _ _ _ _ _ _)
   | (with_reducible exact override_Check.mono _ _)
   | (with_reducible exact LeO.refl _)
   | (with_reducible exact LeO.none _)
   | (with_reducible refine LeO.ite ?_ ?_)
   | (with_reducible refine LeO.bind ?_ (fun _ => ?_))
   | exact ih0 _ _ _ _ _ _ _ _
   | exact ih1 _ _ _ _ _ _ _ _
   | exact api_Hold__c23.mono _ _ _ _ _ _ _ _
   | exact override_Check.mono _ _
   | exact LeO.none _
   | refine LeO.ite ?_ ?_
   | refine LeO.bind ?_ (fun _ => ?_)
theorem override_Add.mono : ∀ a0 a1 a2 a3 a4 a5 a6 k,LeO (override_Add.f k a0 a1 a2 a3 a4 a5 a6) (override_Add.f (k + 1) a0 a1 a2 a3 a4 a5 a6) := by
 intro a0 a1 a2 a3 a4 a5 a6 k
 obtain ⟨ih0,ih1⟩ := override_Add.mono_l k
 unfold override_Add.f
 repeat' first
   | (with_reducible exact ih0 _ _ _ _ _ _ _ _)
   | (with_reducible exact ih1 _ _ _ _ _ _ _ _)
   | (with_reducible exact api_Hold__c23.mono _ _ _ _ _ _ _ _)
   | (with_reducible exact override_Check.mono _ _)
   | (with_reducible exact LeO.refl _)
   | (with_reducible exact LeO.none _)
   | (with_reducible refine LeO.ite ?_ ?_)
   | (with_reducible refine LeO.bind ?_ (fun _ => ?_))
   | exact ih0 _ _ _ _ _ _ _ _
   | exact ih1 _ _ _ _ _ _ _ _
   | exact api_Hold__c23.mono _ _ _ _ _ _ _ _
   | exact override_Check.mono _ _
   | exact LeO.none _
   | refine LeO.ite ?_ ?_
   | refine LeO.bind ?_ (fun _ => ?_)
set_option maxHeartbeats 100000000 in
set_option maxRecDepth 100000 in
theorem override_Add.calls (k : Nat) (A0 : Option Addr) (c0 : Nat) (l0 : List (S26)) (a1_0 : ByteArray) (a1_1 : Int) (a1_2 : Int) (a1_3 : Int) (a1_4 : Int) (a1_5 : Int) (r1 : List (S26)) (r2 : Int) (w : World) (hr0 : Kd.C k26 w A0 l0.length l0) (hc0 : l0.length ≤ c0) (h : override_Add.f k l0 a1_0 a1_1 a1_2 a1_3 a1_4 a1_5 = some (r1,r2)) :
  Calls Try.prog 8 #[.slice A0 l0.length c0,.agg #[.string a1_0,.int .i64 a1_1,.int .i64 a1_2,.int .i64 a1_3,.int .i64 a1_4,.int .i64 a1_5]] w fun e w' => ∃ v0_ : Value,e = .returned (.tuple #[v0_,.int .i64 r2]) ∧ Kd.R k26 26 w' w.heap.size (fun _ => True) v0_ r1 ∧ Below w.heap.size w w' := by
 have hu26 := Try.underlying26
 have HR0 := Yd hr0
 have HC0 := Yd hc0
 clear hr0 hc0
 have HB := Yd (Below.refl w.heap.size w)
 have H : ((override_Check.f k l0).bind fun t235 => (if t235 = 0 then ((api_Hold_22.f l0).bind fun t236 => ((api_Hold__c23.f k t236 a1_0 a1_1 a1_2 a1_3 a1_4 a1_5).bind fun t239 => (override_Add.l0 k t239 0 a1_0 a1_1 a1_2 a1_3 a1_4 a1_5))) else (some (([] : List (S26)),t235)))) = some (r1,r2) := h
 clear h
 replace H := Option.bind_eq_some_iff.mp H
 obtain ⟨t235,A30,H⟩ := H
 replace H : (if t235 = 0 then ((api_Hold_22.f l0).bind fun t236 => ((api_Hold__c23.f k t236 a1_0 a1_1 a1_2 a1_3 a1_4 a1_5).bind fun t239 => (override_Add.l0 k t239 0 a1_0 a1_1 a1_2 a1_3 a1_4 a1_5))) else (some (([] : List (S26)),t235))) = some (r1,r2) := H
 have A3 := Yd A30
 clear A30
 by_cases c4 : t235 = 0
 ·rw [if_pos c4] at H
  have c4b0 : (t235 == 0) = true := beq_iff_eq.mpr c4
  have c4b1 : (t235 != 0) = false := bne_eq_false_iff_eq.mpr c4
  clear c4
  replace H := Option.bind_eq_some_iff.mp H
  obtain ⟨t236,A50,H⟩ := H
  replace H : ((api_Hold__c23.f k t236 a1_0 a1_1 a1_2 a1_3 a1_4 a1_5).bind fun t239 => (override_Add.l0 k t239 0 a1_0 a1_1 a1_2 a1_3 a1_4 a1_5)) = some (r1,r2) := H
  have A5 := Yd A50
  clear A50
  replace H := Option.bind_eq_some_iff.mp H
  obtain ⟨t239,A60,H⟩ := H
  replace H : (override_Add.l0 k t239 0 a1_0 a1_1 a1_2 a1_3 a1_4 a1_5) = some (r1,r2) := H
  have A6 := Yd A60
  clear A60
  have HC7 := Yd H
  clear H
  go_enter Try.func8,Try.ntmps8
  go_upto_block 0 with (first | ((with_reducible refine gate_dst (N := 3) rfl ?_);refine box_event ?hg (N := 3) ?hd (cs := #[.string a1_0,.int .i64 a1_1,.int .i64 a1_2,.int .i64 a1_3,.int .i64 a1_4,.int .i64 a1_5]) (t := 26) ?hr ?_;(case hd => rfl);(case hg => rfl);(case hr => first | (go_simp;done) | (go_simp;rfl));intro gb234 hg w8 hbox hb;have n0_ := Yd (below_step (Y3 HB.out) hb);have n1_ := Yd (hbox);have n2_ := Yd ((by rw [hg];exact (below_size (Y3 HB.out)) : w.heap.size ≤ gb234));have n3_ := Yd ((by rw [hg];exact (below_size (Y3 HB.out)) : w.heap.size ≤ gb234));clear HB;have HB := n0_;have BK234 := n1_;have GW234 := n2_;have GE234 := n3_;clear n0_ n1_ n2_ n3_;clear hb hbox hg) | (go_at_call 16;(with_reducible refine (override_Check.calls k _ _ l0 t235 _ ?side1 ?side2 A3.out).mono ?_);(case side1 => exact Y11 (Kd.C_below HR0.out HB.out));(case side2 => exact HC0.out);rintro e w9 ⟨rfl,hb⟩;have n0_ := Yd (blk_below (g := gb234) (o := .cells #[.string a1_0,.int .i64 a1_1,.int .i64 a1_2,.int .i64 a1_3,.int .i64 a1_4,.int .i64 a1_5] 26 (0,0)) (Y6 BK234.out) hb);have n1_ := Yd (below_step (by first | exact Y4 HB.out GE234.out | exact Y3 HB.out) hb);clear BK234;clear HB;have BK234 := n0_;have HB := n1_;clear n0_ n1_;(try clear hb);(try clear hb2);(try clear hk);(try clear hi)) | (go_at_call 22;(with_reducible refine (api_Hold_22.calls _ _ l0 t236 _ ?side1 ?side2 A5.out).mono ?_);(case side1 => exact Y11 (Kd.C_below HR0.out HB.out));(case side2 => exact HC0.out);rintro e w10 ⟨v237,rfl,ho0,hb⟩;have n0_ := Yd (Kd.R_lower (Kd.R_newB ho0 (g := gb234) (o := .cells #[.string a1_0,.int .i64 a1_1,.int .i64 a1_2,.int .i64 a1_3,.int .i64 a1_4,.int .i64 a1_5] 26 (0,0)) (Y6 BK234.out)) (below_size (by first | exact Y4 HB.out GE234.out | exact Y3 HB.out)));have n1_ := Yd (blk_below (g := gb234) (o := .cells #[.string a1_0,.int .i64 a1_1,.int .i64 a1_2,.int .i64 a1_3,.int .i64 a1_4,.int .i64 a1_5] 26 (0,0)) (Y6 BK234.out) hb);have n2_ := Yd (below_step (by first | exact Y4 HB.out GE234.out | exact Y3 HB.out) hb);clear BK234;clear HB;have HO238 := n0_;have BK234 := n1_;have HB := n2_;clear n0_ n1_ n2_;(try clear hb);(try clear hb2);(try clear hk);(try clear hi);(try clear ho0);obtain ⟨Ao11,co11,eo11⟩ := Kd.R_slice HO238.out;subst eo11) | (go_at_call 21;(with_reducible refine (api_Hold__c23.calls k (fun k_ => some k_ = (.slice Ao11 t236.length co11 : Value).ownBlock) (.slice Ao11 t236.length co11) t236 gb234 a1_0 a1_1 a1_2 a1_3 a1_4 a1_5 t239 w _ ?side1 ?side2 ?side3 ?side4 A6.out).mono ?_);(case side1 => repeat (first | (with_reducible first | exact HB.out | apply below_alloc | apply Y15 | apply below_drew1 | refine below_set ?_ GE234.out) | exact HB.out));(case side2 => exact Kd.R_tight rfl HO238.out);(case side3 => exact (Y6 BK234.out));(case side4 => exact fun hs_ => (fun e_ => (Kd.R_away HO238.out (fun _ hk => hk.2)) e_) hs_);rintro e w12 ⟨v240,rfl,ho0,hb,hkp⟩;have n0_ := Yd (blk_kept (Y6 BK234.out) hkp (fun hs_ => (fun e_ => (Kd.R_away HO238.out (fun _ hk => hk.2)) e_) hs_));have n1_ := Yd (Kd.R_mono (ok' := fun k_ => k_ ≠ gb234) ho0 (fun k_ hk_ => Or.elim hk_ (fun hs_ => fun e_ => (Kd.R_away HO238.out (fun _ hk => hk.2)) (by rw [← e_];exact hs_)) (fun hn_ => (Kd.freshB (g := gb234) (o := .cells #[.string a1_0,.int .i64 a1_1,.int .i64 a1_2,.int .i64 a1_3,.int .i64 a1_4,.int .i64 a1_5] 26 (0,0)) (Y6 BK234.out) k_ hn_))));have n2_ := Yd (hb);clear BK234;clear HB;clear HO238;have BK234 := n0_;have HO241 := n1_;have HB := n2_;clear n0_ n1_ n2_;(try clear hb);(try clear hkp);(try clear ho0)))
  repeat (go_quiet (first | ((with_reducible refine gate_dst (N := 3) rfl ?_);refine box_event ?hg (N := 3) ?hd (cs := #[.string a1_0,.int .i64 a1_1,.int .i64 a1_2,.int .i64 a1_3,.int .i64 a1_4,.int .i64 a1_5]) (t := 26) ?hr ?_;(case hd => rfl);(case hg => rfl);(case hr => first | (go_simp;done) | (go_simp;rfl));intro gb234 hg w8 hbox hb;have n0_ := Yd (below_step (Y3 HB.out) hb);have n1_ := Yd (hbox);have n2_ := Yd ((by rw [hg];exact (below_size (Y3 HB.out)) : w.heap.size ≤ gb234));have n3_ := Yd ((by rw [hg];exact (below_size (Y3 HB.out)) : w.heap.size ≤ gb234));clear HB;have HB := n0_;have BK234 := n1_;have GW234 := n2_;have GE234 := n3_;clear n0_ n1_ n2_ n3_;clear hb hbox hg) | (go_at_call 16;(with_reducible refine (override_Check.calls k _ _ l0 t235 _ ?side1 ?side2 A3.out).mono ?_);(case side1 => exact Y11 (Kd.C_below HR0.out HB.out));(case side2 => exact HC0.out);rintro e w9 ⟨rfl,hb⟩;have n0_ := Yd (blk_below (g := gb234) (o := .cells #[.string a1_0,.int .i64 a1_1,.int .i64 a1_2,.int .i64 a1_3,.int .i64 a1_4,.int .i64 a1_5] 26 (0,0)) (Y6 BK234.out) hb);have n1_ := Yd (below_step (by first | exact Y4 HB.out GE234.out | exact Y3 HB.out) hb);clear BK234;clear HB;have BK234 := n0_;have HB := n1_;clear n0_ n1_;(try clear hb);(try clear hb2);(try clear hk);(try clear hi)) | (go_at_call 22;(with_reducible refine (api_Hold_22.calls _ _ l0 t236 _ ?side1 ?side2 A5.out).mono ?_);(case side1 => exact Y11 (Kd.C_below HR0.out HB.out));(case side2 => exact HC0.out);rintro e w10 ⟨v237,rfl,ho0,hb⟩;have n0_ := Yd (Kd.R_lower (Kd.R_newB ho0 (g := gb234) (o := .cells #[.string a1_0,.int .i64 a1_1,.int .i64 a1_2,.int .i64 a1_3,.int .i64 a1_4,.int .i64 a1_5] 26 (0,0)) (Y6 BK234.out)) (below_size (by first | exact Y4 HB.out GE234.out | exact Y3 HB.out)));have n1_ := Yd (blk_below (g := gb234) (o := .cells #[.string a1_0,.int .i64 a1_1,.int .i64 a1_2,.int .i64 a1_3,.int .i64 a1_4,.int .i64 a1_5] 26 (0,0)) (Y6 BK234.out) hb);have n2_ := Yd (below_step (by first | exact Y4 HB.out GE234.out | exact Y3 HB.out) hb);clear BK234;clear HB;have HO238 := n0_;have BK234 := n1_;have HB := n2_;clear n0_ n1_ n2_;(try clear hb);(try clear hb2);(try clear hk);(try clear hi);(try clear ho0);obtain ⟨Ao11,co11,eo11⟩ := Kd.R_slice HO238.out;subst eo11) | (go_at_call 21;(with_reducible refine (api_Hold__c23.calls k (fun k_ => some k_ = (.slice Ao11 t236.length co11 : Value).ownBlock) (.slice Ao11 t236.length co11) t236 gb234 a1_0 a1_1 a1_2 a1_3 a1_4 a1_5 t239 w _ ?side1 ?side2 ?side3 ?side4 A6.out).mono ?_);(case side1 => repeat (first | (with_reducible first | exact HB.out | apply below_alloc | apply Y15 | apply below_drew1 | refine below_set ?_ GE234.out) | exact HB.out));(case side2 => exact Kd.R_tight rfl HO238.out);(case side3 => exact (Y6 BK234.out));(case side4 => exact fun hs_ => (fun e_ => (Kd.R_away HO238.out (fun _ hk => hk.2)) e_) hs_);rintro e w12 ⟨v240,rfl,ho0,hb,hkp⟩;have n0_ := Yd (blk_kept (Y6 BK234.out) hkp (fun hs_ => (fun e_ => (Kd.R_away HO238.out (fun _ hk => hk.2)) e_) hs_));have n1_ := Yd (Kd.R_mono (ok' := fun k_ => k_ ≠ gb234) ho0 (fun k_ hk_ => Or.elim hk_ (fun hs_ => fun e_ => (Kd.R_away HO238.out (fun _ hk => hk.2)) (by rw [← e_];exact hs_)) (fun hn_ => (Kd.freshB (g := gb234) (o := .cells #[.string a1_0,.int .i64 a1_1,.int .i64 a1_2,.int .i64 a1_3,.int .i64 a1_4,.int .i64 a1_5] 26 (0,0)) (Y6 BK234.out) k_ hn_))));have n2_ := Yd (hb);clear BK234;clear HB;clear HO238;have BK234 := n0_;have HO241 := n1_;have HB := n2_;clear n0_ n1_ n2_;(try clear hb);(try clear hkp);(try clear ho0)));go_upto_block 0 with (first | ((with_reducible refine gate_dst (N := 3) rfl ?_);refine box_event ?hg (N := 3) ?hd (cs := #[.string a1_0,.int .i64 a1_1,.int .i64 a1_2,.int .i64 a1_3,.int .i64 a1_4,.int .i64 a1_5]) (t := 26) ?hr ?_;(case hd => rfl);(case hg => rfl);(case hr => first | (go_simp;done) | (go_simp;rfl));intro gb234 hg w8 hbox hb;have n0_ := Yd (below_step (Y3 HB.out) hb);have n1_ := Yd (hbox);have n2_ := Yd ((by rw [hg];exact (below_size (Y3 HB.out)) : w.heap.size ≤ gb234));have n3_ := Yd ((by rw [hg];exact (below_size (Y3 HB.out)) : w.heap.size ≤ gb234));clear HB;have HB := n0_;have BK234 := n1_;have GW234 := n2_;have GE234 := n3_;clear n0_ n1_ n2_ n3_;clear hb hbox hg) | (go_at_call 16;(with_reducible refine (override_Check.calls k _ _ l0 t235 _ ?side1 ?side2 A3.out).mono ?_);(case side1 => exact Y11 (Kd.C_below HR0.out HB.out));(case side2 => exact HC0.out);rintro e w9 ⟨rfl,hb⟩;have n0_ := Yd (blk_below (g := gb234) (o := .cells #[.string a1_0,.int .i64 a1_1,.int .i64 a1_2,.int .i64 a1_3,.int .i64 a1_4,.int .i64 a1_5] 26 (0,0)) (Y6 BK234.out) hb);have n1_ := Yd (below_step (by first | exact Y4 HB.out GE234.out | exact Y3 HB.out) hb);clear BK234;clear HB;have BK234 := n0_;have HB := n1_;clear n0_ n1_;(try clear hb);(try clear hb2);(try clear hk);(try clear hi)) | (go_at_call 22;(with_reducible refine (api_Hold_22.calls _ _ l0 t236 _ ?side1 ?side2 A5.out).mono ?_);(case side1 => exact Y11 (Kd.C_below HR0.out HB.out));(case side2 => exact HC0.out);rintro e w10 ⟨v237,rfl,ho0,hb⟩;have n0_ := Yd (Kd.R_lower (Kd.R_newB ho0 (g := gb234) (o := .cells #[.string a1_0,.int .i64 a1_1,.int .i64 a1_2,.int .i64 a1_3,.int .i64 a1_4,.int .i64 a1_5] 26 (0,0)) (Y6 BK234.out)) (below_size (by first | exact Y4 HB.out GE234.out | exact Y3 HB.out)));have n1_ := Yd (blk_below (g := gb234) (o := .cells #[.string a1_0,.int .i64 a1_1,.int .i64 a1_2,.int .i64 a1_3,.int .i64 a1_4,.int .i64 a1_5] 26 (0,0)) (Y6 BK234.out) hb);have n2_ := Yd (below_step (by first | exact Y4 HB.out GE234.out | exact Y3 HB.out) hb);clear BK234;clear HB;have HO238 := n0_;have BK234 := n1_;have HB := n2_;clear n0_ n1_ n2_;(try clear hb);(try clear hb2);(try clear hk);(try clear hi);(try clear ho0);obtain ⟨Ao11,co11,eo11⟩ := Kd.R_slice HO238.out;subst eo11) | (go_at_call 21;(with_reducible refine (api_Hold__c23.calls k (fun k_ => some k_ = (.slice Ao11 t236.length co11 : Value).ownBlock) (.slice Ao11 t236.length co11) t236 gb234 a1_0 a1_1 a1_2 a1_3 a1_4 a1_5 t239 w _ ?side1 ?side2 ?side3 ?side4 A6.out).mono ?_);(case side1 => repeat (first | (with_reducible first | exact HB.out | apply below_alloc | apply Y15 | apply below_drew1 | refine below_set ?_ GE234.out) | exact HB.out));(case side2 => exact Kd.R_tight rfl HO238.out);(case side3 => exact (Y6 BK234.out));(case side4 => exact fun hs_ => (fun e_ => (Kd.R_away HO238.out (fun _ hk => hk.2)) e_) hs_);rintro e w12 ⟨v240,rfl,ho0,hb,hkp⟩;have n0_ := Yd (blk_kept (Y6 BK234.out) hkp (fun hs_ => (fun e_ => (Kd.R_away HO238.out (fun _ hk => hk.2)) e_) hs_));have n1_ := Yd (Kd.R_mono (ok' := fun k_ => k_ ≠ gb234) ho0 (fun k_ hk_ => Or.elim hk_ (fun hs_ => fun e_ => (Kd.R_away HO238.out (fun _ hk => hk.2)) (by rw [← e_];exact hs_)) (fun hn_ => (Kd.freshB (g := gb234) (o := .cells #[.string a1_0,.int .i64 a1_1,.int .i64 a1_2,.int .i64 a1_3,.int .i64 a1_4,.int .i64 a1_5] 26 (0,0)) (Y6 BK234.out) k_ hn_))));have n2_ := Yd (hb);clear BK234;clear HB;clear HO238;have BK234 := n0_;have HO241 := n1_;have HB := n2_;clear n0_ n1_ n2_;(try clear hb);(try clear hkp);(try clear ho0))))
  (try simp only [Act.put,List.setIfInBounds_toArray,List.set_cons_zero,List.set_cons_succ])
  go_cut [8] (fun v8 wc => ∃ (kq : Nat) (x8_6 : Int),v8 = .int .i64 x8_6 ∧ Aside0 (override_Add.j1 kq t239 x8_6 a1_0 a1_1 a1_2 a1_3 a1_4 a1_5 = some (r1,r2)) ∧ Aside0 (kq ≤ k) ∧ Aside0 (Kd.R k26 26 wc w.heap.size (fun k_ => k_ ≠ gb234) v240 t239) ∧ Aside0 (wc.heap[gb234]? = some (.cells #[.string a1_0,.int .i64 a1_1,.int .i64 a1_2,.int .i64 a1_3,.int .i64 a1_4,.int .i64 a1_5] 26 (0,0))) ∧ Aside0 (Below w.heap.size w wc))
  case first =>
   have H := HC7.out
   clear HC7
   have H' := Yd H
   clear H
   go_wp2
   repeat (go_quiet (fail);try go_wp2)
   go_loopg [8] k (fun kq v8 w' => ∃ (x8_1 : Int),v8 = .int .i64 x8_1 ∧ Aside0 (override_Add.l0 kq t239 x8_1 a1_0 a1_1 a1_2 a1_3 a1_4 a1_5 = some (r1,r2)) ∧ Aside0 (kq ≤ k) ∧ Aside0 (Kd.R k26 26 w' w.heap.size (fun k_ => k_ ≠ gb234) v240 t239) ∧ Aside0 (w'.heap[gb234]? = some (.cells #[.string a1_0,.int .i64 a1_1,.int .i64 a1_2,.int .i64 a1_3,.int .i64 a1_4,.int .i64 a1_5] 26 (0,0))) ∧ Aside0 (Below w.heap.size w w'))
   case atStart => exact ⟨(0),Y12,H',⟨Nat.le_refl _⟩,⟨Y5 HO241.out⟩,⟨Y6 BK234.out⟩,⟨by repeat (first | (with_reducible first | exact HB.out | apply below_alloc | apply Y15 | apply below_drew1 | refine below_set ?_ GE234.out) | exact HB.out)⟩⟩
   case round =>
    clear H'
    try clear c2
    try clear p2
    try clear c4
    try clear c4b0
    try clear c4b1
    try clear c8
    obtain ⟨x8_1,rfl,HA,HK1,HO_7,BK234,HB⟩ := hrel
    cases gk with
    | zero => exact absurd HA.out (by simp [override_Add.l0])
    | succ k1 =>
     have H := HA.out
     clear HA
     simp only [override_Add.l0] at H
     by_cases c13 : x8_1 < (t239.length : Int)
     ·rw [if_pos c13] at H
      have c13b0 : decide (x8_1 < (t239.length : Int)) = true := decide_eq_true c13
      clear c13
      (first | rw [c13b0] | (simp only [i64_w,i32_w];rw [c13b0]) | skip)
      by_cases c14 : 0 ≤ x8_1
      case neg => rw [if_neg c14] at H;exact absurd H (by simp)
      rw [if_pos c14] at H
      have c14b0 : decide (0 ≤ x8_1) = true := decide_eq_true c14
      clear c14
      by_cases c15 : (Op.bytesLess (((rd_T26 t239 x8_1).f0).toList) a1_0.toList) = true
      ·rw [if_pos c15] at H
       have c15b0 : (Op.bytesLess (((rd_T26 t239 x8_1).f0).toList) a1_0.toList) = true := c15
       clear c15
       have H' := Yd H
       clear H
       obtain ⟨Ao16,co16,eo16⟩ := Kd.R_slice HO_7.out
       subst eo16
       have p242 : 0 ≤ (x8_1 : Int) := Y9
       have q242 : x8_1 < (t239.length : Int) := Y9
       obtain ⟨ad242,e242,hx242_0,hx242_1,hx242_2,hx242_3,hx242_4,hx242_5⟩ := at_T26 (Kd.R_reads' HO_7.out).2.2 x8_1 p242 q242
       cases e242
       replace p242 := eq_true p242
       replace q242 := eq_true q242
       have hcz17_0 : wr.cell? ⟨gb234,0,none⟩ = some (.string a1_0) := (blk_cell BK234.out 0).trans rfl
       have hcz17_1 : wr.cell? ⟨gb234,1,none⟩ = some (.int .i64 a1_1) := (blk_cell BK234.out 1).trans rfl
       have hcz17_2 : wr.cell? ⟨gb234,2,none⟩ = some (.int .i64 a1_2) := (blk_cell BK234.out 2).trans rfl
       have hcz17_3 : wr.cell? ⟨gb234,3,none⟩ = some (.int .i64 a1_3) := (blk_cell BK234.out 3).trans rfl
       have hcz17_4 : wr.cell? ⟨gb234,4,none⟩ = some (.int .i64 a1_4) := (blk_cell BK234.out 4).trans rfl
       have hcz17_5 : wr.cell? ⟨gb234,5,none⟩ = some (.int .i64 a1_5) := (blk_cell BK234.out 5).trans rfl
       have hfz17_0 := blk_frozen BK234.out 0
       have hfz17_1 := blk_frozen BK234.out 1
       have hfz17_2 := blk_frozen BK234.out 2
       have hfz17_3 := blk_frozen BK234.out 3
       have hfz17_4 := blk_frozen BK234.out 4
       have hfz17_5 := blk_frozen BK234.out 5
       go_wp2
       repeat (go_quiet (fail);try go_wp2)
       go_roundg k1
       case measure => have := HK1.out;omega
       case rel => exact ⟨(wrap64 (x8_1 + 1)),Y12,H',⟨by have := HK1.out;omega⟩,⟨Y5 HO_7.out⟩,⟨Y6 BK234.out⟩,⟨by repeat (first | (with_reducible first | exact HB.out | apply below_alloc | apply Y15 | apply below_drew1 | refine below_set ?_ GE234.out) | exact HB.out)⟩⟩
      ·rw [if_neg c15] at H
       have c15b0 : (Op.bytesLess (((rd_T26 t239 x8_1).f0).toList) a1_0.toList) = false := by simpa using c15
       clear c15
       have H' := Yd H
       clear H
       obtain ⟨Ao18,co18,eo18⟩ := Kd.R_slice HO_7.out
       subst eo18
       have p242 : 0 ≤ (x8_1 : Int) := Y9
       have q242 : x8_1 < (t239.length : Int) := Y9
       obtain ⟨ad242,e242,hx242_0,hx242_1,hx242_2,hx242_3,hx242_4,hx242_5⟩ := at_T26 (Kd.R_reads' HO_7.out).2.2 x8_1 p242 q242
       cases e242
       replace p242 := eq_true p242
       replace q242 := eq_true q242
       have hcz19_0 : wr.cell? ⟨gb234,0,none⟩ = some (.string a1_0) := (blk_cell BK234.out 0).trans rfl
       have hcz19_1 : wr.cell? ⟨gb234,1,none⟩ = some (.int .i64 a1_1) := (blk_cell BK234.out 1).trans rfl
       have hcz19_2 : wr.cell? ⟨gb234,2,none⟩ = some (.int .i64 a1_2) := (blk_cell BK234.out 2).trans rfl
       have hcz19_3 : wr.cell? ⟨gb234,3,none⟩ = some (.int .i64 a1_3) := (blk_cell BK234.out 3).trans rfl
       have hcz19_4 : wr.cell? ⟨gb234,4,none⟩ = some (.int .i64 a1_4) := (blk_cell BK234.out 4).trans rfl
       have hcz19_5 : wr.cell? ⟨gb234,5,none⟩ = some (.int .i64 a1_5) := (blk_cell BK234.out 5).trans rfl
       have hfz19_0 := blk_frozen BK234.out 0
       have hfz19_1 := blk_frozen BK234.out 1
       have hfz19_2 := blk_frozen BK234.out 2
       have hfz19_3 := blk_frozen BK234.out 3
       have hfz19_4 := blk_frozen BK234.out 4
       have hfz19_5 := blk_frozen BK234.out 5
       go_wp2
       repeat (go_quiet (fail);try go_wp2)
       go_meet
       case rel => exact ⟨_,(x8_1),Y12,H',⟨by have := HK1.out;first | omega | exact Nat.le_refl _⟩,⟨Y5 HO_7.out⟩,⟨Y6 BK234.out⟩,⟨by repeat (first | (with_reducible first | exact HB.out | apply below_alloc | apply Y15 | apply below_drew1 | refine below_set ?_ GE234.out) | exact HB.out)⟩⟩
     ·rw [if_neg c13] at H
      have c13b0 : decide (x8_1 < (t239.length : Int)) = false := decide_eq_false c13
      clear c13
      (first | rw [c13b0] | (simp only [i64_w,i32_w];rw [c13b0]) | skip)
      have H' := Yd H
      clear H
      obtain ⟨Ao20,co20,eo20⟩ := Kd.R_slice HO_7.out
      subst eo20
      go_wp2
      repeat (go_quiet (fail);try go_wp2)
      go_meet
      case rel => exact ⟨_,(x8_1),Y12,H',⟨by have := HK1.out;first | omega | exact Nat.le_refl _⟩,⟨Y5 HO_7.out⟩,⟨Y6 BK234.out⟩,⟨by repeat (first | (with_reducible first | exact HB.out | apply below_alloc | apply Y15 | apply below_drew1 | refine below_set ?_ GE234.out) | exact HB.out)⟩⟩
  case rest =>
   clear HC7
   try clear c1
   try clear c2
   try clear p2
   try clear q2
   try clear hx2
   try clear c4
   try clear c4b0
   try clear c4b1
   try clear p6
   try clear c8
   try clear c13
   try clear c13b0
   try clear c14
   try clear c14b0
   try clear c15
   try clear c15b0
   try clear hcz17_0
   try clear hcz17_1
   try clear hcz17_2
   try clear hcz17_3
   try clear hcz17_4
   try clear hcz17_5
   try clear hcz19_0
   try clear hcz19_1
   try clear hcz19_2
   try clear hcz19_3
   try clear hcz19_4
   try clear hcz19_5
   try clear hfz17_0
   try clear hfz17_1
   try clear hfz17_2
   try clear hfz17_3
   try clear hfz17_4
   try clear hfz17_5
   try clear hfz19_0
   try clear hfz19_1
   try clear hfz19_2
   try clear hfz19_3
   try clear hfz19_4
   try clear hfz19_5
   try clear hx242_0
   try clear hx242_1
   try clear hx242_2
   try clear hx242_3
   try clear hx242_4
   try clear hx242_5
   try clear p2
   try clear p242
   try clear q242
   obtain ⟨kq,x8_6,rfl,HA,HJ6,HO_7,BK234,HB⟩ := hcut
   cases kq with
   | zero => exact absurd HA.out (by simp [override_Add.j1])
   | succ kj6 =>
    have H := HA.out
    clear HA
    simp only [override_Add.j1] at H
    obtain ⟨y243,hy243⟩ : ∃ y_ : List (S26),y_ = (([(⟨a1_0,a1_1,a1_2,(⟨a1_3,a1_4⟩ : S24),a1_5⟩ : S26)] : List (S26))) := ⟨_,rfl⟩
    replace H : ((ins_Hold.f t239 x8_6 y243).bind fun t246 => ((override_Check.f kj6 t246).bind fun t249 => (if t249 = 0 then (some (t246,0)) else (some (([] : List (S26)),t249))))) = some (r1,r2) := by first | (rw [hy243];with_reducible exact H) | (have H2_ := (Option.bind_some _ _).symm.trans H;rw [hy243];with_reducible exact H2_) | (have H2_ := (Option.bind_some _ _).symm.trans H;with_reducible exact H2_) | with_reducible exact H | (rw [hy243];exact H) | exact H
    have Ny243 := Yd hy243
    clear hy243
    replace H := Option.bind_eq_some_iff.mp H
    obtain ⟨t246,A210,H⟩ := H
    replace H : ((override_Check.f kj6 t246).bind fun t249 => (if t249 = 0 then (some (t246,0)) else (some (([] : List (S26)),t249)))) = some (r1,r2) := H
    have A21 := Yd A210
    clear A210
    replace H := Option.bind_eq_some_iff.mp H
    obtain ⟨t249,A220,H⟩ := H
    replace H : (if t249 = 0 then (some (t246,0)) else (some (([] : List (S26)),t249))) = some (r1,r2) := H
    have A22 := Yd A220
    clear A220
    by_cases c23 : t249 = 0
    ·rw [if_pos c23] at H
     have c23b0 : (t249 == 0) = true := beq_iff_eq.mpr c23
     have c23b1 : (t249 != 0) = false := bne_eq_false_iff_eq.mpr c23
     clear c23
     simp only [Option.some.injEq,Prod.mk.injEq] at H
     obtain ⟨rfl,rfl⟩ := H
     have hcz24_0 : wc.cell? ⟨gb234,0,none⟩ = some (.string a1_0) := (blk_cell BK234.out 0).trans rfl
     have hcz24_1 : wc.cell? ⟨gb234,1,none⟩ = some (.int .i64 a1_1) := (blk_cell BK234.out 1).trans rfl
     have hcz24_2 : wc.cell? ⟨gb234,2,none⟩ = some (.int .i64 a1_2) := (blk_cell BK234.out 2).trans rfl
     have hcz24_3 : wc.cell? ⟨gb234,3,none⟩ = some (.int .i64 a1_3) := (blk_cell BK234.out 3).trans rfl
     have hcz24_4 : wc.cell? ⟨gb234,4,none⟩ = some (.int .i64 a1_4) := (blk_cell BK234.out 4).trans rfl
     have hcz24_5 : wc.cell? ⟨gb234,5,none⟩ = some (.int .i64 a1_5) := (blk_cell BK234.out 5).trans rfl
     have hfz24_0 := blk_frozen BK234.out 0
     have hfz24_1 := blk_frozen BK234.out 1
     have hfz24_2 := blk_frozen BK234.out 2
     have hfz24_3 := blk_frozen BK234.out 3
     have hfz24_4 := blk_frozen BK234.out 4
     have hfz24_5 := blk_frozen BK234.out 5
     go_wp2_with (first | ((with_reducible refine gate_dst (N := 38) rfl ?_);refine Kd.R_lit k26 _ 26 ?hg (N := 38) ?hd (xs := ([(⟨a1_0,a1_1,a1_2,(⟨a1_3,a1_4⟩ : S24),a1_5⟩ : S26)] : List (S26))) (inner := [.string a1_0,.int .i64 a1_1,.int .i64 a1_2,.int .i64 a1_3,.int .i64 a1_4,.int .i64 a1_5]) (ok := fun _ => True) (okp := fun _ => True) ?hr ?hp (fun _ hk => hk) trivial (Below.refl _ _) (Nat.le_refl _) (by simp) ?_;(case hd => rfl);(case hg => rfl);(case hr => first | (go_simp;done) | (go_simp;rfl));(case hp => exact (Reps.c6 (show Kd.M k26 _ _ _ (⟨a1_0,a1_1,a1_2,(⟨a1_3,a1_4⟩ : S24),a1_5⟩ : S26) [.string a1_0,.int .i64 a1_1,.int .i64 a1_2,.int .i64 a1_3,.int .i64 a1_4,.int .i64 a1_5] from (k26_mkM _ _ _ (⟨a1_0,a1_1,a1_2,(⟨a1_3,a1_4⟩ : S24),a1_5⟩ : S26) )) (Reps.none _ _)));intro v244 w25 ho26 hb hg_ hnew_;clear hg_ hnew_;(first | rw [← Ny243.out] at ho26 | (simp only [Int.reduceToNat] at ho26;rw [← Ny243.out] at ho26));have n0_ := Yd (Kd.R_elder' (Y5 HO_7.out) (Kd.R_base ho26) hb);have n1_ := Yd (Kd.R_lower (Kd.R_newB (Kd.R_new' ho26 (Kd.R_lt (Y5 HO_7.out))) (g := gb234) (o := .cells #[.string a1_0,.int .i64 a1_1,.int .i64 a1_2,.int .i64 a1_3,.int .i64 a1_4,.int .i64 a1_5] 26 (0,0)) (Y6 BK234.out)) (below_size (by first | exact Y4 HB.out GE234.out | exact Y3 HB.out)));have n2_ := Yd (blk_below (g := gb234) (o := .cells #[.string a1_0,.int .i64 a1_1,.int .i64 a1_2,.int .i64 a1_3,.int .i64 a1_4,.int .i64 a1_5] 26 (0,0)) (Y6 BK234.out) hb);have n3_ := Yd (below_step (by first | exact Y4 HB.out GE234.out | exact Y3 HB.out) hb);clear HO_7;clear BK234;clear HB;have HO_7 := n0_;have HO245 := n1_;have BK234 := n2_;have HB := n3_;clear n0_ n1_ n2_ n3_;clear hb ho26;obtain ⟨Ao27,co27,eo27⟩ := Kd.R_slice HO_7.out;subst eo27;obtain ⟨Ao28,co28,eo28⟩ := Kd.R_slice HO245.out;subst eo28) | (go_at_call 24;(with_reducible refine (ins_Hold.calls (fun k_ => some k_ = (.slice Ao27 t239.length co27 : Value).ownBlock) (.slice Ao27 t239.length co27) t239 x8_6 (fun k_ => some k_ = (.slice Ao28 y243.length co28 : Value).ownBlock) (.slice Ao28 y243.length co28) y243 t246 w _ ?side1 ?side2 ?side3 ?side4 ?side5 A21.out).mono ?_);(case side1 => repeat (first | (with_reducible first | exact HB.out | apply below_alloc | apply Y15 | apply below_drew1 | refine below_set ?_ GE234.out) | exact HB.out));(case side2 => exact Kd.R_tight rfl HO_7.out);(case side3 => exact fun k_ e_ => (HO_7.out.1 k_ e_.symm).2);(case side4 => exact Kd.R_tight rfl HO245.out);(case side5 => exact fun k_ e_ => (HO245.out.1 k_ e_.symm).1.2);rintro e w29 ⟨v247,rfl,ho0,hb,hkp⟩;have n0_ := Yd (blk_kept (Y6 BK234.out) hkp (fun hs_ => Or.elim hs_ (fun e_ => (fun e_ => (Kd.R_away HO_7.out (fun _ hk => hk.1)) e_) e_) (fun e_ => (fun e_ => (Kd.R_away HO245.out (fun _ hk => hk.2)) e_) e_)));have n1_ := Yd (Kd.R_mono (ok' := fun k_ => k_ ≠ gb234) ho0 (fun k_ hk_ => Or.elim hk_ (fun hs_ => Or.elim hs_ (fun hs_ => fun e_ => (Kd.R_away HO_7.out (fun _ hk => hk.1)) (by rw [← e_];exact hs_)) (fun hs_ => fun e_ => (Kd.R_away HO245.out (fun _ hk => hk.2)) (by rw [← e_];exact hs_))) (fun hn_ => (Kd.freshB (g := gb234) (o := .cells #[.string a1_0,.int .i64 a1_1,.int .i64 a1_2,.int .i64 a1_3,.int .i64 a1_4,.int .i64 a1_5] 26 (0,0)) (Y6 BK234.out) k_ hn_))));have n2_ := Yd (hb);clear BK234;clear HB;clear HO245;clear HO_7;have BK234 := n0_;have HO248 := n1_;have HB := n2_;clear n0_ n1_ n2_;(try clear hb);(try clear hkp);(try clear ho0);obtain ⟨Ao30,co30,eo30⟩ := Kd.R_slice HO248.out;subst eo30) | (go_at_call 16;(with_reducible refine (override_Check.calls kj6 _ _ t246 t249 _ ?side1 ?side2 A22.out).mono ?_);(case side1 => repeat (first | exact (Kd.R_reads' HO248.out).2.2 | (with_reducible refine Kd.C_alloc ?_ _) | (with_reducible refine Kd.C_drewN ?_ _) | (with_reducible refine Kd.C_drew ?_)));(case side2 => exact (Kd.R_reads' HO248.out).2.1);rintro e w31 ⟨rfl,hb⟩;have n0_ := Yd (Kd.R_below (Y5 HO248.out) hb);have n1_ := Yd (blk_below (g := gb234) (o := .cells #[.string a1_0,.int .i64 a1_1,.int .i64 a1_2,.int .i64 a1_3,.int .i64 a1_4,.int .i64 a1_5] 26 (0,0)) (Y6 BK234.out) hb);have n2_ := Yd (below_step (by first | exact Y4 HB.out GE234.out | exact Y3 HB.out) hb);clear HO248;clear BK234;clear HB;have HO248 := n0_;have BK234 := n1_;have HB := n2_;clear n0_ n1_ n2_;(try clear hb);(try clear hb2);(try clear hk);(try clear hi)))
     repeat (go_quiet (first | ((with_reducible refine gate_dst (N := 38) rfl ?_);refine Kd.R_lit k26 _ 26 ?hg (N := 38) ?hd (xs := ([(⟨a1_0,a1_1,a1_2,(⟨a1_3,a1_4⟩ : S24),a1_5⟩ : S26)] : List (S26))) (inner := [.string a1_0,.int .i64 a1_1,.int .i64 a1_2,.int .i64 a1_3,.int .i64 a1_4,.int .i64 a1_5]) (ok := fun _ => True) (okp := fun _ => True) ?hr ?hp (fun _ hk => hk) trivial (Below.refl _ _) (Nat.le_refl _) (by simp) ?_;(case hd => rfl);(case hg => rfl);(case hr => first | (go_simp;done) | (go_simp;rfl));(case hp => exact (Reps.c6 (show Kd.M k26 _ _ _ (⟨a1_0,a1_1,a1_2,(⟨a1_3,a1_4⟩ : S24),a1_5⟩ : S26) [.string a1_0,.int .i64 a1_1,.int .i64 a1_2,.int .i64 a1_3,.int .i64 a1_4,.int .i64 a1_5] from (k26_mkM _ _ _ (⟨a1_0,a1_1,a1_2,(⟨a1_3,a1_4⟩ : S24),a1_5⟩ : S26) )) (Reps.none _ _)));intro v244 w25 ho26 hb hg_ hnew_;clear hg_ hnew_;(first | rw [← Ny243.out] at ho26 | (simp only [Int.reduceToNat] at ho26;rw [← Ny243.out] at ho26));have n0_ := Yd (Kd.R_elder' (Y5 HO_7.out) (Kd.R_base ho26) hb);have n1_ := Yd (Kd.R_lower (Kd.R_newB (Kd.R_new' ho26 (Kd.R_lt (Y5 HO_7.out))) (g := gb234) (o := .cells #[.string a1_0,.int .i64 a1_1,.int .i64 a1_2,.int .i64 a1_3,.int .i64 a1_4,.int .i64 a1_5] 26 (0,0)) (Y6 BK234.out)) (below_size (by first | exact Y4 HB.out GE234.out | exact Y3 HB.out)));have n2_ := Yd (blk_below (g := gb234) (o := .cells #[.string a1_0,.int .i64 a1_1,.int .i64 a1_2,.int .i64 a1_3,.int .i64 a1_4,.int .i64 a1_5] 26 (0,0)) (Y6 BK234.out) hb);have n3_ := Yd (below_step (by first | exact Y4 HB.out GE234.out | exact Y3 HB.out) hb);clear HO_7;clear BK234;clear HB;have HO_7 := n0_;have HO245 := n1_;have BK234 := n2_;have HB := n3_;clear n0_ n1_ n2_ n3_;clear hb ho26;obtain ⟨Ao27,co27,eo27⟩ := Kd.R_slice HO_7.out;subst eo27;obtain ⟨Ao28,co28,eo28⟩ := Kd.R_slice HO245.out;subst eo28) | (go_at_call 24;(with_reducible refine (ins_Hold.calls (fun k_ => some k_ = (.slice Ao27 t239.length co27 : Value).ownBlock) (.slice Ao27 t239.length co27) t239 x8_6 (fun k_ => some k_ = (.slice Ao28 y243.length co28 : Value).ownBlock) (.slice Ao28 y243.length co28) y243 t246 w _ ?side1 ?side2 ?side3 ?side4 ?side5 A21.out).mono ?_);(case side1 => repeat (first | (with_reducible first | exact HB.out | apply below_alloc | apply Y15 | apply below_drew1 | refine below_set ?_ GE234.out) | exact HB.out));(case side2 => exact Kd.R_tight rfl HO_7.out);(case side3 => exact fun k_ e_ => (HO_7.out.1 k_ e_.symm).2);(case side4 => exact Kd.R_tight rfl HO245.out);(case side5 => exact fun k_ e_ => (HO245.out.1 k_ e_.symm).1.2);rintro e w29 ⟨v247,rfl,ho0,hb,hkp⟩;have n0_ := Yd (blk_kept (Y6 BK234.out) hkp (fun hs_ => Or.elim hs_ (fun e_ => (fun e_ => (Kd.R_away HO_7.out (fun _ hk => hk.1)) e_) e_) (fun e_ => (fun e_ => (Kd.R_away HO245.out (fun _ hk => hk.2)) e_) e_)));have n1_ := Yd (Kd.R_mono (ok' := fun k_ => k_ ≠ gb234) ho0 (fun k_ hk_ => Or.elim hk_ (fun hs_ => Or.elim hs_ (fun hs_ => fun e_ => (Kd.R_away HO_7.out (fun _ hk => hk.1)) (by rw [← e_];exact hs_)) (fun hs_ => fun e_ => (Kd.R_away HO245.out (fun _ hk => hk.2)) (by rw [← e_];exact hs_))) (fun hn_ => (Kd.freshB (g := gb234) (o := .cells #[.string a1_0,.int .i64 a1_1,.int .i64 a1_2,.int .i64 a1_3,.int .i64 a1_4,.int .i64 a1_5] 26 (0,0)) (Y6 BK234.out) k_ hn_))));have n2_ := Yd (hb);clear BK234;clear HB;clear HO245;clear HO_7;have BK234 := n0_;have HO248 := n1_;have HB := n2_;clear n0_ n1_ n2_;(try clear hb);(try clear hkp);(try clear ho0);obtain ⟨Ao30,co30,eo30⟩ := Kd.R_slice HO248.out;subst eo30) | (go_at_call 16;(with_reducible refine (override_Check.calls kj6 _ _ t246 t249 _ ?side1 ?side2 A22.out).mono ?_);(case side1 => repeat (first | exact (Kd.R_reads' HO248.out).2.2 | (with_reducible refine Kd.C_alloc ?_ _) | (with_reducible refine Kd.C_drewN ?_ _) | (with_reducible refine Kd.C_drew ?_)));(case side2 => exact (Kd.R_reads' HO248.out).2.1);rintro e w31 ⟨rfl,hb⟩;have n0_ := Yd (Kd.R_below (Y5 HO248.out) hb);have n1_ := Yd (blk_below (g := gb234) (o := .cells #[.string a1_0,.int .i64 a1_1,.int .i64 a1_2,.int .i64 a1_3,.int .i64 a1_4,.int .i64 a1_5] 26 (0,0)) (Y6 BK234.out) hb);have n2_ := Yd (below_step (by first | exact Y4 HB.out GE234.out | exact Y3 HB.out) hb);clear HO248;clear BK234;clear HB;have HO248 := n0_;have BK234 := n1_;have HB := n2_;clear n0_ n1_ n2_;(try clear hb);(try clear hb2);(try clear hk);(try clear hi)));try go_wp2_with (first | ((with_reducible refine gate_dst (N := 38) rfl ?_);refine Kd.R_lit k26 _ 26 ?hg (N := 38) ?hd (xs := ([(⟨a1_0,a1_1,a1_2,(⟨a1_3,a1_4⟩ : S24),a1_5⟩ : S26)] : List (S26))) (inner := [.string a1_0,.int .i64 a1_1,.int .i64 a1_2,.int .i64 a1_3,.int .i64 a1_4,.int .i64 a1_5]) (ok := fun _ => True) (okp := fun _ => True) ?hr ?hp (fun _ hk => hk) trivial (Below.refl _ _) (Nat.le_refl _) (by simp) ?_;(case hd => rfl);(case hg => rfl);(case hr => first | (go_simp;done) | (go_simp;rfl));(case hp => exact (Reps.c6 (show Kd.M k26 _ _ _ (⟨a1_0,a1_1,a1_2,(⟨a1_3,a1_4⟩ : S24),a1_5⟩ : S26) [.string a1_0,.int .i64 a1_1,.int .i64 a1_2,.int .i64 a1_3,.int .i64 a1_4,.int .i64 a1_5] from (k26_mkM _ _ _ (⟨a1_0,a1_1,a1_2,(⟨a1_3,a1_4⟩ : S24),a1_5⟩ : S26) )) (Reps.none _ _)));intro v244 w25 ho26 hb hg_ hnew_;clear hg_ hnew_;(first | rw [← Ny243.out] at ho26 | (simp only [Int.reduceToNat] at ho26;rw [← Ny243.out] at ho26));have n0_ := Yd (Kd.R_elder' (Y5 HO_7.out) (Kd.R_base ho26) hb);have n1_ := Yd (Kd.R_lower (Kd.R_newB (Kd.R_new' ho26 (Kd.R_lt (Y5 HO_7.out))) (g := gb234) (o := .cells #[.string a1_0,.int .i64 a1_1,.int .i64 a1_2,.int .i64 a1_3,.int .i64 a1_4,.int .i64 a1_5] 26 (0,0)) (Y6 BK234.out)) (below_size (by first | exact Y4 HB.out GE234.out | exact Y3 HB.out)));have n2_ := Yd (blk_below (g := gb234) (o := .cells #[.string a1_0,.int .i64 a1_1,.int .i64 a1_2,.int .i64 a1_3,.int .i64 a1_4,.int .i64 a1_5] 26 (0,0)) (Y6 BK234.out) hb);have n3_ := Yd (below_step (by first | exact Y4 HB.out GE234.out | exact Y3 HB.out) hb);clear HO_7;clear BK234;clear HB;have HO_7 := n0_;have HO245 := n1_;have BK234 := n2_;have HB := n3_;clear n0_ n1_ n2_ n3_;clear hb ho26;obtain ⟨Ao27,co27,eo27⟩ := Kd.R_slice HO_7.out;subst eo27;obtain ⟨Ao28,co28,eo28⟩ := Kd.R_slice HO245.out;subst eo28) | (go_at_call 24;(with_reducible refine (ins_Hold.calls (fun k_ => some k_ = (.slice Ao27 t239.length co27 : Value).ownBlock) (.slice Ao27 t239.length co27) t239 x8_6 (fun k_ => some k_ = (.slice Ao28 y243.length co28 : Value).ownBlock) (.slice Ao28 y243.length co28) y243 t246 w _ ?side1 ?side2 ?side3 ?side4 ?side5 A21.out).mono ?_);(case side1 => repeat (first | (with_reducible first | exact HB.out | apply below_alloc | apply Y15 | apply below_drew1 | refine below_set ?_ GE234.out) | exact HB.out));(case side2 => exact Kd.R_tight rfl HO_7.out);(case side3 => exact fun k_ e_ => (HO_7.out.1 k_ e_.symm).2);(case side4 => exact Kd.R_tight rfl HO245.out);(case side5 => exact fun k_ e_ => (HO245.out.1 k_ e_.symm).1.2);rintro e w29 ⟨v247,rfl,ho0,hb,hkp⟩;have n0_ := Yd (blk_kept (Y6 BK234.out) hkp (fun hs_ => Or.elim hs_ (fun e_ => (fun e_ => (Kd.R_away HO_7.out (fun _ hk => hk.1)) e_) e_) (fun e_ => (fun e_ => (Kd.R_away HO245.out (fun _ hk => hk.2)) e_) e_)));have n1_ := Yd (Kd.R_mono (ok' := fun k_ => k_ ≠ gb234) ho0 (fun k_ hk_ => Or.elim hk_ (fun hs_ => Or.elim hs_ (fun hs_ => fun e_ => (Kd.R_away HO_7.out (fun _ hk => hk.1)) (by rw [← e_];exact hs_)) (fun hs_ => fun e_ => (Kd.R_away HO245.out (fun _ hk => hk.2)) (by rw [← e_];exact hs_))) (fun hn_ => (Kd.freshB (g := gb234) (o := .cells #[.string a1_0,.int .i64 a1_1,.int .i64 a1_2,.int .i64 a1_3,.int .i64 a1_4,.int .i64 a1_5] 26 (0,0)) (Y6 BK234.out) k_ hn_))));have n2_ := Yd (hb);clear BK234;clear HB;clear HO245;clear HO_7;have BK234 := n0_;have HO248 := n1_;have HB := n2_;clear n0_ n1_ n2_;(try clear hb);(try clear hkp);(try clear ho0);obtain ⟨Ao30,co30,eo30⟩ := Kd.R_slice HO248.out;subst eo30) | (go_at_call 16;(with_reducible refine (override_Check.calls kj6 _ _ t246 t249 _ ?side1 ?side2 A22.out).mono ?_);(case side1 => repeat (first | exact (Kd.R_reads' HO248.out).2.2 | (with_reducible refine Kd.C_alloc ?_ _) | (with_reducible refine Kd.C_drewN ?_ _) | (with_reducible refine Kd.C_drew ?_)));(case side2 => exact (Kd.R_reads' HO248.out).2.1);rintro e w31 ⟨rfl,hb⟩;have n0_ := Yd (Kd.R_below (Y5 HO248.out) hb);have n1_ := Yd (blk_below (g := gb234) (o := .cells #[.string a1_0,.int .i64 a1_1,.int .i64 a1_2,.int .i64 a1_3,.int .i64 a1_4,.int .i64 a1_5] 26 (0,0)) (Y6 BK234.out) hb);have n2_ := Yd (below_step (by first | exact Y4 HB.out GE234.out | exact Y3 HB.out) hb);clear HO248;clear BK234;clear HB;have HO248 := n0_;have BK234 := n1_;have HB := n2_;clear n0_ n1_ n2_;(try clear hb);(try clear hb2);(try clear hk);(try clear hi))))
     go_ret2
     exact ⟨_,by first | rfl | (simp [errW_none,errW_some] <;> rfl) | (simp [*,errW_none,errW_some] <;> rfl),by (with_reducible repeat (first | apply Kd.R_alloc | apply Kd.R_drewN | apply Kd.R_drew));exact Kd.R_mono HO248.out (fun _ hk => trivial),by repeat (first | (with_reducible first | exact HB.out | apply below_alloc | apply Y15 | apply below_drew1 | refine below_set ?_ GE234.out) | exact HB.out)⟩
    ·rw [if_neg c23] at H
     have c23b0 : (t249 == 0) = false := beq_eq_false_iff_ne.mpr c23
     have c23b1 : (t249 != 0) = true := bne_iff_ne.mpr c23
     simp only [Option.some.injEq,Prod.mk.injEq] at H
     obtain ⟨rfl,rfl⟩ := H
     have hcz32_0 : wc.cell? ⟨gb234,0,none⟩ = some (.string a1_0) := (blk_cell BK234.out 0).trans rfl
     have hcz32_1 : wc.cell? ⟨gb234,1,none⟩ = some (.int .i64 a1_1) := (blk_cell BK234.out 1).trans rfl
     have hcz32_2 : wc.cell? ⟨gb234,2,none⟩ = some (.int .i64 a1_2) := (blk_cell BK234.out 2).trans rfl
     have hcz32_3 : wc.cell? ⟨gb234,3,none⟩ = some (.int .i64 a1_3) := (blk_cell BK234.out 3).trans rfl
     have hcz32_4 : wc.cell? ⟨gb234,4,none⟩ = some (.int .i64 a1_4) := (blk_cell BK234.out 4).trans rfl
     have hcz32_5 : wc.cell? ⟨gb234,5,none⟩ = some (.int .i64 a1_5) := (blk_cell BK234.out 5).trans rfl
     have hfz32_0 := blk_frozen BK234.out 0
     have hfz32_1 := blk_frozen BK234.out 1
     have hfz32_2 := blk_frozen BK234.out 2
     have hfz32_3 := blk_frozen BK234.out 3
     have hfz32_4 := blk_frozen BK234.out 4
     have hfz32_5 := blk_frozen BK234.out 5
     go_wp2_with (first | ((with_reducible refine gate_dst (N := 38) rfl ?_);refine Kd.R_lit k26 _ 26 ?hg (N := 38) ?hd (xs := ([(⟨a1_0,a1_1,a1_2,(⟨a1_3,a1_4⟩ : S24),a1_5⟩ : S26)] : List (S26))) (inner := [.string a1_0,.int .i64 a1_1,.int .i64 a1_2,.int .i64 a1_3,.int .i64 a1_4,.int .i64 a1_5]) (ok := fun _ => True) (okp := fun _ => True) ?hr ?hp (fun _ hk => hk) trivial (Below.refl _ _) (Nat.le_refl _) (by simp) ?_;(case hd => rfl);(case hg => rfl);(case hr => first | (go_simp;done) | (go_simp;rfl));(case hp => exact (Reps.c6 (show Kd.M k26 _ _ _ (⟨a1_0,a1_1,a1_2,(⟨a1_3,a1_4⟩ : S24),a1_5⟩ : S26) [.string a1_0,.int .i64 a1_1,.int .i64 a1_2,.int .i64 a1_3,.int .i64 a1_4,.int .i64 a1_5] from (k26_mkM _ _ _ (⟨a1_0,a1_1,a1_2,(⟨a1_3,a1_4⟩ : S24),a1_5⟩ : S26) )) (Reps.none _ _)));intro v244 w33 ho34 hb hg_ hnew_;clear hg_ hnew_;(first | rw [← Ny243.out] at ho34 | (simp only [Int.reduceToNat] at ho34;rw [← Ny243.out] at ho34));have n0_ := Yd (Kd.R_elder' (Y5 HO_7.out) (Kd.R_base ho34) hb);have n1_ := Yd (Kd.R_lower (Kd.R_newB (Kd.R_new' ho34 (Kd.R_lt (Y5 HO_7.out))) (g := gb234) (o := .cells #[.string a1_0,.int .i64 a1_1,.int .i64 a1_2,.int .i64 a1_3,.int .i64 a1_4,.int .i64 a1_5] 26 (0,0)) (Y6 BK234.out)) (below_size (by first | exact Y4 HB.out GE234.out | exact Y3 HB.out)));have n2_ := Yd (blk_below (g := gb234) (o := .cells #[.string a1_0,.int .i64 a1_1,.int .i64 a1_2,.int .i64 a1_3,.int .i64 a1_4,.int .i64 a1_5] 26 (0,0)) (Y6 BK234.out) hb);have n3_ := Yd (below_step (by first | exact Y4 HB.out GE234.out | exact Y3 HB.out) hb);clear HO_7;clear BK234;clear HB;have HO_7 := n0_;have HO245 := n1_;have BK234 := n2_;have HB := n3_;clear n0_ n1_ n2_ n3_;clear hb ho34;obtain ⟨Ao35,co35,eo35⟩ := Kd.R_slice HO_7.out;subst eo35;obtain ⟨Ao36,co36,eo36⟩ := Kd.R_slice HO245.out;subst eo36) | (go_at_call 24;(with_reducible refine (ins_Hold.calls (fun k_ => some k_ = (.slice Ao35 t239.length co35 : Value).ownBlock) (.slice Ao35 t239.length co35) t239 x8_6 (fun k_ => some k_ = (.slice Ao36 y243.length co36 : Value).ownBlock) (.slice Ao36 y243.length co36) y243 t246 w _ ?side1 ?side2 ?side3 ?side4 ?side5 A21.out).mono ?_);(case side1 => repeat (first | (with_reducible first | exact HB.out | apply below_alloc | apply Y15 | apply below_drew1 | refine below_set ?_ GE234.out) | exact HB.out));(case side2 => exact Kd.R_tight rfl HO_7.out);(case side3 => exact fun k_ e_ => (HO_7.out.1 k_ e_.symm).2);(case side4 => exact Kd.R_tight rfl HO245.out);(case side5 => exact fun k_ e_ => (HO245.out.1 k_ e_.symm).1.2);rintro e w37 ⟨v247,rfl,ho0,hb,hkp⟩;have n0_ := Yd (blk_kept (Y6 BK234.out) hkp (fun hs_ => Or.elim hs_ (fun e_ => (fun e_ => (Kd.R_away HO_7.out (fun _ hk => hk.1)) e_) e_) (fun e_ => (fun e_ => (Kd.R_away HO245.out (fun _ hk => hk.2)) e_) e_)));have n1_ := Yd (Kd.R_mono (ok' := fun k_ => k_ ≠ gb234) ho0 (fun k_ hk_ => Or.elim hk_ (fun hs_ => Or.elim hs_ (fun hs_ => fun e_ => (Kd.R_away HO_7.out (fun _ hk => hk.1)) (by rw [← e_];exact hs_)) (fun hs_ => fun e_ => (Kd.R_away HO245.out (fun _ hk => hk.2)) (by rw [← e_];exact hs_))) (fun hn_ => (Kd.freshB (g := gb234) (o := .cells #[.string a1_0,.int .i64 a1_1,.int .i64 a1_2,.int .i64 a1_3,.int .i64 a1_4,.int .i64 a1_5] 26 (0,0)) (Y6 BK234.out) k_ hn_))));have n2_ := Yd (hb);clear BK234;clear HB;clear HO245;clear HO_7;have BK234 := n0_;have HO248 := n1_;have HB := n2_;clear n0_ n1_ n2_;(try clear hb);(try clear hkp);(try clear ho0);obtain ⟨Ao38,co38,eo38⟩ := Kd.R_slice HO248.out;subst eo38) | (go_at_call 16;(with_reducible refine (override_Check.calls kj6 _ _ t246 t249 _ ?side1 ?side2 A22.out).mono ?_);(case side1 => repeat (first | exact (Kd.R_reads' HO248.out).2.2 | (with_reducible refine Kd.C_alloc ?_ _) | (with_reducible refine Kd.C_drewN ?_ _) | (with_reducible refine Kd.C_drew ?_)));(case side2 => exact (Kd.R_reads' HO248.out).2.1);rintro e w39 ⟨rfl,hb⟩;have n0_ := Yd (Kd.R_below (Y5 HO248.out) hb);have n1_ := Yd (blk_below (g := gb234) (o := .cells #[.string a1_0,.int .i64 a1_1,.int .i64 a1_2,.int .i64 a1_3,.int .i64 a1_4,.int .i64 a1_5] 26 (0,0)) (Y6 BK234.out) hb);have n2_ := Yd (below_step (by first | exact Y4 HB.out GE234.out | exact Y3 HB.out) hb);clear HO248;clear BK234;clear HB;have HO248 := n0_;have BK234 := n1_;have HB := n2_;clear n0_ n1_ n2_;(try clear hb);(try clear hb2);(try clear hk);(try clear hi)))
     repeat (go_quiet (first | ((with_reducible refine gate_dst (N := 38) rfl ?_);refine Kd.R_lit k26 _ 26 ?hg (N := 38) ?hd (xs := ([(⟨a1_0,a1_1,a1_2,(⟨a1_3,a1_4⟩ : S24),a1_5⟩ : S26)] : List (S26))) (inner := [.string a1_0,.int .i64 a1_1,.int .i64 a1_2,.int .i64 a1_3,.int .i64 a1_4,.int .i64 a1_5]) (ok := fun _ => True) (okp := fun _ => True) ?hr ?hp (fun _ hk => hk) trivial (Below.refl _ _) (Nat.le_refl _) (by simp) ?_;(case hd => rfl);(case hg => rfl);(case hr => first | (go_simp;done) | (go_simp;rfl));(case hp => exact (Reps.c6 (show Kd.M k26 _ _ _ (⟨a1_0,a1_1,a1_2,(⟨a1_3,a1_4⟩ : S24),a1_5⟩ : S26) [.string a1_0,.int .i64 a1_1,.int .i64 a1_2,.int .i64 a1_3,.int .i64 a1_4,.int .i64 a1_5] from (k26_mkM _ _ _ (⟨a1_0,a1_1,a1_2,(⟨a1_3,a1_4⟩ : S24),a1_5⟩ : S26) )) (Reps.none _ _)));intro v244 w33 ho34 hb hg_ hnew_;clear hg_ hnew_;(first | rw [← Ny243.out] at ho34 | (simp only [Int.reduceToNat] at ho34;rw [← Ny243.out] at ho34));have n0_ := Yd (Kd.R_elder' (Y5 HO_7.out) (Kd.R_base ho34) hb);have n1_ := Yd (Kd.R_lower (Kd.R_newB (Kd.R_new' ho34 (Kd.R_lt (Y5 HO_7.out))) (g := gb234) (o := .cells #[.string a1_0,.int .i64 a1_1,.int .i64 a1_2,.int .i64 a1_3,.int .i64 a1_4,.int .i64 a1_5] 26 (0,0)) (Y6 BK234.out)) (below_size (by first | exact Y4 HB.out GE234.out | exact Y3 HB.out)));have n2_ := Yd (blk_below (g := gb234) (o := .cells #[.string a1_0,.int .i64 a1_1,.int .i64 a1_2,.int .i64 a1_3,.int .i64 a1_4,.int .i64 a1_5] 26 (0,0)) (Y6 BK234.out) hb);have n3_ := Yd (below_step (by first | exact Y4 HB.out GE234.out | exact Y3 HB.out) hb);clear HO_7;clear BK234;clear HB;have HO_7 := n0_;have HO245 := n1_;have BK234 := n2_;have HB := n3_;clear n0_ n1_ n2_ n3_;clear hb ho34;obtain ⟨Ao35,co35,eo35⟩ := Kd.R_slice HO_7.out;subst eo35;obtain ⟨Ao36,co36,eo36⟩ := Kd.R_slice HO245.out;subst eo36) | (go_at_call 24;(with_reducible refine (ins_Hold.calls (fun k_ => some k_ = (.slice Ao35 t239.length co35 : Value).ownBlock) (.slice Ao35 t239.length co35) t239 x8_6 (fun k_ => some k_ = (.slice Ao36 y243.length co36 : Value).ownBlock) (.slice Ao36 y243.length co36) y243 t246 w _ ?side1 ?side2 ?side3 ?side4 ?side5 A21.out).mono ?_);(case side1 => repeat (first | (with_reducible first | exact HB.out | apply below_alloc | apply Y15 | apply below_drew1 | refine below_set ?_ GE234.out) | exact HB.out));(case side2 => exact Kd.R_tight rfl HO_7.out);(case side3 => exact fun k_ e_ => (HO_7.out.1 k_ e_.symm).2);(case side4 => exact Kd.R_tight rfl HO245.out);(case side5 => exact fun k_ e_ => (HO245.out.1 k_ e_.symm).1.2);rintro e w37 ⟨v247,rfl,ho0,hb,hkp⟩;have n0_ := Yd (blk_kept (Y6 BK234.out) hkp (fun hs_ => Or.elim hs_ (fun e_ => (fun e_ => (Kd.R_away HO_7.out (fun _ hk => hk.1)) e_) e_) (fun e_ => (fun e_ => (Kd.R_away HO245.out (fun _ hk => hk.2)) e_) e_)));have n1_ := Yd (Kd.R_mono (ok' := fun k_ => k_ ≠ gb234) ho0 (fun k_ hk_ => Or.elim hk_ (fun hs_ => Or.elim hs_ (fun hs_ => fun e_ => (Kd.R_away HO_7.out (fun _ hk => hk.1)) (by rw [← e_];exact hs_)) (fun hs_ => fun e_ => (Kd.R_away HO245.out (fun _ hk => hk.2)) (by rw [← e_];exact hs_))) (fun hn_ => (Kd.freshB (g := gb234) (o := .cells #[.string a1_0,.int .i64 a1_1,.int .i64 a1_2,.int .i64 a1_3,.int .i64 a1_4,.int .i64 a1_5] 26 (0,0)) (Y6 BK234.out) k_ hn_))));have n2_ := Yd (hb);clear BK234;clear HB;clear HO245;clear HO_7;have BK234 := n0_;have HO248 := n1_;have HB := n2_;clear n0_ n1_ n2_;(try clear hb);(try clear hkp);(try clear ho0);obtain ⟨Ao38,co38,eo38⟩ := Kd.R_slice HO248.out;subst eo38) | (go_at_call 16;(with_reducible refine (override_Check.calls kj6 _ _ t246 t249 _ ?side1 ?side2 A22.out).mono ?_);(case side1 => repeat (first | exact (Kd.R_reads' HO248.out).2.2 | (with_reducible refine Kd.C_alloc ?_ _) | (with_reducible refine Kd.C_drewN ?_ _) | (with_reducible refine Kd.C_drew ?_)));(case side2 => exact (Kd.R_reads' HO248.out).2.1);rintro e w39 ⟨rfl,hb⟩;have n0_ := Yd (Kd.R_below (Y5 HO248.out) hb);have n1_ := Yd (blk_below (g := gb234) (o := .cells #[.string a1_0,.int .i64 a1_1,.int .i64 a1_2,.int .i64 a1_3,.int .i64 a1_4,.int .i64 a1_5] 26 (0,0)) (Y6 BK234.out) hb);have n2_ := Yd (below_step (by first | exact Y4 HB.out GE234.out | exact Y3 HB.out) hb);clear HO248;clear BK234;clear HB;have HO248 := n0_;have BK234 := n1_;have HB := n2_;clear n0_ n1_ n2_;(try clear hb);(try clear hb2);(try clear hk);(try clear hi)));try go_wp2_with (first | ((with_reducible refine gate_dst (N := 38) rfl ?_);refine Kd.R_lit k26 _ 26 ?hg (N := 38) ?hd (xs := ([(⟨a1_0,a1_1,a1_2,(⟨a1_3,a1_4⟩ : S24),a1_5⟩ : S26)] : List (S26))) (inner := [.string a1_0,.int .i64 a1_1,.int .i64 a1_2,.int .i64 a1_3,.int .i64 a1_4,.int .i64 a1_5]) (ok := fun _ => True) (okp := fun _ => True) ?hr ?hp (fun _ hk => hk) trivial (Below.refl _ _) (Nat.le_refl _) (by simp) ?_;(case hd => rfl);(case hg => rfl);(case hr => first | (go_simp;done) | (go_simp;rfl));(case hp => exact (Reps.c6 (show Kd.M k26 _ _ _ (⟨a1_0,a1_1,a1_2,(⟨a1_3,a1_4⟩ : S24),a1_5⟩ : S26) [.string a1_0,.int .i64 a1_1,.int .i64 a1_2,.int .i64 a1_3,.int .i64 a1_4,.int .i64 a1_5] from (k26_mkM _ _ _ (⟨a1_0,a1_1,a1_2,(⟨a1_3,a1_4⟩ : S24),a1_5⟩ : S26) )) (Reps.none _ _)));intro v244 w33 ho34 hb hg_ hnew_;clear hg_ hnew_;(first | rw [← Ny243.out] at ho34 | (simp only [Int.reduceToNat] at ho34;rw [← Ny243.out] at ho34));have n0_ := Yd (Kd.R_elder' (Y5 HO_7.out) (Kd.R_base ho34) hb);have n1_ := Yd (Kd.R_lower (Kd.R_newB (Kd.R_new' ho34 (Kd.R_lt (Y5 HO_7.out))) (g := gb234) (o := .cells #[.string a1_0,.int .i64 a1_1,.int .i64 a1_2,.int .i64 a1_3,.int .i64 a1_4,.int .i64 a1_5] 26 (0,0)) (Y6 BK234.out)) (below_size (by first | exact Y4 HB.out GE234.out | exact Y3 HB.out)));have n2_ := Yd (blk_below (g := gb234) (o := .cells #[.string a1_0,.int .i64 a1_1,.int .i64 a1_2,.int .i64 a1_3,.int .i64 a1_4,.int .i64 a1_5] 26 (0,0)) (Y6 BK234.out) hb);have n3_ := Yd (below_step (by first | exact Y4 HB.out GE234.out | exact Y3 HB.out) hb);clear HO_7;clear BK234;clear HB;have HO_7 := n0_;have HO245 := n1_;have BK234 := n2_;have HB := n3_;clear n0_ n1_ n2_ n3_;clear hb ho34;obtain ⟨Ao35,co35,eo35⟩ := Kd.R_slice HO_7.out;subst eo35;obtain ⟨Ao36,co36,eo36⟩ := Kd.R_slice HO245.out;subst eo36) | (go_at_call 24;(with_reducible refine (ins_Hold.calls (fun k_ => some k_ = (.slice Ao35 t239.length co35 : Value).ownBlock) (.slice Ao35 t239.length co35) t239 x8_6 (fun k_ => some k_ = (.slice Ao36 y243.length co36 : Value).ownBlock) (.slice Ao36 y243.length co36) y243 t246 w _ ?side1 ?side2 ?side3 ?side4 ?side5 A21.out).mono ?_);(case side1 => repeat (first | (with_reducible first | exact HB.out | apply below_alloc | apply Y15 | apply below_drew1 | refine below_set ?_ GE234.out) | exact HB.out));(case side2 => exact Kd.R_tight rfl HO_7.out);(case side3 => exact fun k_ e_ => (HO_7.out.1 k_ e_.symm).2);(case side4 => exact Kd.R_tight rfl HO245.out);(case side5 => exact fun k_ e_ => (HO245.out.1 k_ e_.symm).1.2);rintro e w37 ⟨v247,rfl,ho0,hb,hkp⟩;have n0_ := Yd (blk_kept (Y6 BK234.out) hkp (fun hs_ => Or.elim hs_ (fun e_ => (fun e_ => (Kd.R_away HO_7.out (fun _ hk => hk.1)) e_) e_) (fun e_ => (fun e_ => (Kd.R_away HO245.out (fun _ hk => hk.2)) e_) e_)));have n1_ := Yd (Kd.R_mono (ok' := fun k_ => k_ ≠ gb234) ho0 (fun k_ hk_ => Or.elim hk_ (fun hs_ => Or.elim hs_ (fun hs_ => fun e_ => (Kd.R_away HO_7.out (fun _ hk => hk.1)) (by rw [← e_];exact hs_)) (fun hs_ => fun e_ => (Kd.R_away HO245.out (fun _ hk => hk.2)) (by rw [← e_];exact hs_))) (fun hn_ => (Kd.freshB (g := gb234) (o := .cells #[.string a1_0,.int .i64 a1_1,.int .i64 a1_2,.int .i64 a1_3,.int .i64 a1_4,.int .i64 a1_5] 26 (0,0)) (Y6 BK234.out) k_ hn_))));have n2_ := Yd (hb);clear BK234;clear HB;clear HO245;clear HO_7;have BK234 := n0_;have HO248 := n1_;have HB := n2_;clear n0_ n1_ n2_;(try clear hb);(try clear hkp);(try clear ho0);obtain ⟨Ao38,co38,eo38⟩ := Kd.R_slice HO248.out;subst eo38) | (go_at_call 16;(with_reducible refine (override_Check.calls kj6 _ _ t246 t249 _ ?side1 ?side2 A22.out).mono ?_);(case side1 => repeat (first | exact (Kd.R_reads' HO248.out).2.2 | (with_reducible refine Kd.C_alloc ?_ _) | (with_reducible refine Kd.C_drewN ?_ _) | (with_reducible refine Kd.C_drew ?_)));(case side2 => exact (Kd.R_reads' HO248.out).2.1);rintro e w39 ⟨rfl,hb⟩;have n0_ := Yd (Kd.R_below (Y5 HO248.out) hb);have n1_ := Yd (blk_below (g := gb234) (o := .cells #[.string a1_0,.int .i64 a1_1,.int .i64 a1_2,.int .i64 a1_3,.int .i64 a1_4,.int .i64 a1_5] 26 (0,0)) (Y6 BK234.out) hb);have n2_ := Yd (below_step (by first | exact Y4 HB.out GE234.out | exact Y3 HB.out) hb);clear HO248;clear BK234;clear HB;have HO248 := n0_;have BK234 := n1_;have HB := n2_;clear n0_ n1_ n2_;(try clear hb);(try clear hb2);(try clear hk);(try clear hi))))
     go_ret2
     exact ⟨_,by first | rfl | (simp [errW_none,errW_some] <;> rfl) | (simp [*,errW_none,errW_some] <;> rfl),by first | exact Kd.R_nil _ _ _ _ _ | exact Kd.N_nil _ _ _ _ _ | exact Kd.V_nil _ _ _ _ _ | exact Kd.Q_nil _ _ _ _ _ | exact Kd.S_nil _ _ _ _ _,by repeat (first | (with_reducible first | exact HB.out | apply below_alloc | apply Y15 | apply below_drew1 | refine below_set ?_ GE234.out) | exact HB.out)⟩
 ·rw [if_neg c4] at H
  have c4b0 : (t235 == 0) = false := beq_eq_false_iff_ne.mpr c4
  have c4b1 : (t235 != 0) = true := bne_iff_ne.mpr c4
  simp only [Option.some.injEq,Prod.mk.injEq] at H
  obtain ⟨rfl,rfl⟩ := H
  go_enter Try.func8,Try.ntmps8
  go_wp2_with (first | ((with_reducible refine gate_dst (N := 3) rfl ?_);refine box_event ?hg (N := 3) ?hd (cs := #[.string a1_0,.int .i64 a1_1,.int .i64 a1_2,.int .i64 a1_3,.int .i64 a1_4,.int .i64 a1_5]) (t := 26) ?hr ?_;(case hd => rfl);(case hg => rfl);(case hr => first | (go_simp;done) | (go_simp;rfl));intro gb234 hg w40 hbox hb;have n0_ := Yd (below_step (Y3 HB.out) hb);have n1_ := Yd (hbox);have n2_ := Yd ((by rw [hg];exact (below_size (Y3 HB.out)) : w.heap.size ≤ gb234));have n3_ := Yd ((by rw [hg];exact (below_size (Y3 HB.out)) : w.heap.size ≤ gb234));clear HB;have HB := n0_;have BK234 := n1_;have GW234 := n2_;have GE234 := n3_;clear n0_ n1_ n2_ n3_;clear hb hbox hg) | (go_at_call 16;(with_reducible refine (override_Check.calls k _ _ l0 t235 _ ?side1 ?side2 A3.out).mono ?_);(case side1 => exact Y11 (Kd.C_below HR0.out HB.out));(case side2 => exact HC0.out);rintro e w41 ⟨rfl,hb⟩;have n0_ := Yd (blk_below (g := gb234) (o := .cells #[.string a1_0,.int .i64 a1_1,.int .i64 a1_2,.int .i64 a1_3,.int .i64 a1_4,.int .i64 a1_5] 26 (0,0)) (Y6 BK234.out) hb);have n1_ := Yd (below_step (by first | exact Y4 HB.out GE234.out | exact Y3 HB.out) hb);clear BK234;clear HB;have BK234 := n0_;have HB := n1_;clear n0_ n1_;(try clear hb);(try clear hb2);(try clear hk);(try clear hi)))
  repeat (go_quiet (first | ((with_reducible refine gate_dst (N := 3) rfl ?_);refine box_event ?hg (N := 3) ?hd (cs := #[.string a1_0,.int .i64 a1_1,.int .i64 a1_2,.int .i64 a1_3,.int .i64 a1_4,.int .i64 a1_5]) (t := 26) ?hr ?_;(case hd => rfl);(case hg => rfl);(case hr => first | (go_simp;done) | (go_simp;rfl));intro gb234 hg w40 hbox hb;have n0_ := Yd (below_step (Y3 HB.out) hb);have n1_ := Yd (hbox);have n2_ := Yd ((by rw [hg];exact (below_size (Y3 HB.out)) : w.heap.size ≤ gb234));have n3_ := Yd ((by rw [hg];exact (below_size (Y3 HB.out)) : w.heap.size ≤ gb234));clear HB;have HB := n0_;have BK234 := n1_;have GW234 := n2_;have GE234 := n3_;clear n0_ n1_ n2_ n3_;clear hb hbox hg) | (go_at_call 16;(with_reducible refine (override_Check.calls k _ _ l0 t235 _ ?side1 ?side2 A3.out).mono ?_);(case side1 => exact Y11 (Kd.C_below HR0.out HB.out));(case side2 => exact HC0.out);rintro e w41 ⟨rfl,hb⟩;have n0_ := Yd (blk_below (g := gb234) (o := .cells #[.string a1_0,.int .i64 a1_1,.int .i64 a1_2,.int .i64 a1_3,.int .i64 a1_4,.int .i64 a1_5] 26 (0,0)) (Y6 BK234.out) hb);have n1_ := Yd (below_step (by first | exact Y4 HB.out GE234.out | exact Y3 HB.out) hb);clear BK234;clear HB;have BK234 := n0_;have HB := n1_;clear n0_ n1_;(try clear hb);(try clear hb2);(try clear hk);(try clear hi)));try go_wp2_with (first | ((with_reducible refine gate_dst (N := 3) rfl ?_);refine box_event ?hg (N := 3) ?hd (cs := #[.string a1_0,.int .i64 a1_1,.int .i64 a1_2,.int .i64 a1_3,.int .i64 a1_4,.int .i64 a1_5]) (t := 26) ?hr ?_;(case hd => rfl);(case hg => rfl);(case hr => first | (go_simp;done) | (go_simp;rfl));intro gb234 hg w40 hbox hb;have n0_ := Yd (below_step (Y3 HB.out) hb);have n1_ := Yd (hbox);have n2_ := Yd ((by rw [hg];exact (below_size (Y3 HB.out)) : w.heap.size ≤ gb234));have n3_ := Yd ((by rw [hg];exact (below_size (Y3 HB.out)) : w.heap.size ≤ gb234));clear HB;have HB := n0_;have BK234 := n1_;have GW234 := n2_;have GE234 := n3_;clear n0_ n1_ n2_ n3_;clear hb hbox hg) | (go_at_call 16;(with_reducible refine (override_Check.calls k _ _ l0 t235 _ ?side1 ?side2 A3.out).mono ?_);(case side1 => exact Y11 (Kd.C_below HR0.out HB.out));(case side2 => exact HC0.out);rintro e w41 ⟨rfl,hb⟩;have n0_ := Yd (blk_below (g := gb234) (o := .cells #[.string a1_0,.int .i64 a1_1,.int .i64 a1_2,.int .i64 a1_3,.int .i64 a1_4,.int .i64 a1_5] 26 (0,0)) (Y6 BK234.out) hb);have n1_ := Yd (below_step (by first | exact Y4 HB.out GE234.out | exact Y3 HB.out) hb);clear BK234;clear HB;have BK234 := n0_;have HB := n1_;clear n0_ n1_;(try clear hb);(try clear hb2);(try clear hk);(try clear hi))))
  go_ret2
  exact ⟨_,by first | rfl | (simp [errW_none,errW_some] <;> rfl) | (simp [*,errW_none,errW_some] <;> rfl),by first | exact Kd.R_nil _ _ _ _ _ | exact Kd.N_nil _ _ _ _ _ | exact Kd.V_nil _ _ _ _ _ | exact Kd.Q_nil _ _ _ _ _ | exact Kd.S_nil _ _ _ _ _,by repeat (first | (with_reducible first | exact HB.out | apply below_alloc | apply Y15 | apply below_drew1 | refine below_set ?_ GE234.out) | exact HB.out)⟩
def override_Remove_1_.f (a0_0 : ByteArray) (a0_1 : Int) (a0_2 : Int) (a0_3 : Int) (a0_4 : Int) (a0_5 : Int) (a1_0 : ByteArray) : Option (Bool) := some (a0_0.toList == a1_0.toList)
set_option maxHeartbeats 100000000 in
set_option maxRecDepth 100000 in
theorem override_Remove_1_.calls (a0_0 : ByteArray) (a0_1 : Int) (a0_2 : Int) (a0_3 : Int) (a0_4 : Int) (a0_5 : Int) (B1_0_ : Nat) (a1_0 : ByteArray) (r : Bool) (w : World) (hx1_0_ : w.heap[B1_0_]? = some (.cells #[.string a1_0] 9 (0,0))) (h : override_Remove_1_.f a0_0 a0_1 a0_2 a0_3 a0_4 a0_5 a1_0 = some r) :
  Calls Try.prog 25 #[.agg #[.string a0_0,.int .i64 a0_1,.int .i64 a0_2,.int .i64 a0_3,.int .i64 a0_4,.int .i64 a0_5],.pointer (some ⟨B1_0_,0,none⟩)] w fun e w' => e = .returned (.bool r) ∧ Below w.heap.size w w' := by
 have hu26 := Try.underlying26
 have BK250 := Yd hx1_0_
 clear hx1_0_
 have HB := Yd (Below.refl w.heap.size w)
 have H : (some (a0_0.toList == a1_0.toList)) = some r := h
 clear h
 obtain rfl := Option.some.inj H
 go_enter Try.func25,Try.ntmps25
 go_wp2_with (first | ((with_reducible refine gate_dst (N := 2) rfl ?_);refine box_event ?hg (N := 2) ?hd (cs := #[.string a0_0,.int .i64 a0_1,.int .i64 a0_2,.int .i64 a0_3,.int .i64 a0_4,.int .i64 a0_5]) (t := 26) ?hr ?_;(case hd => rfl);(case hg => rfl);(case hr => first | (go_simp;done) | (go_simp;rfl));intro gb251 hg w3 hbox hb;have n0_ := Yd (blk_below (g := B1_0_) (o := .cells #[.string a1_0] 9 (0,0)) (Y6 BK250.out) hb);have n1_ := Yd (below_step (by first | exact Y4 HB.out GE250.out | exact Y3 HB.out) hb);have n2_ := Yd (hbox);have n3_ := Yd ((by rw [hg];exact (below_size (by first | exact Y4 HB.out GE250.out | exact Y3 HB.out)) : w.heap.size ≤ gb251));have n4_ := Yd ((by rw [hg];exact (below_size (by first | exact Y4 HB.out GE250.out | exact Y3 HB.out)) : w.heap.size ≤ gb251));have n5_ := Yd ((by rw [hg];exact Nat.ne_of_lt (blk_lt (g := B1_0_) (o := .cells #[.string a1_0] 9 (0,0)) (Y6 BK250.out)) : B1_0_ ≠ gb251));have n6_ := Yd ((by rw [hg];exact Nat.ne_of_gt (blk_lt (g := B1_0_) (o := .cells #[.string a1_0] 9 (0,0)) (Y6 BK250.out)) : gb251 ≠ B1_0_));clear BK250;clear HB;have BK250 := n0_;have HB := n1_;have BK251 := n2_;have GW251 := n3_;have GE251 := n4_;have NB250_251 := n5_;have NB251_250 := n6_;clear n0_ n1_ n2_ n3_ n4_ n5_ n6_;clear hb hbox hg;have hnb4 := NB251_250.out;have hnc4 := NB250_251.out;have hcz5_0 : w3.cell? ⟨gb251,0,none⟩ = some (.string a0_0) := (blk_cell BK251.out 0).trans rfl;have hcz5_1 : w3.cell? ⟨gb251,1,none⟩ = some (.int .i64 a0_1) := (blk_cell BK251.out 1).trans rfl;have hcz5_2 : w3.cell? ⟨gb251,2,none⟩ = some (.int .i64 a0_2) := (blk_cell BK251.out 2).trans rfl;have hcz5_3 : w3.cell? ⟨gb251,3,none⟩ = some (.int .i64 a0_3) := (blk_cell BK251.out 3).trans rfl;have hcz5_4 : w3.cell? ⟨gb251,4,none⟩ = some (.int .i64 a0_4) := (blk_cell BK251.out 4).trans rfl;have hcz5_5 : w3.cell? ⟨gb251,5,none⟩ = some (.int .i64 a0_5) := (blk_cell BK251.out 5).trans rfl;have hfz5_0 := blk_frozen BK251.out 0;have hfz5_1 := blk_frozen BK251.out 1;have hfz5_2 := blk_frozen BK251.out 2;have hfz5_3 := blk_frozen BK251.out 3;have hfz5_4 := blk_frozen BK251.out 4;have hfz5_5 := blk_frozen BK251.out 5;have hcz6_0 : w3.cell? ⟨B1_0_,0,none⟩ = some (.string a1_0) := (blk_cell BK250.out 0).trans rfl;have hfz6_0 := blk_frozen BK250.out 0))
 go_ret
 exact ⟨by first | rfl | (simp [errW_none,errW_some] <;> rfl) | (simp [*,errW_none,errW_some] <;> rfl),by repeat (first | (with_reducible first | exact HB.out | apply below_alloc | apply Y15 | apply below_drew1 | refine below_set ?_ GE250.out | refine below_set ?_ GE251.out) | exact HB.out)⟩
def api_Hold__c25_.l0 : Nat → List (S26) → Int → Int → ByteArray → Option (Int)
 | 0,_,_,_,_ => none
 | k + 1,x0,x7,x8,x253000 => if x8 < x7 then (if 0 ≤ x8 then (if x8 < (x0.length : Int) then ((override_Remove_1_.f ((rd_T26 x0 x8).f0) ((rd_T26 x0 x8).f1) ((rd_T26 x0 x8).f2) ((rd_T26 x0 x8).f3.f0) ((rd_T26 x0 x8).f3.f1) ((rd_T26 x0 x8).f4) x253000).bind fun t254 => (if t254 = true then (some x8) else (api_Hold__c25_.l0 k x0 x7 (wrap64 (x8 + 1)) x253000))) else (none)) else (none)) else (some (-1))
def api_Hold__c25_.f (k : Nat) (l0 : List (S26)) (a1_0 : ByteArray) : Option (Int) := api_Hold__c25_.l0 k l0 (l0.length : Int) 0 a1_0
theorem api_Hold__c25_.mono_l : ∀ k,(∀ y0 y1 y2 y3,LeO (api_Hold__c25_.l0 k y0 y1 y2 y3) (api_Hold__c25_.l0 (k + 1) y0 y1 y2 y3))
 | 0 => fun _ _ _ _ r h => by simp [api_Hold__c25_.l0] at h
 | k + 1 => by
  have ih0 := api_Hold__c25_.mono_l k
  ·intro y0 y1 y2 y3
   unfold api_Hold__c25_.l0
   repeat' first
   | (with_reducible exact ih0 _ _ _ _)
   | (with_reducible exact LeO.refl _)
   | (with_reducible exact LeO.none _)
   | (with_reducible refine LeO.ite ?_ ?_)
   | (with_reducible refine LeO.bind ?_ (fun _ => ?_))
   | exact ih0 _ _ _ _
   | exact LeO.none _
   | refine LeO.ite ?_ ?_
   | refine LeO.bind ?_ (fun _ => ?_)
theorem api_Hold__c25_.mono : ∀ a0 a1 k,LeO (api_Hold__c25_.f k a0 a1) (api_Hold__c25_.f (k + 1) a0 a1) := by
 intro a0 a1 k
 have ih0 := api_Hold__c25_.mono_l k
 unfold api_Hold__c25_.f
 repeat' first
   | (with_reducible exact ih0 _ _ _ _)
   | (with_reducible exact LeO.refl _)
   | (with_reducible exact LeO.none _)
   | (with_reducible refine LeO.ite ?_ ?_)
   | (with_reducible refine LeO.bind ?_ (fun _ => ?_))
   | exact ih0 _ _ _ _
   | exact LeO.none _
   | refine LeO.ite ?_ ?_
   | refine LeO.bind ?_ (fun _ => ?_)
set_option maxHeartbeats 100000000 in
set_option maxRecDepth 100000 in
theorem api_Hold__c25_.calls (k : Nat) (A0 : Option Addr) (c0 : Nat) (l0 : List (S26)) (B1_0_ : Nat) (a1_0 : ByteArray) (r : Int) (w : World) (hr0 : Kd.C k26 w A0 l0.length l0) (hc0 : l0.length ≤ c0) (hx1_0_ : w.heap[B1_0_]? = some (.cells #[.string a1_0] 9 (0,0))) (h : api_Hold__c25_.f k l0 a1_0 = some r) :
  Calls Try.prog 39 #[.slice A0 l0.length c0,.func (.func 25) #[] #[.pointer (some ⟨B1_0_,0,none⟩)]] w fun e w' => e = .returned (.int .i64 r) ∧ Below w.heap.size w w' := by
 have hu26 := Try.underlying26
 have HR0 := Yd hr0
 have HC0 := Yd hc0
 clear hr0 hc0
 have BK252 := Yd hx1_0_
 clear hx1_0_
 have HB := Yd (Below.refl w.heap.size w)
 have H : (api_Hold__c25_.l0 k l0 (l0.length : Int) 0 a1_0) = some r := h
 clear h
 have H' := Yd H
 clear H
 go_enter Try.func39,Try.ntmps39
 go_wp2
 go_loopg [8] k (fun kq v8 w' => ∃ (x8_1 : Int),v8 = .int .i64 x8_1 ∧ Aside0 (api_Hold__c25_.l0 kq l0 (l0.length : Int) x8_1 a1_0 = some r) ∧ Aside0 (kq ≤ k) ∧ Aside0 (w'.heap[B1_0_]? = some (.cells #[.string a1_0] 9 (0,0))) ∧ Aside0 (Below w.heap.size w w'))
 case atStart => exact ⟨(0),Y12,H',⟨Nat.le_refl _⟩,⟨Y6 BK252.out⟩,⟨by repeat (first | (with_reducible first | exact HB.out | apply below_alloc | apply Y15 | apply below_drew1 | refine below_set ?_ GE252.out) | exact HB.out)⟩⟩
 case round =>
  clear H'
  try clear hx1
  try clear c2
  try clear p2
  obtain ⟨x8_1,rfl,HA,HK1,BK252,HB⟩ := hrel
  cases gk with
  | zero => exact absurd HA.out (by simp [api_Hold__c25_.l0])
  | succ k1 =>
   have H := HA.out
   clear HA
   simp only [api_Hold__c25_.l0] at H
   by_cases c3 : x8_1 < (l0.length : Int)
   ·rw [if_pos c3] at H
    have c3b0 : decide (x8_1 < (l0.length : Int)) = true := decide_eq_true c3
    clear c3
    by_cases c4 : 0 ≤ x8_1
    case neg => rw [if_neg c4] at H;exact absurd H (by simp)
    rw [if_pos c4] at H
    have c4b0 : decide (0 ≤ x8_1) = true := decide_eq_true c4
    clear c4
    by_cases c5 : x8_1 < (l0.length : Int)
    case neg => rw [if_neg c5] at H;exact absurd H (by simp)
    rw [if_pos c5] at H
    have c5b0 : decide (x8_1 < (l0.length : Int)) = true := decide_eq_true c5
    clear c5
    replace H := Option.bind_eq_some_iff.mp H
    obtain ⟨t254,A60,H⟩ := H
    replace H : (if t254 = true then (some x8_1) else (api_Hold__c25_.l0 k1 l0 (l0.length : Int) (wrap64 (x8_1 + 1)) a1_0)) = some r := H
    have A6 := Yd A60
    clear A60
    by_cases c7 : t254 = true
    ·subst c7
     have H1 : (some x8_1) = some r := by rw [if_pos rfl] at H;exact H
     clear H
     have H := H1
     clear H1
     obtain rfl := Option.some.inj H
     have p253 : 0 ≤ (x8_1 : Int) := Y9
     have q253 : x8_1 < (l0.length : Int) := Y9
     obtain ⟨ad253,e253,hx253_0,hx253_1,hx253_2,hx253_3,hx253_4,hx253_5⟩ := at_T26 HR0.out x8_1 p253 q253
     cases e253
     replace hx253_0 := Y10 HB.out hx253_0
     replace hx253_1 := Y10 HB.out hx253_1
     replace hx253_2 := Y10 HB.out hx253_2
     replace hx253_3 := Y10 HB.out hx253_3
     replace hx253_4 := Y10 HB.out hx253_4
     replace hx253_5 := Y10 HB.out hx253_5
     replace p253 := eq_true p253
     replace q253 := eq_true q253
     go_wp2_with (first | (go_at_call 25;(with_reducible refine (override_Remove_1_.calls ((rd_T26 l0 x8_1).f0) ((rd_T26 l0 x8_1).f1) ((rd_T26 l0 x8_1).f2) ((rd_T26 l0 x8_1).f3.f0) ((rd_T26 l0 x8_1).f3.f1) ((rd_T26 l0 x8_1).f4) B1_0_ a1_0 true _ ?side1 A6.out).mono ?_);(case side1 => exact (Y6 BK252.out));rintro e w8 ⟨rfl,hb⟩;have n0_ := Yd (blk_below (g := B1_0_) (o := .cells #[.string a1_0] 9 (0,0)) (Y6 BK252.out) hb);have n1_ := Yd (below_step (by first | exact Y4 HB.out GE252.out | exact Y3 HB.out) hb);clear BK252;clear HB;have BK252 := n0_;have HB := n1_;clear n0_ n1_;(try clear hb);(try clear hb2);(try clear hk);(try clear hi)))
     go_ret
     exact ⟨by first | rfl | (simp [errW_none,errW_some] <;> rfl) | (simp [*,errW_none,errW_some] <;> rfl),by repeat (first | (with_reducible first | exact HB.out | apply below_alloc | apply Y15 | apply below_drew1 | refine below_set ?_ GE252.out) | exact HB.out)⟩
    ·replace c7 := Bool.eq_false_iff.mpr c7
     subst c7
     have H1 : (api_Hold__c25_.l0 k1 l0 (l0.length : Int) (wrap64 (x8_1 + 1)) a1_0) = some r := by rw [if_neg (show ¬ (false = true) by decide)] at H;exact H
     clear H
     have H := H1
     clear H1
     have H' := Yd H
     clear H
     have p253 : 0 ≤ (x8_1 : Int) := Y9
     have q253 : x8_1 < (l0.length : Int) := Y9
     obtain ⟨ad253,e253,hx253_0,hx253_1,hx253_2,hx253_3,hx253_4,hx253_5⟩ := at_T26 HR0.out x8_1 p253 q253
     cases e253
     replace hx253_0 := Y10 HB.out hx253_0
     replace hx253_1 := Y10 HB.out hx253_1
     replace hx253_2 := Y10 HB.out hx253_2
     replace hx253_3 := Y10 HB.out hx253_3
     replace hx253_4 := Y10 HB.out hx253_4
     replace hx253_5 := Y10 HB.out hx253_5
     replace p253 := eq_true p253
     replace q253 := eq_true q253
     go_wp2_with (first | (go_at_call 25;(with_reducible refine (override_Remove_1_.calls ((rd_T26 l0 x8_1).f0) ((rd_T26 l0 x8_1).f1) ((rd_T26 l0 x8_1).f2) ((rd_T26 l0 x8_1).f3.f0) ((rd_T26 l0 x8_1).f3.f1) ((rd_T26 l0 x8_1).f4) B1_0_ a1_0 false _ ?side1 A6.out).mono ?_);(case side1 => exact (Y6 BK252.out));rintro e w9 ⟨rfl,hb⟩;have n0_ := Yd (blk_below (g := B1_0_) (o := .cells #[.string a1_0] 9 (0,0)) (Y6 BK252.out) hb);have n1_ := Yd (below_step (by first | exact Y4 HB.out GE252.out | exact Y3 HB.out) hb);clear BK252;clear HB;have BK252 := n0_;have HB := n1_;clear n0_ n1_;(try clear hb);(try clear hb2);(try clear hk);(try clear hi)))
     go_roundg k1
     case measure => have := HK1.out;omega
     case rel => exact ⟨(wrap64 (x8_1 + 1)),Y12,H',⟨by have := HK1.out;omega⟩,⟨Y6 BK252.out⟩,⟨by repeat (first | (with_reducible first | exact HB.out | apply below_alloc | apply Y15 | apply below_drew1 | refine below_set ?_ GE252.out) | exact HB.out)⟩⟩
   ·rw [if_neg c3] at H
    have c3b0 : decide (x8_1 < (l0.length : Int)) = false := decide_eq_false c3
    clear c3
    obtain rfl := Option.some.inj H
    go_wp2
    go_ret
    exact ⟨by first | rfl | (simp [errW_none,errW_some] <;> rfl) | (simp [*,errW_none,errW_some] <;> rfl),by repeat (first | (with_reducible first | exact HB.out | apply below_alloc | apply Y15 | apply below_drew1 | refine below_set ?_ GE252.out) | exact HB.out)⟩
end Go.Proofs.Ytaoicdkjjjlmeaa.PD34
