/- Words, contracts and plain laws for this claim, part 2. -/
import Derived.Test.YtcdjhdfjkfbgdaaZ1
import Derived.Sort.LotA
import Derived.Lib.SliceRun
set_option linter.unusedVariables false
set_option linter.unusedSimpArgs false
namespace Go.Proofs.YtcdjhdfjkfbgdaaX
open Go.RowKit Go.Sort Go.Shelf Go.Lib Go.Proofs.YtcdjhdfjkfbgdaaW.PrintWords Go.Proofs.YtcdjhdfjkfbgdaaW.PrintLast Go.Proofs.YtcdjhdfjkfbgdaaW.PrintMore
theorem nums_of_reps {w : World} {base : Nat} {ok : Nat → Prop} {k : IntKind} : ∀ {l : List Int} {cs : List Value}, Reps ((Kd.int k).M w base ok) 1 l cs → cs = nums k l := by
 intro l cs h
 apply List.ext_getElem?
 intro i
 rcases Nat.lt_or_ge i l.length with hi | hi
 ·have h2 : (cs.drop (i * 1)).take 1 = [Value.int k l[i]] := h.2 i _ (List.getElem?_eq_getElem hi)
  rw [Nat.mul_one] at h2
  have h3 : ((cs.drop i).take 1)[0]? = some (Value.int k l[i]) := by rw [h2]; rfl
  rw [List.getElem?_take_of_lt (by omega), List.getElem?_drop, Nat.add_zero] at h3
  rw [h3]
  simp [nums, List.getElem?_eq_getElem hi]
 ·have hl : cs.length = l.length := by have := h.1; omega
  rw [List.getElem?_eq_none (by omega), List.getElem?_eq_none (by simp [nums]; omega)]
theorem reps_of_nums (w : World) (base : Nat) (ok : Nat → Prop) (k : IntKind) (l : List Int) : Reps ((Kd.int k).M w base ok) 1 l (nums k l) := by
 refine ⟨by simp [nums], fun j p hj => ?_⟩
 show (List.drop (j * 1) (nums k l)).take 1 = [Value.int k p]
 have hl := (List.getElem?_eq_some_iff.1 hj).1
 rw [Nat.mul_one]
 apply List.ext_getElem?
 intro i
 rcases Nat.eq_zero_or_pos i with rfl | hi
 ·rw [List.getElem?_take_of_lt (by omega), List.getElem?_drop, Nat.add_zero]
  simp [nums, hj]
 ·rw [List.getElem?_eq_none (by simp; omega), List.getElem?_eq_none (by simp; omega)]
theorem R_int_mk {k : IntKind} {w : World} {base g cap e : Nat} {ok : Nat → Prop} {l : List Int} {cur : Array Value} (hg : ok g) (hb : base ≤ g) (hh : w.heap[g]? = some (.cells cur e (0, 0))) (h1 : l.length ≤ cap) (h2 : cap ≤ maxLen) (h3 : cur.size = cap * 1) (h4 : cur.toList.take (l.length * 1) = nums k l) :
  Kd.R (Kd.int k) e w base ok (.slice (some ⟨g, 0, none⟩) l.length cap) l := by
 refine ⟨fun q hq => ?_, nums k l, ⟨by show (nums k l).length = l.length * 1; simp [nums], .inr ⟨g, cap, cur, rfl, hb, hh, h1, h2, h3, h4⟩⟩, reps_of_nums _ _ _ _ _⟩
 have : g = q := by simpa [Value.ownBlock] using hq
 subst this
 exact hg
theorem kept_refl (w : World) (S : Nat → Prop) : Kept w w S := Kept.refl w S
theorem heap_put {α : Type} [Inhabited α] (enc : α → Value) (w : World) (g off m : Nat) (d : Array α) (os : Array Obj) {i : Nat} (hi : i < w.heap.size) :
  (sortWorld enc w g off m d os).heap[i]? = if g = i then (w.heap[i]?).map (onCells (putCells enc off d)) else w.heap[i]? := by
 unfold sortWorld
 rw [heap_grow_old _ _ (by simpa using hi)]
 unfold putRow mapBlock
 simp only [Array.getElem?_modify, heap_ahead]
theorem size_sort {α : Type} [Inhabited α] (enc : α → Value) (w : World) (g off m : Nat) (d : Array α) (os : Array Obj) : (sortWorld enc w g off m d os).heap.size = w.heap.size + os.size := by
 unfold sortWorld
 simp
theorem SortInts {cb : Array Value} {P_ : Nat → Prop} {u : Value} {l0 : List Int} {m : Nat} {cf : Int → Int → Int} {w0 w : World} (hB : Below w0.heap.size w0 w) (ho0 : Kd.R (Kd.int .i64) 3 w w0.heap.size P_ u l0)
  (hr : ∀ a, a ∈ l0 → 0 ≤ a ∧ a < (m : Int)) (hO : SWO (fun x y : Fin m => decide (cf (x.val : Int) (y.val : Int) < 0)))
  (hA : ∀ x y : Fin m, ¬ cf (x.val : Int) (y.val : Int) < 0 → ¬ cf (y.val : Int) (x.val : Int) < 0 → x = y) (hsz : l0.length < 4611686018427387904)
  (g : Nat) (eg : ∀ args w, (callFunc g args).run Try.prog w = .ok (.enter g args) w)
  (hc : ∀ W, Kept w W P_ → ∀ x y : Fin m, Calls Try.prog g (#[.int .i64 (x.val : Int), .int .i64 (y.val : Int)] ++ cb) W fun e W' => e = .returned (.int .i64 (cf (x.val : Int) (y.val : Int))) ∧ ∃ q os, W' = grow (W.drewN q) os) :
  Calls Try.prog 39 #[u, .func (.func g) #[] cb] w fun e w' => e = .returned (.tuple #[]) ∧ Kd.R (Kd.int .i64) 3 w' w0.heap.size (fun k_ => (P_ k_ ∨ w.heap.size ≤ k_)) u (l0.mergeSort (fun x y => decide (0 ≤ cf y x))) ∧ Below w0.heap.size w0 w' ∧ Kept w w' (fun k_ => P_ k_) := by
 have hz : ∀ p cap, u = .slice p 0 cap → l0 = [] → Calls Try.prog 39 #[u, .func (.func g) #[] cb] w fun e w' => e = .returned (.tuple #[]) ∧ Kd.R (Kd.int .i64) 3 w' w0.heap.size (fun k_ => (P_ k_ ∨ w.heap.size ≤ k_)) u (l0.mergeSort (fun x y => decide (0 ≤ cf y x))) ∧ Below w0.heap.size w0 w' ∧ Kept w w' (fun k_ => P_ k_) := by
  intro p cap hu hl
  subst hu
  refine Calls.mono (Try.slices_SortFunc_none (α := Nat) p cap _ w) ?_
  rintro e w' ⟨he, rfl⟩
  subst hl
  refine ⟨he, ?_, hB, Kept.refl _ _⟩
  rw [List.mergeSort_nil]
  exact Kd.R_mono ho0 (fun _ hk => .inl hk)
 obtain ⟨hok, inner, ⟨hlen, hcase⟩, hreps⟩ := ho0
 rcases hcase with ⟨hu, hn⟩ | ⟨gb, cap, cur, hu, hb, hh, h1, h2, h3, h4⟩
 ·exact hz none 0 hu (List.length_eq_zero_iff.1 hn)
 ·replace h3 : cur.size = cap * 1 := h3
  replace h4 : cur.toList.take (l0.length * 1) = inner := h4
  rcases Nat.eq_zero_or_pos l0.length with hn | hn
  ·exact hz _ cap (by rw [hu, hn]) (List.length_eq_zero_iff.1 hn)
  ·have hm : 0 < m := by
    obtain ⟨a, ha⟩ := List.exists_mem_of_length_pos hn
    have := hr a ha
    omega
   have hin : inner = nums .i64 l0 := nums_of_reps hreps
   haveI : Inhabited (Fin m) := ⟨⟨0, hm⟩⟩
   obtain ⟨toF, htoF⟩ : ∃ toF : Int → Fin m, ∀ a, 0 ≤ a → a < (m : Int) → ((toF a).val : Int) = a := by
    refine ⟨fun a => ⟨a.toNat % m, Nat.mod_lt _ hm⟩, fun a h0 h1 => ?_⟩
    show ((a.toNat % m : Nat) : Int) = a
    rw [Nat.mod_eq_of_lt (by omega)]
    omega
   obtain ⟨enc, henc⟩ : ∃ enc : Fin m → Value, enc = fun i => Value.int .i64 (i.val : Int) := ⟨_, rfl⟩
   obtain ⟨d, hd⟩ : ∃ d : Array (Fin m), d = (l0.map toF).toArray := ⟨_, rfl⟩
   have hds : d.size = l0.length := by rw [hd]; simp
   have hdv : ∀ j, j < d.size → enc d[j]! = Value.int .i64 (l0.getD j 0) := by
    intro j hj
    have hj' : j < l0.length := by omega
    rw [henc]
    show Value.int .i64 ((d[j]!).val : Int) = _
    have : d[j]! = toF l0[j] := by
     rw [getElem!_pos d j hj]
     simp [hd]
    rw [this, htoF _ (hr _ (List.getElem_mem hj')).1 (hr _ (List.getElem_mem hj')).2]
    congr 1
    rw [List.getD_eq_getElem?_getD, List.getElem?_eq_getElem hj']
    rfl
   have hcur : ∀ j, j < l0.length → cur[j]? = some (Value.int .i64 (l0.getD j 0)) := by
    intro j hj
    have e1 : (cur.toList.take (l0.length * 1))[j]? = (nums .i64 l0)[j]? := by rw [h4, hin]
    rw [List.getElem?_take_of_lt (by omega), Array.getElem?_toList] at e1
    rw [e1]
    simp [nums, List.getElem?_eq_getElem hj]
   have hH : Holds enc w gb 0 d := by
    intro j hj
    rw [hdv j hj]
    refine ⟨?_, ?_⟩
    ·simp only [World.cell?, hh, Nat.zero_add]
     exact hcur j (by omega)
    ·simp only [World.frozen?, hh]
     simp
   have hblk : gb < w.heap.size := (Array.getElem?_eq_some_iff.1 hh).1
   have hPg : P_ gb := hok gb (by rw [hu]; simp [Value.ownBlock])
   have hkept : ∀ n (dk : Array (Fin m)) os, Kept w (sortWorld enc w gb 0 n dk os) P_ := by
    intro n dk os
    refine ⟨by rw [size_sort]; omega, fun i hi hn => ?_⟩
    rw [heap_put _ _ _ _ _ _ _ hi, if_neg (by rintro rfl; exact hn hPg)]
   have hlays : CmpLays1 Try.prog g cb enc (fun x y : Fin m => cf (x.val : Int) (y.val : Int)) gb 0 d.size w := by
    intro n os dk _ x y
    have := hc _ (hkept n dk os) x y
    rw [henc] at this ⊢
    exact this
   have hcall := Try.slices_SortFunc enc (fun x => by rw [henc]; rfl) (fun x y : Fin m => cf (x.val : Int) (y.val : Int)) hO g cb gb 0 cap d w eg hlays hH hblk (by omega)
   rw [hds] at hcall
   rw [hu]
   refine Calls.mono hcall ?_
   rintro e w' ⟨he, d', n, os, hperm, hsort, rfl⟩
   have hperm' : PermIn 0 d.size d d' := by rw [hds]; exact hperm
   have hsort' : SortedIn (fun x y : Fin m => decide (cf (x.val : Int) (y.val : Int) < 0)) 0 d.size d' := by rw [hds]; exact hsort
   have hu2 := sorted_unique_holds hO (fun x y hx hy => hA x y (by simpa using hx) (by simpa using hy)) d d' hperm' hsort'
   have hd's : d'.size = l0.length := by rw [hperm.1, hds]
   have hvals : d'.toList.map (fun x : Fin m => (x.val : Int)) = l0.mergeSort (fun x y => decide (0 ≤ cf y x)) := by
    rw [hu2, List.map_mergeSort (s := fun x y => decide (0 ≤ cf y x))]
    ·congr 1
     rw [hd]
     show (l0.map toF).map (fun x : Fin m => (x.val : Int)) = l0
     rw [List.map_map]
     conv => rhs; rw [← List.map_id l0]
     apply List.map_congr_left
     intro a ha
     exact htoF a (hr a ha).1 (hr a ha).2
    ·intro a _ b _
     by_cases hx : cf (b.val : Int) (a.val : Int) < 0
     ·simp [hx]
     ·simp [hx]
      omega
   have hlen2 : (l0.mergeSort (fun x y => decide (0 ≤ cf y x))).length = l0.length := List.length_mergeSort l0
   have hnew : (sortWorld enc w gb 0 n d' os).heap[gb]? = some (.cells (putCells enc 0 d' cur) 3 (0, 0)) := by
    rw [heap_put _ _ _ _ _ _ _ hblk, if_pos rfl, hh]
    rfl
   refine ⟨he, ?_, ?_, hkept n d' os⟩
   ·rw [← hlen2]
    refine R_int_mk (.inl hPg) hb hnew (by rw [hlen2]; exact h1) h2 (by simp only [putCells, Array.size_mapIdx]; exact h3) ?_
    apply List.ext_getElem?
    intro i
    rcases Nat.lt_or_ge i l0.length with hi | hi
    ·have hci : i < cur.size := by omega
     rw [List.getElem?_take_of_lt (by omega), Array.getElem?_toList]
     simp only [putCells, Array.getElem?_mapIdx, Array.getElem?_eq_getElem hci, Option.map_some]
     rw [if_pos ⟨by omega, by omega⟩, Nat.sub_zero, henc]
     have hid : i < d'.size := by omega
     simp only [nums, List.getElem?_map, ← hvals]
     rw [getElem!_pos d' i hid]
     simp [Array.getElem?_toList, hid]
    ·rw [List.getElem?_eq_none (by simp; omega), List.getElem?_eq_none (by simp [nums]; omega)]
   ·refine ⟨hB.os, hB.tape, hB.output, by rw [size_sort]; have := hB.size; omega, fun k hk => ?_⟩
    have hkw : k < w.heap.size := Nat.lt_of_lt_of_le hk hB.size
    rw [heap_put _ _ _ _ _ _ _ hkw, if_neg (by omega)]
    exact hB.block k hk
end Go.Proofs.YtcdjhdfjkfbgdaaX
namespace Go.Proofs.Ytcdjhdfjkfbgdaa.PD56
open Go.RowKit Go.Proofs.YtcdjhdfjkfbgdaaW.PrintWords Go.Proofs.YtcdjhdfjkfbgdaaW.PrintLast Go.Proofs.YtcdjhdfjkfbgdaaW.PrintMore
theorem cb_lt : ∀ (a b : List UInt8), Go.Lib.compareBytes a b < 0 ↔ a < b
 | [], [] => by simp [Go.Lib.compareBytes]
 | [], _ :: _ => by simp [Go.Lib.compareBytes]
 | _ :: _, [] => by simp [Go.Lib.compareBytes]
 | a :: al, b :: bl => by
  have ih := cb_lt al bl
  unfold Go.Lib.compareBytes
  rw [List.cons_lt_cons_iff]
  by_cases h1 : a < b
  ·rw [if_pos h1]
   simp [h1]
  ·rw [if_neg h1]
   by_cases h2 : b < a
   ·rw [if_pos h2]
    have hne : a ≠ b := by rintro rfl; exact UInt8.lt_irrefl _ h2
    simp [h1, hne]
   ·rw [if_neg h2, ih]
    have he : a = b := by
     have h3 : ¬ a.toNat < b.toNat := fun h => h1 (UInt8.lt_iff_toNat_lt.2 h)
     have h4 : ¬ b.toNat < a.toNat := fun h => h2 (UInt8.lt_iff_toNat_lt.2 h)
     exact UInt8.toNat_inj.1 (by omega)
    simp [h1, he]
theorem cb_neg : ∀ (a b : List UInt8), Go.Lib.compareBytes b a = - Go.Lib.compareBytes a b
 | [], [] => by simp [Go.Lib.compareBytes]
 | [], _ :: _ => by simp [Go.Lib.compareBytes]
 | _ :: _, [] => by simp [Go.Lib.compareBytes]
 | a :: al, b :: bl => by
  have ih := cb_neg al bl
  unfold Go.Lib.compareBytes
  by_cases h1 : a < b
  ·have h2 : ¬ b < a := fun h => by
    rw [UInt8.lt_iff_toNat_lt] at h h1
    omega
   simp [h1, h2]
  ·by_cases h2 : b < a
   ·simp [h1, h2]
   ·simp [h1, h2, ih]
def ocf (L : List S43) (a b : Int) : Int :=
 if (rd_T43 L b).f1 < (rd_T43 L a).f1 then -1 else if (rd_T43 L a).f1 < (rd_T43 L b).f1 then 1 else
 if (rd_T43 L b).f2 < (rd_T43 L a).f2 then -1 else if (rd_T43 L a).f2 < (rd_T43 L b).f2 then 1 else
 Go.Lib.compareBytes (rd_T43 L a).f0.data.toList (rd_T43 L b).f0.data.toList
theorem ocf_lt (L : List S43) (a b : Int) : ocf L a b < 0 ↔ ((rd_T43 L b).f1 < (rd_T43 L a).f1 ∨ (rd_T43 L a).f1 = (rd_T43 L b).f1 ∧ ((rd_T43 L b).f2 < (rd_T43 L a).f2 ∨ (rd_T43 L a).f2 = (rd_T43 L b).f2 ∧ (rd_T43 L a).f0.data.toList < (rd_T43 L b).f0.data.toList)) := by
 unfold ocf
 rw [← cb_lt]
 repeat' split
 all_goals omega
theorem cmpI_val (x y : Int) : cmp_Compare_int.f x y = some (if x < y then -1 else if x > y then 1 else 0) := by
 simp only [cmp_Compare_int.f, cmp_isNaN_int.f, bne_self_eq_false, Option.bind_some, Bool.false_eq_true, if_false]
 repeat' split
 all_goals rfl
theorem cmpI64_val (x y : Int) : cmp_Compare_int64.f x y = some (if x < y then -1 else if x > y then 1 else 0) := by
 simp only [cmp_Compare_int64.f, cmp_isNaN_int64.f, bne_self_eq_false, Option.bind_some, Bool.false_eq_true, if_false]
 repeat' split
 all_goals rfl
theorem or_val (k : Nat) (p q s : Int) : cmp_Or_int.f (k + 4) [p, q, s] = some (if p ≠ 0 then p else if q ≠ 0 then q else s) := by
 have e1 : wrap64 (0 + 1) = 1 := by unfold wrap64; omega
 have e2 : wrap64 (1 + 1) = 2 := by unfold wrap64; omega
 have e3 : wrap64 (2 + 1) = 3 := by unfold wrap64; omega
 have d0 : rd [p, q, s] 0 = p := rfl
 have d1 : rd [p, q, s] 1 = q := rfl
 have d2 : rd [p, q, s] 2 = s := rfl
 have hl : ((([p, q, s] : List Int).length : Nat) : Int) = 3 := rfl
 unfold cmp_Or_int.f
 rw [hl]
 unfold cmp_Or_int.l0
 rw [if_pos (by decide), if_pos (by decide), if_pos (by rw [hl]; decide), d0, e1]
 by_cases hp : p = 0
 ·rw [if_pos hp]
  unfold cmp_Or_int.l0
  rw [if_pos (by decide), if_pos (by decide), if_pos (by rw [hl]; decide), d1, e2]
  by_cases hq : q = 0
  ·rw [if_pos hq]
   unfold cmp_Or_int.l0
   rw [if_pos (by decide), if_pos (by decide), if_pos (by rw [hl]; decide), d2, e3]
   by_cases hs : s = 0
   ·rw [if_pos hs]
    unfold cmp_Or_int.l0
    rw [if_neg (by decide)]
    simp [hp, hq, hs]
   ·rw [if_neg hs]
    simp [hp, hq]
  ·rw [if_neg hq]
   simp [hp, hq]
 ·rw [if_neg hp]
  simp [hp]
theorem order1_val (L : List S43) (a b : Int) (ha : 0 ≤ a ∧ a < (L.length : Int)) (hb : 0 ≤ b ∧ b < (L.length : Int)) : demand_order_1_.f 4 a b L = some (ocf L a b) := by
 unfold demand_order_1_.f
 rw [if_pos ha.1, if_pos ha.2, if_pos hb.1, if_pos hb.2, cmpI_val, cmpI64_val]
 simp only [Option.bind_some, strings_Compare.f]
 rw [or_val 0]
 simp only [Option.bind_some]
 congr 1
 unfold ocf
 repeat' split
 all_goals first | omega | rfl | (exfalso; simp_all; omega)
def slices_SortFunc_int_int__c40.f (l0 : List Int) (l1 : List S43) : Option (List Int) :=
 if l0.length < 4611686018427387904 ∧ (l0.all fun a => decide (0 ≤ a) && decide (a < (l1.length : Int))) = true ∧ (l1.map (·.f0.data.toList)).Nodup then some (l0.mergeSort (fun x y => decide (0 ≤ ocf l1 y x))) else none
theorem rd_get (L : List S43) (x : Fin L.length) : rd_T43 L (x.val : Int) = L[x] := by
 show L.getD (x.val : Int).toNat z43 = L[x]
 rw [Int.toNat_natCast, List.getD_eq_getElem?_getD, List.getElem?_eq_getElem x.isLt]
 rfl
theorem order_swo (L : List S43) : Go.Sort.SWO (fun x y : Fin L.length => decide (ocf L (x.val : Int) (y.val : Int) < 0)) where
 irrefl x := by simp [ocf_lt]
 trans x y z h1 h2 := by
  rw [decide_eq_true_eq, ocf_lt] at h1 h2 ⊢
  rcases h1 with h1 | ⟨e1, h1 | ⟨e1', h1⟩⟩ <;> rcases h2 with h2 | ⟨e2, h2 | ⟨e2', h2⟩⟩
  all_goals first
   | (refine .inl ?_; omega)
   | (refine .inr ⟨by omega, .inl ?_⟩; omega)
   | exact .inr ⟨by omega, .inr ⟨by omega, List.lt_trans h1 h2⟩⟩
 ntrans x y z h1 h2 := by
  rw [decide_eq_false_iff_not, ocf_lt] at h1 h2 ⊢
  intro h
  apply h1
  rcases h with h | ⟨e, h | ⟨e', h⟩⟩
  ·by_cases hy : (rd_T43 L y.val).f1 < (rd_T43 L x.val).f1
   ·exact .inl hy
   ·exact absurd (.inl (by omega)) h2
  ·by_cases hy : (rd_T43 L y.val).f1 < (rd_T43 L x.val).f1
   ·exact .inl hy
   ·by_cases hz : (rd_T43 L z.val).f1 < (rd_T43 L y.val).f1
    ·exact absurd (.inl hz) h2
    ·by_cases hy2 : (rd_T43 L y.val).f2 < (rd_T43 L x.val).f2
     ·exact .inr ⟨by omega, .inl hy2⟩
     ·exact absurd (.inr ⟨by omega, .inl (by omega)⟩) h2
  ·by_cases hy : (rd_T43 L y.val).f1 < (rd_T43 L x.val).f1
   ·exact .inl hy
   ·by_cases hz : (rd_T43 L z.val).f1 < (rd_T43 L y.val).f1
    ·exact absurd (.inl hz) h2
    ·by_cases hy2 : (rd_T43 L y.val).f2 < (rd_T43 L x.val).f2
     ·exact .inr ⟨by omega, .inl hy2⟩
     ·by_cases hz2 : (rd_T43 L z.val).f2 < (rd_T43 L y.val).f2
      ·exact absurd (.inr ⟨by omega, .inl (by omega)⟩) h2
      ·by_cases hy3 : (rd_T43 L x.val).f0.data.toList < (rd_T43 L y.val).f0.data.toList
       ·exact .inr ⟨by omega, .inr ⟨by omega, hy3⟩⟩
       ·exact absurd (.inr ⟨by omega, .inr ⟨by omega, List.lt_of_le_of_lt (List.not_lt.1 hy3) h⟩⟩) h2
theorem order_anti (L : List S43) (hn : (L.map (·.f0.data.toList)).Nodup) (x y : Fin L.length) (h1 : ¬ ocf L (x.val : Int) (y.val : Int) < 0) (h2 : ¬ ocf L (y.val : Int) (x.val : Int) < 0) : x = y := by
 rw [ocf_lt] at h1 h2
 have e1 : (rd_T43 L x.val).f1 = (rd_T43 L y.val).f1 := by
  rcases Int.lt_trichotomy (rd_T43 L x.val).f1 (rd_T43 L y.val).f1 with h | h | h
  ·exact absurd (.inl h) h2
  ·exact h
  ·exact absurd (.inl h) h1
 have e2 : (rd_T43 L x.val).f2 = (rd_T43 L y.val).f2 := by
  rcases Int.lt_trichotomy (rd_T43 L x.val).f2 (rd_T43 L y.val).f2 with h | h | h
  ·exact absurd (.inr ⟨e1.symm, .inl h⟩) h2
  ·exact h
  ·exact absurd (.inr ⟨e1, .inl h⟩) h1
 have e3 : (rd_T43 L x.val).f0.data.toList = (rd_T43 L y.val).f0.data.toList :=
  List.le_antisymm (List.not_lt.1 (fun h => h2 (.inr ⟨e1.symm, .inr ⟨e2.symm, h⟩⟩))) (List.not_lt.1 (fun h => h1 (.inr ⟨e1, .inr ⟨e2, h⟩⟩)))
 rw [rd_get, rd_get] at e3
 have hx : x.val < (L.map (·.f0.data.toList)).length := by simp
 have hy : y.val < (L.map (·.f0.data.toList)).length := by simp
 have := (List.getElem_inj (h₀ := hx) (h₁ := hy) hn).1 (by simpa using e3)
 exact Fin.ext this
theorem slices_SortFunc_int_int__c40.calls (P0_ : Nat → Prop) (u9000_ : Value) (l0 : List Int) (B1_0_ : Nat) (A1_0 : Option Addr) (c1_0 : Nat) (l1_0 : List S43) (r : List Int) (w0 w : World) (hB : Below w0.heap.size w0 w) (ho0 : Kd.R (Kd.int .i64) 3 w w0.heap.size P0_ u9000_ l0)
  (hr1_0 : ∀ W_, Kept w W_ (fun k_ => P0_ k_) → Kd.C k43 W_ A1_0 l1_0.length l1_0) (hc1_0 : l1_0.length ≤ c1_0) (hx1_0_ : w.heap[B1_0_]? = some (.cells #[.slice A1_0 l1_0.length c1_0] 22 (0, 0))) (hn1_0_ : ¬ P0_ B1_0_)
  (h : slices_SortFunc_int_int__c40.f l0 l1_0 = some r) :
  Calls Try.prog 39 #[u9000_, .func (.func 40) #[] #[.pointer (some ⟨B1_0_, 0, none⟩)]] w fun e w' => e = .returned (.tuple #[]) ∧ Kd.R (Kd.int .i64) 3 w' w0.heap.size (fun k_ => (P0_ k_ ∨ w.heap.size ≤ k_)) u9000_ r ∧ Below w0.heap.size w0 w' ∧ Kept w w' (fun k_ => P0_ k_) := by
 unfold slices_SortFunc_int_int__c40.f at h
 split at h
 ·rename_i hc
  obtain ⟨hs, hall, hnd⟩ := hc
  rw [Option.some.injEq] at h
  subst h
  refine Go.Proofs.YtcdjhdfjkfbgdaaX.SortInts (cb := #[.pointer (some ⟨B1_0_, 0, none⟩)]) (m := l1_0.length) (cf := ocf l1_0) hB ho0 ?_ (order_swo l1_0) (order_anti l1_0 hnd) hs 40 ?_ ?_
  ·intro a ha
   have := List.all_eq_true.1 hall a ha
   simpa using this
  ·intro args W
   first | rfl | (simp only [callFunc]; rfl) | go_simp
  ·intro W hW x y
   have hx : (0 : Int) ≤ (x.val : Int) ∧ (x.val : Int) < (l1_0.length : Int) := ⟨by omega, by have := x.isLt; omega⟩
   have hy : (0 : Int) ≤ (y.val : Int) ∧ (y.val : Int) < (l1_0.length : Int) := ⟨by omega, by have := y.isLt; omega⟩
   refine Calls.mono (G.demand_order_1_.calls 4 _ _ B1_0_ A1_0 c1_0 l1_0 _ W (hr1_0 W hW) hc1_0 (blk_kept hx1_0_ hW hn1_0_) (order1_val l1_0 _ _ hx hy)) ?_
   rintro e W' ⟨he, hb⟩
   exact ⟨he, G.grew_of hb⟩
 ·exact absurd h (by simp)
end Go.Proofs.Ytcdjhdfjkfbgdaa.PD56
namespace Go.Proofs.Ytcdjhdfjkfbgdaa.PD56
open Go.RowKit Go.Proofs.YtcdjhdfjkfbgdaaW.PrintWords Go.Proofs.YtcdjhdfjkfbgdaaW.PrintLast Go.Proofs.YtcdjhdfjkfbgdaaW.PrintMore
attribute [local go_sem] max2_int min2_int max_two min_two max_three min_three max_four min_four
def demand_order.l0 : Nat → List Int → Int → Int → List (S43) → Option (List Int)
 | 0,_,_,_,_ => none
 | k + 1,x3,x9,x10,x172000 => if x10 < x9 then (if 0 ≤ x10 then (if x10 < (x3.length : Int) then (demand_order.l0 k (x3.set (x10 : Int).toNat x10) x9 (wrap64 (x10 + 1)) x172000) else (none)) else (none)) else ((slices_SortFunc_int_int__c40.f x3 x172000).bind fun t176 => (some t176))
def demand_order.f (k : Nat) (l0 : List (S43)) : Option (List Int) := if 0 ≤ (l0.length : Int) then (if ((l0.length : Int) : Int).toNat ≤ 35184372088832 then ((some (List.replicate ((l0.length : Int) : Int).toNat 0 : List Int)).bind fun y172 => (demand_order.l0 k y172 (y172.length : Int) 0 l0)) else (none)) else (none)
theorem demand_order.mono_l : ∀ k,(∀ y0 y1 y2 y3,LeO (demand_order.l0 k y0 y1 y2 y3) (demand_order.l0 (k + 1) y0 y1 y2 y3))
 | 0 => fun _ _ _ _ r h => by simp [demand_order.l0] at h
 | k + 1 => by
  have ih0 := demand_order.mono_l k
  ·intro y0 y1 y2 y3
   unfold demand_order.l0
   repeat' first
   | (with_reducible exact ih0 _ _ _ _)
   | (with_reducible exact LeO.refl _)
   | (with_reducible exact LeO.none _)
   | (with_reducible refine LeO.ite ?_ ?_)
   | (with_reducible refine LeO.bind ?_ (fun _ => ?_))
   | exact ih0 _ _ _ _
   | exact LeO.none _
   | refine LeO.ite ?_ ?_
   | refine LeO.bind ?_ (fun _ => ?_)
theorem demand_order.mono : ∀ a0 k,LeO (demand_order.f k a0) (demand_order.f (k + 1) a0) := by
 intro a0 k
 have ih0 := demand_order.mono_l k
 unfold demand_order.f
 repeat' first
   | (with_reducible exact ih0 _ _ _ _)
   | (with_reducible exact LeO.refl _)
   | (with_reducible exact LeO.none _)
   | (with_reducible refine LeO.ite ?_ ?_)
   | (with_reducible refine LeO.bind ?_ (fun _ => ?_))
   | exact ih0 _ _ _ _
   | exact LeO.none _
   | refine LeO.ite ?_ ?_
   | refine LeO.bind ?_ (fun _ => ?_)
set_option maxHeartbeats 100000000 in
set_option maxRecDepth 100000 in
theorem demand_order.calls (k : Nat) (A0 : Option Addr) (c0 : Nat) (l0 : List (S43)) (r : List Int) (w : World) (hr0 : Kd.C k43 w A0 l0.length l0) (hc0 : l0.length ≤ c0) (h : demand_order.f k l0 = some r) :
  Calls Try.prog 24 #[.slice A0 l0.length c0] w fun e w' => ∃ v0_ : Value,e = .returned (v0_) ∧ Kd.R (Kd.int .i64) 3 w' w.heap.size (fun _ => True) v0_ r ∧ Below w.heap.size w w' := by
 have HR0 := Yd hr0
 have HC0 := Yd hc0
 clear hr0 hc0
 have HB := Yd (Below.refl w.heap.size w)
 have H : (if 0 ≤ (l0.length : Int) then (if ((l0.length : Int) : Int).toNat ≤ 35184372088832 then ((some (List.replicate ((l0.length : Int) : Int).toNat 0 : List Int)).bind fun y172 => (demand_order.l0 k y172 (y172.length : Int) 0 l0)) else (none)) else (none)) = some r := h
 clear h
 by_cases c2 : 0 ≤ (l0.length : Int)
 case neg => rw [if_neg c2] at H;exact absurd H (by simp)
 rw [if_pos c2] at H
 have c2b0 := eq_true c2
 have c2b1 : decide (0 ≤ (l0.length : Int)) = true := decide_eq_true c2
 clear c2
 by_cases c3 : ((l0.length : Int) : Int).toNat ≤ 35184372088832
 case neg => rw [if_neg c3] at H;exact absurd H (by simp)
 rw [if_pos c3] at H
 have c3b0 := eq_true c3
 have c3b1 : decide (((l0.length : Int) : Int).toNat ≤ 35184372088832) = true := decide_eq_true c3
 clear c3
 obtain ⟨y172,hy172⟩ : ∃ y_ : List Int,y_ = (List.replicate ((l0.length : Int) : Int).toNat 0) := ⟨_,rfl⟩
 replace H : (demand_order.l0 k y172 (y172.length : Int) 0 l0) = some r := by first | (rw [hy172];with_reducible exact H) | (have H2_ := (Option.bind_some _ _).symm.trans H;rw [hy172];with_reducible exact H2_) | (have H2_ := (Option.bind_some _ _).symm.trans H;with_reducible exact H2_) | with_reducible exact H | (rw [hy172];exact H) | exact H
 have Ny172 := Yd hy172
 clear hy172
 have H' := Yd H
 clear H
 go_enter Try.func24,Try.ntmps24
 go_wp2_with (first | ((with_reducible refine gate_dst (N := 1) rfl ?_);refine box_event ?hg (N := 1) ?hd (cs := #[.slice A0 l0.length c0]) (t := 22) ?hr ?_;(case hd => rfl);(case hg => rfl);(case hr => first | (go_simp;done) | (go_simp;rfl));intro gb171 hg w4 hbox hb;have n0_ := Yd (below_step (Y3 HB.out) hb);have n1_ := Yd (hbox);have n2_ := Yd ((by rw [hg];exact (below_size (Y3 HB.out)) : w.heap.size ≤ gb171));have n3_ := Yd ((by rw [hg];exact (below_size (Y3 HB.out)) : w.heap.size ≤ gb171));clear HB;have HB := n0_;have BK171 := n1_;have GW171 := n2_;have GE171 := n3_;clear n0_ n1_ n2_ n3_;clear hb hbox hg;have hcz5_0 : w4.cell? ⟨gb171,0,none⟩ = some (.slice A0 l0.length c0) := (blk_cell BK171.out 0).trans rfl;have hfz5_0 := blk_frozen BK171.out 0) | ((with_reducible refine gate_dst (N := 7) rfl ?_);refine Kd.R_make (Kd.int .i64) _ 3 rfl (N := 7) rfl 44 _ _ rfl (l0.length : Int) rfl rfl Try.underlying44 (.int .i64 0) 8 info3 rfl (by decide) (by omega) 0 (ok := fun _ => True) (okp := fun _ => True) rfl (fun _ hk => hk) trivial (Y9) (Nat.le_trans (Nat.mul_le_mul_right _ (Y9 : (l0.length : Int).toNat ≤ 35184372088832)) (by omega)) (Below.refl _ _) (Nat.le_refl _) ?_;intro v173 w6 ho7 hb hg_ hnew_;clear hg_ hnew_;(first | rw [← Ny172.out] at ho7 | (simp only [Int.reduceToNat] at ho7;rw [← Ny172.out] at ho7));have n0_ := Yd (Kd.R_lower ho7 (below_size (by first | exact Y4 HB.out GE171.out | exact Y3 HB.out)));have n1_ := Yd (blk_below (g := gb171) (o := .cells #[.slice A0 l0.length c0] 22 (0,0)) (Y6 BK171.out) hb);have n2_ := Yd (below_step (by first | exact Y4 HB.out GE171.out | exact Y3 HB.out) hb);clear BK171;clear HB;have HO174 := n0_;have BK171 := n1_;have HB := n2_;clear n0_ n1_ n2_;clear hb ho7;obtain ⟨Ao8,co8,eo8⟩ := Kd.R_slice HO174.out;subst eo8))
 go_loopg [10] k (fun kq v10 w' => ∃ (x3_1 : List Int) (x10_1 : Int),v10 = .int .i64 x10_1 ∧ Aside0 (demand_order.l0 kq x3_1 (y172.length : Int) x10_1 l0 = some r) ∧ Aside0 (kq ≤ k) ∧ Aside0 (Kd.R (Kd.int .i64) 3 w' w.heap.size (fun _ => True) (.slice Ao8 y172.length co8) x3_1) ∧ Aside0 (w'.heap[gb171]? = some (.cells #[(.slice A0 l0.length c0)] 22 (0,0))) ∧ Aside0 (Below w.heap.size w w'))
 case atStart => exact ⟨(y172),(0),Y12,H',⟨Nat.le_refl _⟩,⟨Y5 HO174.out⟩,⟨Y6 BK171.out⟩,⟨by repeat (first | (with_reducible first | exact HB.out | apply below_alloc | apply Y15 | apply below_drew1 | refine below_set ?_ GE171.out) | exact HB.out)⟩⟩
 case round =>
  clear H'
  try clear c2
  try clear c2b0
  try clear c2b1
  try clear p2
  try clear c3
  try clear c3b0
  try clear c3b1
  try clear hcz5_0
  try clear hfz5_0
  obtain ⟨x3_1,x10_1,rfl,HA,HK1,HO_3,BK171,HB⟩ := hrel
  have hl3_1 := (Kd.R_reads' HO_3.out).1
  rw [hl3_1] at HO_3
  (try simp only [hl3_1])
  (try simp only [hl3_1] at BK171)
  cases gk with
  | zero => exact absurd HA.out (by simp [demand_order.l0])
  | succ k1 =>
   have H := HA.out
   clear HA
   simp only [demand_order.l0] at H
   by_cases c9 : x10_1 < (y172.length : Int)
   ·rw [if_pos c9] at H
    have c9b0 : decide (x10_1 < (y172.length : Int)) = true := decide_eq_true c9
    (try simp only [hl3_1] at c9b0)
    clear c9
    by_cases c10 : 0 ≤ x10_1
    case neg => rw [if_neg c10] at H;exact absurd H (by simp)
    rw [if_pos c10] at H
    have c10b0 : decide (0 ≤ x10_1) = true := decide_eq_true c10
    clear c10
    by_cases c11 : x10_1 < (x3_1.length : Int)
    case neg => rw [if_neg c11] at H;exact absurd H (by simp)
    rw [if_pos c11] at H
    have c11b0 : decide (x10_1 < (x3_1.length : Int)) = true := decide_eq_true c11
    (try simp only [hl3_1] at c11b0)
    clear c11
    obtain ⟨y175,hy175⟩ : ∃ y_ : List Int,y_ = (x3_1.set (x10_1 : Int).toNat x10_1) := ⟨_,rfl⟩
    replace H : (demand_order.l0 k1 y175 (y172.length : Int) (wrap64 (x10_1 + 1)) l0) = some r := by first | (rw [hy175];with_reducible exact H) | (have H2_ := (Option.bind_some _ _).symm.trans H;rw [hy175];with_reducible exact H2_) | (have H2_ := (Option.bind_some _ _).symm.trans H;with_reducible exact H2_) | with_reducible exact H | (rw [hy175];exact H) | exact H
    have Ny175 := Yd hy175
    clear hy175
    have H' := Yd H
    clear H
    have p12 : 0 ≤ (x10_1 : Int) := Y9
    have q12 : (x10_1 : Int) < ((x3_1.length : Int) : Int) := Y9
    obtain ⟨go12,co12,eo12,gb12,gl12,cl12,HG12⟩ := Kd.R_form HO_3.out (by omega)
    (first | cases eo12 | (injection eo12 with ea_ en_ ec_;(first | subst ea_ | (injection ea_ with ea_;subst ea_));subst ec_;clear en_))
    have GB12 := Yd gb12
    have GG12 := Yd HG12
    clear gb12 gl12 HG12
    obtain ⟨hx12_0,hf12_0⟩ := Kd.R_celln 0 HO_3.out (x10_1 : Int) p12 q12
    replace p12 := eq_true p12
    replace q12 := eq_true q12
    have HP13 := Kd.R_putg HO_3.out (x10_1 : Int) x10_1
    go_wp2_with (first | ((with_reducible refine gate_store (t := 3) (p := 16) rfl ?_);refine store_event (t := 3) (p := 16) (v := ?vo_w14) (w1 := (wr.setCell ⟨go12,(x10_1 : Int).toNat,none⟩ (.int .i64 x10_1))) ?hg ?ho ?hn ?hr ?_;(case ho => rfl);(case hg => rfl);(case hn => rfl);(case hr => first | (go_simp;done) | (go_simp;rfl));intro w14 hw;have hg : wr.grownBy w14 (some go12) := (by rw [hw];exact HP13.2);have hp_ : Kd.R (Kd.int .i64) 3 w14 w.heap.size (fun _ => True) (.slice (some ⟨go12,0,none⟩) x3_1.length co8) y175 := (by rw [hw,Ny175.out];exact HP13.1);clear HP13;have n0_ := Yd (hp_);have n1_ := Yd (blk_grown (g := gb171) (o := .cells #[.slice A0 l0.length c0] 22 (0,0)) (Y6 BK171.out) hg (Kd.R_ne HO_3.out BK171.out (by decide)));have n2_ := Yd ((by rw [hw];exact below_set (HB.out) GB12.out : Below w.heap.size w w14));clear HO_3;clear BK171;clear HB;have HO_3 := n0_;have BK171 := n1_;have HB := n2_;clear n0_ n1_ n2_;clear hg hw hp_))
    (try simp only [← hl3_1])
    go_roundg k1
    case measure => have := HK1.out;omega
    case rel => exact ⟨(y175),(wrap64 (x10_1 + 1)),Y12,H',⟨by have := HK1.out;omega⟩,⟨by (try simp only [hl3_1]);(with_reducible repeat (first | apply Kd.R_alloc | apply Kd.R_drewN | apply Kd.R_drew));exact HO_3.out⟩,⟨by (try simp only [hl3_1]);(with_reducible repeat (first | refine blk_drewN ?_ _ | refine blk_drew ?_ | refine blk_alloc ?_ _));exact BK171.out⟩,⟨by repeat (first | (with_reducible first | exact HB.out | apply below_alloc | apply Y15 | apply below_drew1 | refine below_set ?_ GE171.out) | exact HB.out)⟩⟩
   ·rw [if_neg c9] at H
    have c9b0 : decide (x10_1 < (y172.length : Int)) = false := decide_eq_false c9
    (try simp only [hl3_1] at c9b0)
    clear c9
    replace H := Option.bind_eq_some_iff.mp H
    obtain ⟨t176,A150,H⟩ := H
    replace H : (some t176) = some r := H
    have A15 := Yd A150
    clear A150
    obtain rfl := Option.some.inj H
    go_wp2_with (first | ((with_reducible refine gate_callee (f := 39) rfl ?_);refine goesL_ (some 20) rfl rfl Try.func39 (by kernel_rfl) rfl #[.slice Ao8 x3_1.length co8,.func (.func 40) #[] #[.pointer (some ⟨gb171,0,none⟩)]] rfl Y8 ?_;(with_reducible refine (slices_SortFunc_int_int__c40.calls (fun k_ => some k_ = (.slice Ao8 x3_1.length co8 : Value).ownBlock) (.slice Ao8 x3_1.length co8) x3_1 gb171 A0 c0 l0 t176 w _ ?side1 ?side2 ?side3 ?side4 ?side5 ?side6 A15.out).mono ?_);(case side1 => repeat (first | (with_reducible first | exact HB.out | apply below_alloc | apply Y15 | apply below_drew1 | refine below_set ?_ GE171.out) | exact HB.out));(case side2 => exact Kd.R_tight rfl HO_3.out);(case side3 => exact Kd.C_kept_came k43_heap HR0.out (by first | exact Y4 HB.out GE171.out | exact Y3 HB.out) (fun k_ hs_ => (fun e_ => Kd.R_base HO_3.out k_ e_.symm) hs_));(case side4 => exact HC0.out);(case side5 => exact (Y6 BK171.out));(case side6 => exact fun hs_ => (fun e_ => (Kd.R_ne HO_3.out BK171.out (by decide)) e_) hs_);rintro e w16 ⟨rfl,hy0,hb,hkp⟩;refine ⟨_,rfl,?_⟩;have n0_ := Yd (Kd.R_reok rfl hy0 (fun k_ e_ => HO_3.out.1 k_ e_));have n1_ := Yd (blk_kept (Y6 BK171.out) hkp (fun hs_ => (fun e_ => (Kd.R_ne HO_3.out BK171.out (by decide)) e_) hs_));have n2_ := Yd (hb);clear HO_3;clear BK171;clear HB;have HO_3 := n0_;have BK171 := n1_;have HB := n2_;clear n0_ n1_ n2_;(try clear hb);(try clear hkp);(try clear hy0)))
    go_ret
    exact ⟨_,by first | rfl | (simp [errW_none,errW_some] <;> rfl) | (simp [*,errW_none,errW_some] <;> rfl),by (with_reducible repeat (first | apply Kd.R_alloc | apply Kd.R_drewN | apply Kd.R_drew));exact HO_3.out,by repeat (first | (with_reducible first | exact HB.out | apply below_alloc | apply Y15 | apply below_drew1 | refine below_set ?_ GE171.out) | exact HB.out)⟩
def demand_power.l0 : Nat → List (S51) → Int → List (S43) → Int → Int → Option (Int)
 | 0,_,_,_,_,_ => none
 | k + 1,x1,x5,x8,x9,x10 => if x10 < x9 then (if 0 ≤ x10 then (if x10 < (x8.length : Int) then (if x10 < (x1.length : Int) then (if ((rd_T51 x1 x10).f0 = true) then (demand_power.l0 k x1 x5 x8 x9 (wrap64 (x10 + 1))) else (demand_power.l0 k x1 (wrap64 (x5 + ((rd_T43 x8 x10).f2))) x8 x9 (wrap64 (x10 + 1)))) else (none)) else (none)) else (none)) else (some x5)
def demand_power.f (k : Nat) (l0 : List (S43)) (l1 : List (S51)) : Option (Int) := demand_power.l0 k l1 0 l0 (l0.length : Int) 0
theorem demand_power.mono_l : ∀ k,(∀ y0 y1 y2 y3 y4,LeO (demand_power.l0 k y0 y1 y2 y3 y4) (demand_power.l0 (k + 1) y0 y1 y2 y3 y4))
 | 0 => fun _ _ _ _ _ r h => by simp [demand_power.l0] at h
 | k + 1 => by
  have ih0 := demand_power.mono_l k
  ·intro y0 y1 y2 y3 y4
   unfold demand_power.l0
   repeat' first
   | (with_reducible exact ih0 _ _ _ _ _)
   | (with_reducible exact LeO.refl _)
   | (with_reducible exact LeO.none _)
   | (with_reducible refine LeO.ite ?_ ?_)
   | (with_reducible refine LeO.bind ?_ (fun _ => ?_))
   | exact ih0 _ _ _ _ _
   | exact LeO.none _
   | refine LeO.ite ?_ ?_
   | refine LeO.bind ?_ (fun _ => ?_)
theorem demand_power.mono : ∀ a0 a1 k,LeO (demand_power.f k a0 a1) (demand_power.f (k + 1) a0 a1) := by
 intro a0 a1 k
 have ih0 := demand_power.mono_l k
 unfold demand_power.f
 repeat' first
   | (with_reducible exact ih0 _ _ _ _ _)
   | (with_reducible exact LeO.refl _)
   | (with_reducible exact LeO.none _)
   | (with_reducible refine LeO.ite ?_ ?_)
   | (with_reducible refine LeO.bind ?_ (fun _ => ?_))
   | exact ih0 _ _ _ _ _
   | exact LeO.none _
   | refine LeO.ite ?_ ?_
   | refine LeO.bind ?_ (fun _ => ?_)
set_option maxHeartbeats 100000000 in
set_option maxRecDepth 100000 in
theorem demand_power.calls (k : Nat) (A0 : Option Addr) (c0 : Nat) (l0 : List (S43)) (A1 : Option Addr) (c1 : Nat) (l1 : List (S51)) (r : Int) (w : World) (hr0 : Kd.C k43 w A0 l0.length l0) (hc0 : l0.length ≤ c0) (hr1 : Kd.C k51 w A1 l1.length l1) (hc1 : l1.length ≤ c1) (h : demand_power.f k l0 l1 = some r) :
  Calls Try.prog 25 #[.slice A0 l0.length c0,.slice A1 l1.length c1] w fun e w' => e = .returned (.int .i64 r) ∧ Below w.heap.size w w' := by
 have hu43 := Try.underlying43
 have HR0 := Yd hr0
 have HC0 := Yd hc0
 clear hr0 hc0
 have HR1 := Yd hr1
 have HC1 := Yd hc1
 clear hr1 hc1
 have HB := Yd (Below.refl w.heap.size w)
 have H : (demand_power.l0 k l1 0 l0 (l0.length : Int) 0) = some r := h
 clear h
 have H' := Yd H
 clear H
 go_enter Try.func25,Try.ntmps25
 go_wp2
 go_loopg [5,10] k (fun kq v5 v10 w' => ∃ (x5_1 : Int) (x10_1 : Int),v5 = .int .i64 x5_1 ∧ v10 = .int .i64 x10_1 ∧ Aside0 (demand_power.l0 kq l1 x5_1 l0 (l0.length : Int) x10_1 = some r) ∧ Aside0 (kq ≤ k) ∧ Aside0 (Below w.heap.size w w'))
 case atStart => exact ⟨(0),(0),Y12,Y12,H',⟨Nat.le_refl _⟩,⟨Y3 HB.out⟩⟩
 case round =>
  clear H'
  try clear c1
  try clear c2
  try clear p2
  obtain ⟨x5_1,x10_1,rfl,rfl,HA,HK1,HB⟩ := hrel
  cases gk with
  | zero => exact absurd HA.out (by simp [demand_power.l0])
  | succ k1 =>
   have H := HA.out
   clear HA
   simp only [demand_power.l0] at H
   by_cases c3 : x10_1 < (l0.length : Int)
   ·rw [if_pos c3] at H
    have c3b0 : decide (x10_1 < (l0.length : Int)) = true := decide_eq_true c3
    clear c3
    by_cases c4 : 0 ≤ x10_1
    case neg => rw [if_neg c4] at H;exact absurd H (by simp)
    rw [if_pos c4] at H
    have c4b0 : decide (0 ≤ x10_1) = true := decide_eq_true c4
    clear c4
    by_cases c5 : x10_1 < (l0.length : Int)
    case neg => rw [if_neg c5] at H;exact absurd H (by simp)
    rw [if_pos c5] at H
    have c5b0 : decide (x10_1 < (l0.length : Int)) = true := decide_eq_true c5
    clear c5
    by_cases c6 : x10_1 < (l1.length : Int)
    case neg => rw [if_neg c6] at H;exact absurd H (by simp)
    rw [if_pos c6] at H
    have c6b0 : decide (x10_1 < (l1.length : Int)) = true := decide_eq_true c6
    clear c6
    obtain ⟨bq7,hbq7⟩ : ∃ b_ : Bool,b_ = ((rd_T51 l1 x10_1).f0) := ⟨_,rfl⟩
    replace H : (if (bq7 = true) then (demand_power.l0 k1 l1 x5_1 l0 (l0.length : Int) (wrap64 (x10_1 + 1))) else (demand_power.l0 k1 l1 (wrap64 (x5_1 + ((rd_T43 l0 x10_1).f2))) l0 (l0.length : Int) (wrap64 (x10_1 + 1)))) = some r := by rw [← hbq7] at H;exact H
    have Nbq7 := Yd hbq7
    clear hbq7
    (try rw [← Nbq7.out])
    by_cases c8 : (bq7 = true)
    ·subst c8
     have H1 : (demand_power.l0 k1 l1 x5_1 l0 (l0.length : Int) (wrap64 (x10_1 + 1))) = some r := by rw [if_pos rfl] at H;exact H
     clear H
     have H := H1
     clear H1
     have H' := Yd H
     clear H
     have p177 : 0 ≤ (x10_1 : Int) := Y9
     have q177 : x10_1 < (l0.length : Int) := Y9
     obtain ⟨ad177,e177,hx177_0,hx177_1,hx177_2,hx177_3,hx177_4⟩ := at_T43 HR0.out x10_1 p177 q177
     cases e177
     replace hx177_0 := Y10 HB.out hx177_0
     replace hx177_1 := Y10 HB.out hx177_1
     replace hx177_2 := Y10 HB.out hx177_2
     replace hx177_3 := Y10 HB.out hx177_3
     replace hx177_4 := Y10 HB.out hx177_4
     replace p177 := eq_true p177
     replace q177 := eq_true q177
     go_wp2_with (first | ((with_reducible refine gate_dst (N := 7) rfl ?_);refine box_event ?hg (N := 7) ?hd (cs := #[.string (⟨#[]⟩ : ByteArray),.int .i64 0,.int .i64 0,.int .i64 0,.int .i64 0]) (t := 43) ?hr ?_;(case hd => rfl);(case hg => rfl);(case hr => first | (go_simp;done) | (go_simp;rfl));intro gb178 hg w9 hbox hb;have n0_ := Yd (below_step (Y3 HB.out) hb);have n1_ := Yd (hbox);have n2_ := Yd ((by rw [hg];exact (below_size (Y3 HB.out)) : w.heap.size ≤ gb178));have n3_ := Yd ((by rw [hg];exact (below_size (Y3 HB.out)) : w.heap.size ≤ gb178));clear HB;have HB := n0_;have BK178 := n1_;have GW178 := n2_;have GE178 := n3_;clear n0_ n1_ n2_ n3_;clear hb hbox hg;have hcz10_0 : w9.cell? ⟨gb178,0,none⟩ = some (.string (⟨#[]⟩ : ByteArray)) := (blk_cell BK178.out 0).trans rfl;have hcz10_1 : w9.cell? ⟨gb178,1,none⟩ = some (.int .i64 0) := (blk_cell BK178.out 1).trans rfl;have hcz10_2 : w9.cell? ⟨gb178,2,none⟩ = some (.int .i64 0) := (blk_cell BK178.out 2).trans rfl;have hcz10_3 : w9.cell? ⟨gb178,3,none⟩ = some (.int .i64 0) := (blk_cell BK178.out 3).trans rfl;have hcz10_4 : w9.cell? ⟨gb178,4,none⟩ = some (.int .i64 0) := (blk_cell BK178.out 4).trans rfl;have hfz10_0 := blk_frozen BK178.out 0;have hfz10_1 := blk_frozen BK178.out 1;have hfz10_2 := blk_frozen BK178.out 2;have hfz10_3 := blk_frozen BK178.out 3;have hfz10_4 := blk_frozen BK178.out 4;have p179 : 0 ≤ (x10_1 : Int) := Y9;have q179 : x10_1 < (l1.length : Int) := Y9;obtain ⟨ad179,e179,hx179_0,hx179_1⟩ := at_T51 HR1.out x10_1 p179 q179;(try rw [← Nbq7.out] at hx179_0);(try rw [← Nbq7.out] at hw179_0);cases e179;have hn179_0 : ad179.block ≠ gb178 := Y1 (Y2 hx179_0 GW178.out);have hn179_1 : ad179.block ≠ gb178 := Y1 (Y2 hx179_0 GW178.out);have hn179_2 : ad179.block ≠ gb178 := Y1 (Y2 hx179_0 GW178.out);have hn179_3 : ad179.block ≠ gb178 := Y1 (Y2 hx179_0 GW178.out);have hn179_4 : ad179.block ≠ gb178 := Y1 (Y2 hx179_0 GW178.out);replace hx179_0 := Y10 HB.out hx179_0;replace hx179_1 := Y10 HB.out hx179_1;replace hx179_0 := (cell_far (p := ⟨gb178,0,none⟩) (by first | (rw [add_block];exact hn179_0) | (show (Addr.add _ _).block ≠ _;rw [add_block];exact hn179_0) | exact hn179_0) (.string ((rd_T43 l0 x10_1).f0))).trans hx179_0;replace hx179_1 := (cell_far (p := ⟨gb178,0,none⟩) (by first | (rw [add_block];exact hn179_0) | (show (Addr.add _ _).block ≠ _;rw [add_block];exact hn179_0) | exact hn179_0) (.string ((rd_T43 l0 x10_1).f0))).trans hx179_1;replace hx179_0 := (cell_far (p := ⟨gb178,1,none⟩) (by first | (rw [add_block];exact hn179_1) | (show (Addr.add _ _).block ≠ _;rw [add_block];exact hn179_1) | exact hn179_1) (.int .i64 ((rd_T43 l0 x10_1).f1))).trans hx179_0;replace hx179_1 := (cell_far (p := ⟨gb178,1,none⟩) (by first | (rw [add_block];exact hn179_1) | (show (Addr.add _ _).block ≠ _;rw [add_block];exact hn179_1) | exact hn179_1) (.int .i64 ((rd_T43 l0 x10_1).f1))).trans hx179_1;replace hx179_0 := (cell_far (p := ⟨gb178,2,none⟩) (by first | (rw [add_block];exact hn179_2) | (show (Addr.add _ _).block ≠ _;rw [add_block];exact hn179_2) | exact hn179_2) (.int .i64 ((rd_T43 l0 x10_1).f2))).trans hx179_0;replace hx179_1 := (cell_far (p := ⟨gb178,2,none⟩) (by first | (rw [add_block];exact hn179_2) | (show (Addr.add _ _).block ≠ _;rw [add_block];exact hn179_2) | exact hn179_2) (.int .i64 ((rd_T43 l0 x10_1).f2))).trans hx179_1;replace hx179_0 := (cell_far (p := ⟨gb178,3,none⟩) (by first | (rw [add_block];exact hn179_3) | (show (Addr.add _ _).block ≠ _;rw [add_block];exact hn179_3) | exact hn179_3) (.int .i64 ((rd_T43 l0 x10_1).f3))).trans hx179_0;replace hx179_1 := (cell_far (p := ⟨gb178,3,none⟩) (by first | (rw [add_block];exact hn179_3) | (show (Addr.add _ _).block ≠ _;rw [add_block];exact hn179_3) | exact hn179_3) (.int .i64 ((rd_T43 l0 x10_1).f3))).trans hx179_1;replace hx179_0 := (cell_far (p := ⟨gb178,4,none⟩) (by first | (rw [add_block];exact hn179_4) | (show (Addr.add _ _).block ≠ _;rw [add_block];exact hn179_4) | exact hn179_4) (.int .i64 ((rd_T43 l0 x10_1).f4))).trans hx179_0;replace hx179_1 := (cell_far (p := ⟨gb178,4,none⟩) (by first | (rw [add_block];exact hn179_4) | (show (Addr.add _ _).block ≠ _;rw [add_block];exact hn179_4) | exact hn179_4) (.int .i64 ((rd_T43 l0 x10_1).f4))).trans hx179_1;clear hn179_0;clear hn179_1;clear hn179_2;clear hn179_3;clear hn179_4;replace p179 := eq_true p179;replace q179 := eq_true q179))
     go_roundg k1
     case measure => have := HK1.out;omega
     case rel => (try rw [← Nbq7.out]);exact ⟨(x5_1),(wrap64 (x10_1 + 1)),Y12,Y12,H',⟨by have := HK1.out;omega⟩,⟨by repeat (first | (with_reducible first | exact HB.out | apply below_alloc | apply Y15 | apply below_drew1 | refine below_set ?_ GE178.out) | exact HB.out)⟩⟩
    ·replace c8 := Bool.eq_false_iff.mpr c8
     subst c8
     have H1 : (demand_power.l0 k1 l1 (wrap64 (x5_1 + ((rd_T43 l0 x10_1).f2))) l0 (l0.length : Int) (wrap64 (x10_1 + 1))) = some r := by rw [if_neg (show ¬ (false = true) by decide)] at H;exact H
     clear H
     have H := H1
     clear H1
     have H' := Yd H
     clear H
     have p177 : 0 ≤ (x10_1 : Int) := Y9
     have q177 : x10_1 < (l0.length : Int) := Y9
     obtain ⟨ad177,e177,hx177_0,hx177_1,hx177_2,hx177_3,hx177_4⟩ := at_T43 HR0.out x10_1 p177 q177
     cases e177
     replace hx177_0 := Y10 HB.out hx177_0
     replace hx177_1 := Y10 HB.out hx177_1
     replace hx177_2 := Y10 HB.out hx177_2
     replace hx177_3 := Y10 HB.out hx177_3
     replace hx177_4 := Y10 HB.out hx177_4
     replace p177 := eq_true p177
     replace q177 := eq_true q177
     go_wp2_with (first | ((with_reducible refine gate_dst (N := 7) rfl ?_);refine box_event ?hg (N := 7) ?hd (cs := #[.string (⟨#[]⟩ : ByteArray),.int .i64 0,.int .i64 0,.int .i64 0,.int .i64 0]) (t := 43) ?hr ?_;(case hd => rfl);(case hg => rfl);(case hr => first | (go_simp;done) | (go_simp;rfl));intro gb178 hg w11 hbox hb;have n0_ := Yd (below_step (Y3 HB.out) hb);have n1_ := Yd (hbox);have n2_ := Yd ((by rw [hg];exact (below_size (Y3 HB.out)) : w.heap.size ≤ gb178));have n3_ := Yd ((by rw [hg];exact (below_size (Y3 HB.out)) : w.heap.size ≤ gb178));clear HB;have HB := n0_;have BK178 := n1_;have GW178 := n2_;have GE178 := n3_;clear n0_ n1_ n2_ n3_;clear hb hbox hg;have hcz12_0 : w11.cell? ⟨gb178,0,none⟩ = some (.string (⟨#[]⟩ : ByteArray)) := (blk_cell BK178.out 0).trans rfl;have hcz12_1 : w11.cell? ⟨gb178,1,none⟩ = some (.int .i64 0) := (blk_cell BK178.out 1).trans rfl;have hcz12_2 : w11.cell? ⟨gb178,2,none⟩ = some (.int .i64 0) := (blk_cell BK178.out 2).trans rfl;have hcz12_3 : w11.cell? ⟨gb178,3,none⟩ = some (.int .i64 0) := (blk_cell BK178.out 3).trans rfl;have hcz12_4 : w11.cell? ⟨gb178,4,none⟩ = some (.int .i64 0) := (blk_cell BK178.out 4).trans rfl;have hfz12_0 := blk_frozen BK178.out 0;have hfz12_1 := blk_frozen BK178.out 1;have hfz12_2 := blk_frozen BK178.out 2;have hfz12_3 := blk_frozen BK178.out 3;have hfz12_4 := blk_frozen BK178.out 4;have p179 : 0 ≤ (x10_1 : Int) := Y9;have q179 : x10_1 < (l1.length : Int) := Y9;obtain ⟨ad179,e179,hx179_0,hx179_1⟩ := at_T51 HR1.out x10_1 p179 q179;(try rw [← Nbq7.out] at hx179_0);(try rw [← Nbq7.out] at hw179_0);cases e179;have hn179_0 : ad179.block ≠ gb178 := Y1 (Y2 hx179_0 GW178.out);have hn179_1 : ad179.block ≠ gb178 := Y1 (Y2 hx179_0 GW178.out);have hn179_2 : ad179.block ≠ gb178 := Y1 (Y2 hx179_0 GW178.out);have hn179_3 : ad179.block ≠ gb178 := Y1 (Y2 hx179_0 GW178.out);have hn179_4 : ad179.block ≠ gb178 := Y1 (Y2 hx179_0 GW178.out);replace hx179_0 := Y10 HB.out hx179_0;replace hx179_1 := Y10 HB.out hx179_1;replace hx179_0 := (cell_far (p := ⟨gb178,0,none⟩) (by first | (rw [add_block];exact hn179_0) | (show (Addr.add _ _).block ≠ _;rw [add_block];exact hn179_0) | exact hn179_0) (.string ((rd_T43 l0 x10_1).f0))).trans hx179_0;replace hx179_1 := (cell_far (p := ⟨gb178,0,none⟩) (by first | (rw [add_block];exact hn179_0) | (show (Addr.add _ _).block ≠ _;rw [add_block];exact hn179_0) | exact hn179_0) (.string ((rd_T43 l0 x10_1).f0))).trans hx179_1;replace hx179_0 := (cell_far (p := ⟨gb178,1,none⟩) (by first | (rw [add_block];exact hn179_1) | (show (Addr.add _ _).block ≠ _;rw [add_block];exact hn179_1) | exact hn179_1) (.int .i64 ((rd_T43 l0 x10_1).f1))).trans hx179_0;replace hx179_1 := (cell_far (p := ⟨gb178,1,none⟩) (by first | (rw [add_block];exact hn179_1) | (show (Addr.add _ _).block ≠ _;rw [add_block];exact hn179_1) | exact hn179_1) (.int .i64 ((rd_T43 l0 x10_1).f1))).trans hx179_1;replace hx179_0 := (cell_far (p := ⟨gb178,2,none⟩) (by first | (rw [add_block];exact hn179_2) | (show (Addr.add _ _).block ≠ _;rw [add_block];exact hn179_2) | exact hn179_2) (.int .i64 ((rd_T43 l0 x10_1).f2))).trans hx179_0;replace hx179_1 := (cell_far (p := ⟨gb178,2,none⟩) (by first | (rw [add_block];exact hn179_2) | (show (Addr.add _ _).block ≠ _;rw [add_block];exact hn179_2) | exact hn179_2) (.int .i64 ((rd_T43 l0 x10_1).f2))).trans hx179_1;replace hx179_0 := (cell_far (p := ⟨gb178,3,none⟩) (by first | (rw [add_block];exact hn179_3) | (show (Addr.add _ _).block ≠ _;rw [add_block];exact hn179_3) | exact hn179_3) (.int .i64 ((rd_T43 l0 x10_1).f3))).trans hx179_0;replace hx179_1 := (cell_far (p := ⟨gb178,3,none⟩) (by first | (rw [add_block];exact hn179_3) | (show (Addr.add _ _).block ≠ _;rw [add_block];exact hn179_3) | exact hn179_3) (.int .i64 ((rd_T43 l0 x10_1).f3))).trans hx179_1;replace hx179_0 := (cell_far (p := ⟨gb178,4,none⟩) (by first | (rw [add_block];exact hn179_4) | (show (Addr.add _ _).block ≠ _;rw [add_block];exact hn179_4) | exact hn179_4) (.int .i64 ((rd_T43 l0 x10_1).f4))).trans hx179_0;replace hx179_1 := (cell_far (p := ⟨gb178,4,none⟩) (by first | (rw [add_block];exact hn179_4) | (show (Addr.add _ _).block ≠ _;rw [add_block];exact hn179_4) | exact hn179_4) (.int .i64 ((rd_T43 l0 x10_1).f4))).trans hx179_1;clear hn179_0;clear hn179_1;clear hn179_2;clear hn179_3;clear hn179_4;replace p179 := eq_true p179;replace q179 := eq_true q179))
     go_roundg k1
     case measure => have := HK1.out;omega
     case rel => (try rw [← Nbq7.out]);exact ⟨(wrap64 (x5_1 + ((rd_T43 l0 x10_1).f2))),(wrap64 (x10_1 + 1)),Y12,Y12,H',⟨by have := HK1.out;omega⟩,⟨by repeat (first | (with_reducible first | exact HB.out | apply below_alloc | apply Y15 | apply below_drew1 | refine below_set ?_ GE178.out) | exact HB.out)⟩⟩
   ·rw [if_neg c3] at H
    have c3b0 : decide (x10_1 < (l0.length : Int)) = false := decide_eq_false c3
    clear c3
    obtain rfl := Option.some.inj H
    go_wp2
    go_ret
    exact ⟨by first | rfl | (simp [errW_none,errW_some] <;> rfl) | (simp [*,errW_none,errW_some] <;> rfl),Y3 HB.out⟩
def slices_Reverse_int_int.l0 : Nat → List Int → Int → Int → Option (List Int)
 | 0,_,_,_ => none
 | k + 1,x0,x2,x3 => if x2 < x3 then (if 0 ≤ x3 then (if x3 < (x0.length : Int) then (if 0 ≤ x2 then (if x2 < (x0.length : Int) then (slices_Reverse_int_int.l0 k ((x0.set (x2 : Int).toNat (rd x0 x3)).set (x3 : Int).toNat (rd x0 x2)) (wrap64 (x2 + 1)) (wrap64 (x3 - 1))) else (none)) else (none)) else (none)) else (none)) else (some x0)
def slices_Reverse_int_int.f (k : Nat) (l0 : List Int) : Option (List Int) := slices_Reverse_int_int.l0 k l0 0 (wrap64 ((l0.length : Int) - 1))
theorem slices_Reverse_int_int.mono_l : ∀ k,(∀ y0 y1 y2,LeO (slices_Reverse_int_int.l0 k y0 y1 y2) (slices_Reverse_int_int.l0 (k + 1) y0 y1 y2))
 | 0 => fun _ _ _ r h => by simp [slices_Reverse_int_int.l0] at h
 | k + 1 => by
  have ih0 := slices_Reverse_int_int.mono_l k
  ·intro y0 y1 y2
   unfold slices_Reverse_int_int.l0
   repeat' first
   | (with_reducible exact ih0 _ _ _)
   | (with_reducible exact LeO.refl _)
   | (with_reducible exact LeO.none _)
   | (with_reducible refine LeO.ite ?_ ?_)
   | (with_reducible refine LeO.bind ?_ (fun _ => ?_))
   | exact ih0 _ _ _
   | exact LeO.none _
   | refine LeO.ite ?_ ?_
   | refine LeO.bind ?_ (fun _ => ?_)
theorem slices_Reverse_int_int.mono : ∀ a0 k,LeO (slices_Reverse_int_int.f k a0) (slices_Reverse_int_int.f (k + 1) a0) := by
 intro a0 k
 have ih0 := slices_Reverse_int_int.mono_l k
 unfold slices_Reverse_int_int.f
 repeat' first
   | (with_reducible exact ih0 _ _ _)
   | (with_reducible exact LeO.refl _)
   | (with_reducible exact LeO.none _)
   | (with_reducible refine LeO.ite ?_ ?_)
   | (with_reducible refine LeO.bind ?_ (fun _ => ?_))
   | exact ih0 _ _ _
   | exact LeO.none _
   | refine LeO.ite ?_ ?_
   | refine LeO.bind ?_ (fun _ => ?_)
def slices_Reverse_int_int.T3 : Bool × List (List Nat × List Nat) := (true,[([],[]),([],[]),([],[]),([],[]),([],[]),([],[]),([4,5],[4,5]),([6],[6]),([],[]),([],[]),([8,9],[8,9]),([10],[10]),([0,1,0,1,4,5,6,7,11],[0,1]),([12,7,0,1,4,5,6,7,11],[7,12]),([2,3,0,1,2,3,4,5,6,7,8,9,10,11,12,13],[2,3]),([14,11,13,0,1,2,3,4,5,6,7,8,9,10,11,12,13],[11,14])])
def slices_Reverse_int_int.B3 : List Nat := [0,0,0,0,0,0,48,112,0,0,768,1792,4083,8179,16383,32767]
theorem slices_Reverse_int_int.tab3 : rtab .any (opsOf Try.f26 3) = slices_Reverse_int_int.T3 := by kernel_rfl
theorem slices_Reverse_int_int.bits3 : waitsOk slices_Reverse_int_int.T3.2 slices_Reverse_int_int.B3 = true := by kernel_rfl
set_option maxHeartbeats 100000000 in
set_option maxRecDepth 100000 in
theorem slices_Reverse_int_int.calls (k : Nat) (P0_ : Nat → Prop) (u9000_ : Value) (l0 : List Int) (r : List Int) (w0 w : World) (hB : Below w0.heap.size w0 w) (ho0 : Kd.R (Kd.int .i64) 3 w w0.heap.size P0_ u9000_ l0) (h : slices_Reverse_int_int.f k l0 = some r) :
  Calls Try.prog 26 #[u9000_] w fun e w' => e = .returned (.tuple #[]) ∧ Kd.R (Kd.int .i64) 3 w' w0.heap.size (fun k_ => (P0_ k_ ∨ w.heap.size ≤ k_)) u9000_ r ∧ Below w0.heap.size w0 w' ∧ Kept w w' (fun k_ => P0_ k_) := by
 have HO0 := Yd (show Kd.R (Kd.int .i64) 3 w w0.heap.size (fun k_ => (P0_ k_ ∨ w.heap.size ≤ k_)) u9000_ l0 from Kd.R_mono ho0 (fun k_ hk => (.inl hk)))
 have HK := Yd (Kept.refl w (fun k_ => P0_ k_))
 have HW0 := Yd hB.size
 have HB := Yd hB
 clear hB
 have H : (slices_Reverse_int_int.l0 k l0 0 (wrap64 ((l0.length : Int) - 1))) = some r := h
 clear h
 have H' := Yd H
 clear H
 obtain ⟨Ao2,co2,eo2⟩ := Kd.R_slice HO0.out
 subst eo2
 go_enter Try.func26,Try.ntmps26
 go_wp2
 go_loopg [2,3] k (fun kq v2 v3 w' => ∃ (x0_1 : List Int) (x2_1 : Int) (x3_1 : Int),v2 = .int .i64 x2_1 ∧ v3 = .int .i64 x3_1 ∧ Aside0 (slices_Reverse_int_int.l0 kq x0_1 x2_1 x3_1 = some r) ∧ Aside0 (kq ≤ k) ∧ Aside0 (Kd.R (Kd.int .i64) 3 w' w0.heap.size (fun k_ => (P0_ k_ ∨ w.heap.size ≤ k_)) (.slice Ao2 l0.length co2) x0_1) ∧ Aside0 (Kept w w' (fun k_ => P0_ k_)) ∧ Aside0 (Below w0.heap.size w0 w'))
 case atStart => exact ⟨(l0),(0),(wrap64 ((l0.length : Int) - 1)),Y12,Y12,H',⟨Nat.le_refl _⟩,⟨Y5 HO0.out⟩,⟨by repeat (first | (with_reducible first | exact HK.out | apply Kept.alloc | apply Kept.drewN | apply Kept.drew) | exact HK.out)⟩,⟨Y3 HB.out⟩⟩
 case round =>
  clear H'
  try clear c2
  try clear p2
  obtain ⟨x0_1,x2_1,x3_1,rfl,rfl,HA,HK1,HO_0,HK,HB⟩ := hrel
  have hl0_1 := (Kd.R_reads' HO_0.out).1
  rw [hl0_1] at HO_0
  (try simp only [hl0_1])
  cases gk with
  | zero => exact absurd HA.out (by simp [slices_Reverse_int_int.l0])
  | succ k1 =>
   have H := HA.out
   clear HA
   simp only [slices_Reverse_int_int.l0] at H
   by_cases c3 : x2_1 < x3_1
   ·rw [if_pos c3] at H
    have c3b0 : decide (x2_1 < x3_1) = true := decide_eq_true c3
    clear c3
    by_cases c4 : 0 ≤ x3_1
    case neg => rw [if_neg c4] at H;exact absurd H (by simp)
    rw [if_pos c4] at H
    have c4b0 : decide (0 ≤ x3_1) = true := decide_eq_true c4
    clear c4
    by_cases c5 : x3_1 < (x0_1.length : Int)
    case neg => rw [if_neg c5] at H;exact absurd H (by simp)
    rw [if_pos c5] at H
    have c5b0 : decide (x3_1 < (x0_1.length : Int)) = true := decide_eq_true c5
    (try simp only [hl0_1] at c5b0)
    clear c5
    by_cases c6 : 0 ≤ x2_1
    case neg => rw [if_neg c6] at H;exact absurd H (by simp)
    rw [if_pos c6] at H
    have c6b0 : decide (0 ≤ x2_1) = true := decide_eq_true c6
    clear c6
    by_cases c7 : x2_1 < (x0_1.length : Int)
    case neg => rw [if_neg c7] at H;exact absurd H (by simp)
    rw [if_pos c7] at H
    have c7b0 : decide (x2_1 < (x0_1.length : Int)) = true := decide_eq_true c7
    (try simp only [hl0_1] at c7b0)
    clear c7
    obtain ⟨y182,hy182⟩ : ∃ y_ : List Int,y_ = (x0_1.set (x2_1 : Int).toNat (rd x0_1 x3_1)) := ⟨_,rfl⟩
    replace H : (slices_Reverse_int_int.l0 k1 (y182.set (x3_1 : Int).toNat (rd x0_1 x2_1)) (wrap64 (x2_1 + 1)) (wrap64 (x3_1 - 1))) = some r := by first | (rw [hy182];with_reducible exact H) | (have H2_ := (Option.bind_some _ _).symm.trans H;rw [hy182];with_reducible exact H2_) | (have H2_ := (Option.bind_some _ _).symm.trans H;with_reducible exact H2_) | with_reducible exact H | (rw [hy182];exact H) | exact H
    have Ny182 := Yd hy182
    clear hy182
    obtain ⟨y183,hy183⟩ : ∃ y_ : List Int,y_ = (y182.set (x3_1 : Int).toNat (rd x0_1 x2_1)) := ⟨_,rfl⟩
    replace H : (slices_Reverse_int_int.l0 k1 y183 (wrap64 (x2_1 + 1)) (wrap64 (x3_1 - 1))) = some r := by first | (rw [hy183];with_reducible exact H) | (have H2_ := (Option.bind_some _ _).symm.trans H;rw [hy183];with_reducible exact H2_) | (have H2_ := (Option.bind_some _ _).symm.trans H;with_reducible exact H2_) | with_reducible exact H | (rw [hy183];exact H) | exact H
    have Ny183 := Yd hy183
    clear hy183
    have H' := Yd H
    clear H
    try go_wp2
    have n0_ := Yd (Kd.R_drew HO_0.out)
    have n1_ := Yd (Kept.drew HK.out)
    have n2_ := Yd (below_drew1 HB.out)
    clear HO_0
    clear HK
    clear HB
    have HO_0 := n0_
    have HK := n1_
    have HB := n2_
    clear n0_ n1_ n2_
    have p180 : 0 ≤ (x3_1 : Int) := Y9
    have q180 : x3_1 < (x0_1.length : Int) := Y9
    obtain ⟨ad180,e180,hx180_0⟩ := Kd.at_int (Kd.R_reads' HO_0.out).2.2 x3_1 p180 q180
    cases e180
    replace p180 := eq_true p180
    replace q180 := eq_true q180
    have p181 : 0 ≤ (x2_1 : Int) := Y9
    have q181 : x2_1 < (x0_1.length : Int) := Y9
    obtain ⟨ad181,e181,hx181_0⟩ := Kd.at_int (Kd.R_reads' HO_0.out).2.2 x2_1 p181 q181
    obtain rfl : ad180 = ad181 := (by injection e181)
    replace p181 := eq_true p181
    replace q181 := eq_true q181
    have p8 : 0 ≤ (x2_1 : Int) := Y9
    have q8 : (x2_1 : Int) < ((x0_1.length : Int) : Int) := Y9
    obtain ⟨go8,co8,eo8,gb8,gl8,cl8,HG8⟩ := Kd.R_form HO_0.out (by omega)
    (first | cases eo8 | (injection eo8 with ea_ en_ ec_;(first | subst ea_ | (injection ea_ with ea_;subst ea_));subst ec_;clear en_))
    have GB8 := Yd gb8
    have GG8 := Yd HG8
    clear gb8 gl8 HG8
    have HMgo8 := Yd (show (P0_ go8 ∨ w.heap.size ≤ go8) from (HO_0.out.1 _ rfl))
    (first | simp only [add_plain] at hx180_0 | skip)
    (first | simp only [add_plain] at hx181_0 | skip)
    obtain ⟨hx8_0,hf8_0⟩ := Kd.R_celln 0 HO_0.out (x2_1 : Int) p8 q8
    replace p8 := eq_true p8
    replace q8 := eq_true q8
    have HP11 := Kd.R_putn HO_0.out (x2_1 : Int) (rd x0_1 x3_1)
    rw [← Ny182.out] at HP11
    have HQ11 := Yd HP11
    clear HP11
    have p9 : 0 ≤ (x3_1 : Int) := Y9
    have q9 : (x3_1 : Int) < ((x0_1.length : Int) : Int) := Y9
    obtain ⟨hx9_0,hf9_0⟩ := Kd.R_celln 0 HQ11.out (x3_1 : Int) p9 q9
    replace p9 := eq_true p9
    replace q9 := eq_true q9
    have HP12 := Kd.R_putn HQ11.out (x3_1 : Int) (rd x0_1 x2_1)
    rw [← Ny183.out] at HP12
    have HQ12 := Yd HP12
    clear HP12
    refine start_ (n := 16) (S := fun w' => w'.cell? ⟨go8,(x3_1).toNat,none⟩ = some (.int .i64 (rd x0_1 x3_1)) ∧ w'.cell? ⟨go8,(x2_1).toNat,none⟩ = some (.int .i64 (rd x0_1 x2_1))) (ds := [13,15]) #[YF,YF,YF,YF,YF,YF,YF,YF,YF,YF,YF,YF,YF,YF,YF,YF] (by kernel_rfl) rfl rfl ⟨hx180_0,hx181_0⟩ (fun hHeld => ?_);refine with_tabW slices_Reverse_int_int.tab3 slices_Reverse_int_int.bits3 (fun HT_ HW_ => ?_)
    generalize wr.drew = w10 at HO_0 HK HB GG8 HQ11 HQ12 hf8_0 hf9_0 hx180_0 hx181_0 hx8_0 hx9_0 hHeld ⊢
    refine pure_ (i := 0) (N := some 14) (v := ?_) (a' := ?_) #[YT,YF,YF,YF,YF,YF,YF,YF,YF,YF,YF,YF,YF,YF,YF,YF] rfl rfl (any_of HT_.out (by kernel_rfl)) (fun _ _ _ h => h) (Or.inl ⟨by rfl,?_⟩) ?_ ?_
    rotate_left
    ·intro w'
     go_simp
     with_reducible rfl
    rotate_left
    ·simp only [Act.put,Ya,Yb,Yc,i64_w,i32_w]
     rfl
    refine pure_ (i := 1) (N := some 15) (v := ?_) (a' := ?_) #[YT,YT,YF,YF,YF,YF,YF,YF,YF,YF,YF,YF,YF,YF,YF,YF] rfl rfl (any_of HT_.out (by kernel_rfl)) (fun _ _ _ h => h) (Or.inl ⟨by rfl,?_⟩) ?_ ?_
    rotate_left
    ·intro w'
     go_simp
     with_reducible rfl
    rotate_left
    ·simp only [Act.put,Ya,Yb,Yc,i64_w,i32_w]
     rfl
    refine pure_ (i := 2) (N := some 16) (v := ?_) (a' := ?_) #[YT,YT,YT,YF,YF,YF,YF,YF,YF,YF,YF,YF,YF,YF,YF,YF] rfl rfl (any_of HT_.out (by kernel_rfl)) (fun _ _ _ h => h) (Or.inl ⟨by rfl,?_⟩) ?_ ?_
    rotate_left
    ·intro w'
     go_simp
     with_reducible rfl
    rotate_left
    ·simp only [Act.put,Ya,Yb,Yc,i64_w,i32_w]
     rfl
    refine pure_ (i := 3) (N := some 17) (v := ?_) (a' := ?_) #[YT,YT,YT,YT,YF,YF,YF,YF,YF,YF,YF,YF,YF,YF,YF,YF] rfl rfl (any_of HT_.out (by kernel_rfl)) (fun _ _ _ h => h) (Or.inl ⟨by rfl,?_⟩) ?_ ?_
    rotate_left
    ·intro w'
     go_simp
     with_reducible rfl
    rotate_left
    ·simp only [Act.put,Ya,Yb,Yc,i64_w,i32_w]
     rfl
    refine pure_ (i := 4) (N := some 18) (v := ?_) (a' := ?_) #[YT,YT,YT,YT,YT,YF,YF,YF,YF,YF,YF,YF,YF,YF,YF,YF] rfl rfl (any_of HT_.out (by kernel_rfl)) (fun _ _ _ h => h) (Or.inl ⟨by rfl,?_⟩) ?_ ?_
    rotate_left
    ·intro w'
     go_simp
     with_reducible rfl
    rotate_left
    ·simp only [Act.put,Ya,Yb,Yc,i64_w,i32_w]
     rfl
    refine pure_ (i := 5) (N := some 19) (v := ?_) (a' := ?_) #[YT,YT,YT,YT,YT,YT,YF,YF,YF,YF,YF,YF,YF,YF,YF,YF] rfl rfl (any_of HT_.out (by kernel_rfl)) (fun _ _ _ h => h) (Or.inl ⟨by rfl,?_⟩) ?_ ?_
    rotate_left
    ·intro w'
     go_simp
     with_reducible rfl
    rotate_left
    ·simp only [Act.put,Ya,Yb,Yc,i64_w,i32_w]
     rfl
    refine pure_ (i := 6) (N := some 20) (v := ?_) (a' := ?_) #[YT,YT,YT,YT,YT,YT,YT,YF,YF,YF,YF,YF,YF,YF,YF,YF] rfl rfl (any_of HT_.out (by kernel_rfl)) (fun _ _ _ h => h) (Or.inl ⟨by rfl,?_⟩) ?_ ?_
    rotate_left
    ·intro w'
     go_simp
     with_reducible rfl
    rotate_left
    ·simp only [Act.put,Ya,Yb,Yc,i64_w,i32_w]
     rfl
    refine pure_ (i := 8) (N := some 22) (v := ?_) (a' := ?_) #[YT,YT,YT,YT,YT,YT,YT,YF,YT,YF,YF,YF,YF,YF,YF,YF] rfl rfl (any_of HT_.out (by kernel_rfl)) (fun _ _ _ h => h) (Or.inl ⟨by rfl,?_⟩) ?_ ?_
    rotate_left
    ·intro w'
     go_simp
     with_reducible rfl
    rotate_left
    ·simp only [Act.put,Ya,Yb,Yc,i64_w,i32_w]
     rfl
    refine pure_ (i := 9) (N := some 23) (v := ?_) (a' := ?_) #[YT,YT,YT,YT,YT,YT,YT,YF,YT,YT,YF,YF,YF,YF,YF,YF] rfl rfl (any_of HT_.out (by kernel_rfl)) (fun _ _ _ h => h) (Or.inl ⟨by rfl,?_⟩) ?_ ?_
    rotate_left
    ·intro w'
     go_simp
     with_reducible rfl
    rotate_left
    ·simp only [Act.put,Ya,Yb,Yc,i64_w,i32_w]
     rfl
    refine pure_ (i := 10) (N := some 24) (v := ?_) (a' := ?_) #[YT,YT,YT,YT,YT,YT,YT,YF,YT,YT,YT,YF,YF,YF,YF,YF] rfl rfl (any_of HT_.out (by kernel_rfl)) (fun _ _ _ h => h) (Or.inl ⟨by rfl,?_⟩) ?_ ?_
    rotate_left
    ·intro w'
     go_simp
     with_reducible rfl
    rotate_left
    ·simp only [Act.put,Ya,Yb,Yc,i64_w,i32_w]
     rfl
    refine take_ (i := 7) (N := some 21) (v := ?_) (a' := ?_) #[YT,YT,YT,YT,YT,YT,YT,YT,YT,YT,YT,YF,YF,YF,YF,YF] rfl rfl (take_ofW HT_.out HW_.out (by kernel_rfl)) (fun _ _ _ h => h) (Or.inl ⟨by rfl,?_⟩) hHeld ?_ ?_
    rotate_left
    ·rintro w' ⟨s0,s1⟩
     go_simp
     with_reducible rfl
    rotate_left
    ·simp only [Act.put,Ya,Yb,Yc,i64_w,i32_w]
     rfl
    refine take_ (i := 11) (N := some 25) (v := ?_) (a' := ?_) #[YT,YT,YT,YT,YT,YT,YT,YT,YT,YT,YT,YT,YF,YF,YF,YF] rfl rfl (take_ofW HT_.out HW_.out (by kernel_rfl)) (fun _ _ _ h => h) (Or.inl ⟨by rfl,?_⟩) hHeld ?_ ?_
    rotate_left
    ·rintro w' ⟨s0,s1⟩
     go_simp
     with_reducible rfl
    rotate_left
    ·simp only [Act.put,Ya,Yb,Yc,i64_w,i32_w]
     rfl
    refine pure_ (i := 12) (N := some 26) (v := ?_) (a' := ?_) #[YT,YT,YT,YT,YT,YT,YT,YT,YT,YT,YT,YT,YT,YF,YF,YF] rfl rfl (any_of HT_.out (by kernel_rfl)) (fun _ _ _ h => h) (Or.inl ⟨by rfl,?_⟩) ?_ ?_
    rotate_left
    ·intro w'
     go_simp
     with_reducible rfl
    rotate_left
    ·simp only [Act.put,Ya,Yb,Yc,i64_w,i32_w]
     rfl
    refine last_ (i := 13) (N := none) #[YT,YT,YT,YT,YT,YT,YT,YT,YT,YT,YT,YT,YT,YT,YF,YF] rfl rfl (one_of HT_.out (by kernel_rfl)) (by decide) (fun K hK => ?_)
    refine skip_ (w1 := ?_) (by rfl) rfl ?_ ?_
    rotate_left
    ·go_simp
     rfl
    refine hK.out _ _ ?_
    clear hK K
    refine pure_ (i := 14) (N := some 27) (v := ?_) (a' := ?_) #[YT,YT,YT,YT,YT,YT,YT,YT,YT,YT,YT,YT,YT,YT,YT,YF] rfl rfl (any_of HT_.out (by kernel_rfl)) (fun _ _ _ h => h) (Or.inl ⟨by rfl,?_⟩) ?_ ?_
    rotate_left
    ·intro w'
     go_simp
     with_reducible rfl
    rotate_left
    ·simp only [Act.put,Ya,Yb,Yc,i64_w,i32_w]
     rfl
    refine last_ (i := 15) (N := none) #[YT,YT,YT,YT,YT,YT,YT,YT,YT,YT,YT,YT,YT,YT,YT,YT] rfl rfl (one_of HT_.out (by kernel_rfl)) (by decide) (fun K hK => ?_)
    refine skip_ (w1 := ?_) (by rfl) rfl ?_ ?_
    rotate_left
    ·go_simp
     rfl
    refine hK.out _ _ ?_
    clear hK K
    refine done_ (done_of HT_.out (by kernel_rfl)) ?_
    try go_wp2
    (try simp only [← hl0_1])
    go_roundg k1
    case measure => have := HK1.out;omega
    case rel => exact ⟨(y183),(wrap64 (x2_1 + 1)),(wrap64 (x3_1 - 1)),Y12,Y12,H',⟨by have := HK1.out;omega⟩,⟨by (try simp only [hl0_1]);(with_reducible repeat (first | apply Kd.R_alloc | apply Kd.R_drewN | apply Kd.R_drew));exact HQ12.out⟩,⟨by repeat (first | (with_reducible first | exact HK.out | apply Kept.alloc | apply Kept.drewN | apply Kept.drew | refine Kept.setCell ?_ HMgo8.out _ | refine Kept.setCell ?_ HMgo8.out _) | exact HK.out)⟩,⟨by repeat (first | (with_reducible first | exact HB.out | apply below_alloc | apply Y15 | apply below_drew1 | refine below_set ?_ GB8.out | refine below_set ?_ GB8.out) | exact HB.out)⟩⟩
   ·rw [if_neg c3] at H
    have c3b0 : decide (x2_1 < x3_1) = false := decide_eq_false c3
    clear c3
    obtain rfl := Option.some.inj H
    go_wp2
    first | go_end0 | ((try simp only [Exit.inBlock,Exit.then]);refine bodyPost_ret (results_none rfl _ _ _) rfl ?_)
    exact ⟨by first | rfl | (simp [errW_none,errW_some] <;> rfl) | (simp [*,errW_none,errW_some] <;> rfl),(by first | exact (Y5 HO_0.out) | (simp only [hl0_1];exact (Y5 HO_0.out))),by repeat (first | (with_reducible first | exact HB.out | apply below_alloc | apply Y15 | apply below_drew1) | exact HB.out),by repeat (first | (with_reducible first | exact HK.out | apply Kept.alloc | apply Kept.drewN | apply Kept.drew) | exact HK.out)⟩
end Go.Proofs.Ytcdjhdfjkfbgdaa.PD56
namespace Go.Proofs.Ytcdjhdfjkfbgdaa.PD56
open Go.RowKit Go.Proofs.YtcdjhdfjkfbgdaaW.PrintWords Go.Proofs.YtcdjhdfjkfbgdaaW.PrintLast Go.Proofs.YtcdjhdfjkfbgdaaW.PrintMore
def demand_State_23.f (l0 : List S51) : Option (List S51) := if l0.length < 8796093022208 then some l0 else none
set_option maxHeartbeats 8000000 in
set_option maxRecDepth 100000 in
theorem demand_State_23.calls (A0 : Option Addr) (c0 : Nat) (l0 : List S51) (r : List S51) (w : World) (hr0 : Kd.C k51 w A0 l0.length l0) (hc0 : l0.length ≤ c0) (h : demand_State_23.f l0 = some r) :
  Calls Try.prog 23 #[.slice A0 l0.length c0] w fun e w' => ∃ v0_ : Value, e = .returned (v0_) ∧ Kd.R k51 51 w' w.heap.size (fun _ => True) v0_ r ∧ Below w.heap.size w w' := by
 have hue := Try.underlying51
 have hus := Try.underlying25
 unfold demand_State_23.f at h
 split at h
 ·rename_i hl
  rw [Option.some.injEq] at h
  subst h
  have LM := Aside0.mk hl
  clear hl
  have hq : ∀ (w : World) (a : Option Addr) (n c n' c' : Nat), (binOp .eql 25 (.slice a n c) (.slice none n' c')).run Try.prog w = .ok (.bool a.isNone) w := fun w a n c n' c' => Go.Lib.run_eql_slice_nil w _ _ a n c n' c' Try.underlying25
  cases A0 with
  | none =>
   have hl0 : l0 = [] := by
    rcases Nat.eq_zero_or_pos l0.length with h0 | h0
    ·exact List.length_eq_zero_iff.1 h0
    ·obtain ⟨ad, ha, _⟩ := hr0.2.2 h0
     exact absurd ha (by simp)
   subst hl0
   clear hr0
   go_enter Try.func23, Try.ntmps23
   go_wp2
   go_ret
   exact ⟨_, rfl, Kd.R_nil _ _ _ _ _, Below.refl _ _⟩
  | some a =>
   have HR0 := Aside0.mk hr0
   clear hr0
   have HB := Aside0.mk (Below.refl w.heap.size w)
   go_enter Try.func23, Try.ntmps23
   go_wp2_with (first | ((with_reducible refine gate_dst (N := 5) rfl ?_); refine Kd.R_lit k51 _ 51 ?hg (N := 5) ?hd (xs := ([] : List S51)) (inner := []) (ok := fun _ => True) (okp := fun _ => True) ?hr ?hp (fun _ hk => hk) trivial (Below.refl _ _) (Nat.le_refl _) (by simp) ?_; (case hd => rfl); (case hg => rfl); (case hr => first | (go_simp; done) | (go_simp; rfl)); (case hp => exact (Reps.none _ _)); intro v309 w10 ho11 hb hg_ hnew_; clear hg_ hnew_; have n0_ := Aside0.mk (Kd.R_lower ho11 (below_size HB.out)); have n1_ := Aside0.mk (below_step HB.out hb); clear HB; have HO310 := n0_; have HB := n1_; clear n0_ n1_; clear hb ho11) | ((with_reducible refine gate_builtin (b := .append) (xs := #[.tmp 5, .tmp 6]) rfl ?_); at_builtin; refine Kd.R_append_rows k51 (w0 := w) w.heap.size rfl (.tmp 5) (.tmp 6) 25 51 (.agg #[(.bool false), (.int .i64 0)]) 16 rfl Try.underlying25 info51 rfl (by decide) (by omega) v309 ([] : List S51) l0 _ _ _ (fun _ => True) (fun _ => False) rfl rfl ?aO ?aR (fun _ _ h => h) (fun _ h => h.elim) ?aF ?aB ?aS ?aL ?_; (case aR => exact (Kd.C_below HR0.out HB.out)); (case aB => exact HB.out); (case aF => exact (fun _ _ => trivial)); (case aO => exact HO310.out); (case aS => exact (below_size HB.out)); (case aL => have := LM.out; simp only [List.length_nil]; omega); intro v312 w12 ho hb hg hat; have n0_ := Aside0.mk (hb); have n1_ := Aside0.mk (ho); clear HB; clear HO310; have HB := n0_; have HO313 := n1_; clear n0_ n1_; clear ho hb hg hat))
   go_ret
   refine ⟨_, rfl, ?_, HB.out⟩
   have := HO313.out
   rw [List.nil_append] at this
   exact this
 ·exact absurd h (by simp)
end Go.Proofs.Ytcdjhdfjkfbgdaa.PD56
namespace Go.Proofs.Ytcdjhdfjkfbgdaa.PD56
open Go.RowKit Go.Proofs.YtcdjhdfjkfbgdaaW.PrintWords Go.Proofs.YtcdjhdfjkfbgdaaW.PrintLast Go.Proofs.YtcdjhdfjkfbgdaaW.PrintMore
attribute [local go_sem] max2_int min2_int max_two min_two max_three min_three max_four min_four
mutual
def demand_Step.l0 : Nat → List (S43) → List (S51) → Int → Int → List (S51) → Int → List Int → Int → Int → Option ((List (S51)) × Int)
 | 0,_,_,_,_,_,_,_,_,_ => none
 | k + 1,x0,x1,x3,x4,x13,x15,x46,x47,x48 => if x48 < x47 then (if 0 ≤ x48 then (if x48 < (x46.length : Int) then (if 0 ≤ (rd x46 x48) then (if (rd x46 x48) < (x0.length : Int) then (if (rd x46 x48) < (x1.length : Int) then (if x15 > x3 then (if ((rd_T51 x1 (rd x46 x48)).f0 = true) then (demand_Step.j1 k x0 x1 x3 x4 x13 x15 (rd x46 x48) x46 x47 x48 false ((rd_T43 x0 (rd x46 x48)).f0) ((rd_T43 x0 (rd x46 x48)).f1) ((rd_T43 x0 (rd x46 x48)).f2) ((rd_T43 x0 (rd x46 x48)).f3) ((rd_T43 x0 (rd x46 x48)).f4)) else (demand_Step.j1 k x0 x1 x3 x4 x13 x15 (rd x46 x48) x46 x47 x48 (decide ((wrap64 (x4 - ((rd_T51 x1 (rd x46 x48)).f1))) ≥ ((rd_T43 x0 (rd x46 x48)).f3))) ((rd_T43 x0 (rd x46 x48)).f0) ((rd_T43 x0 (rd x46 x48)).f1) ((rd_T43 x0 (rd x46 x48)).f2) ((rd_T43 x0 (rd x46 x48)).f3) ((rd_T43 x0 (rd x46 x48)).f4))) else (demand_Step.j1 k x0 x1 x3 x4 x13 x15 (rd x46 x48) x46 x47 x48 false ((rd_T43 x0 (rd x46 x48)).f0) ((rd_T43 x0 (rd x46 x48)).f1) ((rd_T43 x0 (rd x46 x48)).f2) ((rd_T43 x0 (rd x46 x48)).f3) ((rd_T43 x0 (rd x46 x48)).f4))) else (none)) else (none)) else (none)) else (none)) else (none)) else (some (x13,0))
def demand_Step.j1 : Nat → List (S43) → List (S51) → Int → Int → List (S51) → Int → Int → List Int → Int → Int → Bool → ByteArray → Int → Int → Int → Int → Option ((List (S51)) × Int)
 | 0,_,_,_,_,_,_,_,_,_,_,_,_,_,_,_,_ => none
 | k + 1,x0,x1,x3,x4,x13,x15,x17,x46,x47,x48,x76,x199000,x199001,x199002,x199003,x199004 => if x76 = true then (if 0 ≤ x17 then (if x17 < (x13.length : Int) then (demand_Step.l0 k x0 x1 x3 x4 (x13.set (x17 : Int).toNat (⟨true,x4⟩ : S51)) (wrap64 (x15 - x199002)) x46 x47 (wrap64 (x48 + 1))) else (none)) else (none)) else (demand_Step.l0 k x0 x1 x3 x4 x13 x15 x46 x47 (wrap64 (x48 + 1)))
def demand_Step.l1 : Nat → List (S43) → List (S51) → Int → Int → List (S51) → Int → List Int → Int → Int → Option ((List (S51)) × Int)
 | 0,_,_,_,_,_,_,_,_,_ => none
 | k + 1,x0,x1,x3,x4,x13,x15,x90,x91,x92 => if x92 < x91 then (if 0 ≤ x92 then (if x92 < (x90.length : Int) then (if 0 ≤ (rd x90 x92) then (if (rd x90 x92) < (x0.length : Int) then (if (rd x90 x92) < (x1.length : Int) then (if (rd_T51 x1 (rd x90 x92)).f0 = true then (if (wrap64 (x4 - ((rd_T51 x1 (rd x90 x92)).f1))) ≥ ((rd_T43 x0 (rd x90 x92)).f4) then (demand_Step.j3 k x0 x1 x3 x4 x13 x15 (rd x90 x92) x90 x91 x92 (decide ((wrap64 (x15 + ((rd_T43 x0 (rd x90 x92)).f2))) ≤ x3)) ((rd_T43 x0 (rd x90 x92)).f0) ((rd_T43 x0 (rd x90 x92)).f1) ((rd_T43 x0 (rd x90 x92)).f2) ((rd_T43 x0 (rd x90 x92)).f3) ((rd_T43 x0 (rd x90 x92)).f4)) else (demand_Step.j3 k x0 x1 x3 x4 x13 x15 (rd x90 x92) x90 x91 x92 false ((rd_T43 x0 (rd x90 x92)).f0) ((rd_T43 x0 (rd x90 x92)).f1) ((rd_T43 x0 (rd x90 x92)).f2) ((rd_T43 x0 (rd x90 x92)).f3) ((rd_T43 x0 (rd x90 x92)).f4))) else (demand_Step.j3 k x0 x1 x3 x4 x13 x15 (rd x90 x92) x90 x91 x92 false ((rd_T43 x0 (rd x90 x92)).f0) ((rd_T43 x0 (rd x90 x92)).f1) ((rd_T43 x0 (rd x90 x92)).f2) ((rd_T43 x0 (rd x90 x92)).f3) ((rd_T43 x0 (rd x90 x92)).f4))) else (none)) else (none)) else (none)) else (none)) else (none)) else (some (x13,0))
def demand_Step.j3 : Nat → List (S43) → List (S51) → Int → Int → List (S51) → Int → Int → List Int → Int → Int → Bool → ByteArray → Int → Int → Int → Int → Option ((List (S51)) × Int)
 | 0,_,_,_,_,_,_,_,_,_,_,_,_,_,_,_,_ => none
 | k + 1,x0,x1,x3,x4,x13,x15,x21,x90,x91,x92,x122,x206000,x206001,x206002,x206003,x206004 => if x122 = true then (if 0 ≤ x21 then (if x21 < (x13.length : Int) then (demand_Step.l1 k x0 x1 x3 x4 (x13.set (x21 : Int).toNat (⟨false,x4⟩ : S51)) (wrap64 (x15 + x206002)) x90 x91 (wrap64 (x92 + 1))) else (none)) else (none)) else (demand_Step.l1 k x0 x1 x3 x4 x13 x15 x90 x91 (wrap64 (x92 + 1)))
end
def demand_Step.f (k : Nat) (l0 : List (S43)) (l1 : List (S51)) (a2 : Int) (a3 : Int) (a4 : Int) : Option ((List (S51)) × Int) := (demand_check.f k l0 l1 a4 (([a2,a3] : List Int))).bind fun t187 => (if t187 = 0 then ((demand_State_23.f l1).bind fun t188 => ((demand_order.f k l0).bind fun t191 => ((demand_power.f k l0 l1).bind fun t194 => (if (wrap64 (a2 + t194)) > a3 then (demand_Step.l0 k l0 l1 a3 a4 t188 (wrap64 (a2 + t194)) t191 (t191.length : Int) 0) else ((slices_Reverse_int_int.f k t191).bind fun t201 => (demand_Step.l1 k l0 l1 a3 a4 t188 (wrap64 (a2 + t194)) t201 (t191.length : Int) 0)))))) else (some (([] : List (S51)),t187)))
theorem demand_Step.mono_l : ∀ k,(∀ y0 y1 y2 y3 y4 y5 y6 y7 y8,LeO (demand_Step.l0 k y0 y1 y2 y3 y4 y5 y6 y7 y8) (demand_Step.l0 (k + 1) y0 y1 y2 y3 y4 y5 y6 y7 y8)) ∧ (∀ y0 y1 y2 y3 y4 y5 y6 y7 y8 y9 y10 y11 y12 y13 y14 y15,LeO (demand_Step.j1 k y0 y1 y2 y3 y4 y5 y6 y7 y8 y9 y10 y11 y12 y13 y14 y15) (demand_Step.j1 (k + 1) y0 y1 y2 y3 y4 y5 y6 y7 y8 y9 y10 y11 y12 y13 y14 y15)) ∧ (∀ y0 y1 y2 y3 y4 y5 y6 y7 y8,LeO (demand_Step.l1 k y0 y1 y2 y3 y4 y5 y6 y7 y8) (demand_Step.l1 (k + 1) y0 y1 y2 y3 y4 y5 y6 y7 y8)) ∧ (∀ y0 y1 y2 y3 y4 y5 y6 y7 y8 y9 y10 y11 y12 y13 y14 y15,LeO (demand_Step.j3 k y0 y1 y2 y3 y4 y5 y6 y7 y8 y9 y10 y11 y12 y13 y14 y15) (demand_Step.j3 (k + 1) y0 y1 y2 y3 y4 y5 y6 y7 y8 y9 y10 y11 y12 y13 y14 y15))
 | 0 => ⟨fun _ _ _ _ _ _ _ _ _ r h => by simp [demand_Step.l0] at h,fun _ _ _ _ _ _ _ _ _ _ _ _ _ _ _ _ r h => by simp [demand_Step.j1] at h,fun _ _ _ _ _ _ _ _ _ r h => by simp [demand_Step.l1] at h,fun _ _ _ _ _ _ _ _ _ _ _ _ _ _ _ _ r h => by simp [demand_Step.j3] at h⟩
 | k + 1 => by
  obtain ⟨ih0,ih1,ih2,ih3⟩ := demand_Step.mono_l k
  refine ⟨?_,?_,?_,?_⟩
  ·intro y0 y1 y2 y3 y4 y5 y6 y7 y8
   unfold demand_Step.l0
   repeat' first
   | (with_reducible exact ih0 _ _ _ _ _ _ _ _ _)
   | (with_reducible exact ih1 _ _ _ _ _ _ _ _ _ _ _ _ _ _ _ _)
   | (with_reducible exact ih2 _ _ _ _ _ _ _ _ _)
   | (with_reducible exact ih3 _ _ _ _ _ _ _ _ _ _ _ _ _ _ _ _)
   | (with_reducible exact demand_check.mono _ _ _ _ _)
   | (with_reducible exact demand_order.mono _ _)
   | (with_reducible exact demand_power.mono _ _ _)
   | (with_reducible exact slices_Reverse_int_int.mono _ _)
   | (with_reducible exact LeO.refl _)
   | (with_reducible exact LeO.none _)
   | (with_reducible refine LeO.ite ?_ ?_)
   | (with_reducible refine LeO.bind ?_ (fun _ => ?_))
   | exact ih0 _ _ _ _ _ _ _ _ _
   | exact ih1 _ _ _ _ _ _ _ _ _ _ _ _ _ _ _ _
   | exact ih2 _ _ _ _ _ _ _ _ _
   | exact ih3 _ _ _ _ _ _ _ _ _ _ _ _ _ _ _ _
   | exact demand_check.mono _ _ _ _ _
   | exact demand_order.mono _ _
   | exact demand_power.mono _ _ _
   | exact slices_Reverse_int_int.mono _ _
   | exact LeO.none _
   | refine LeO.ite ?_ ?_
   | refine LeO.bind ?_ (fun _ => ?_)
  ·intro y0 y1 y2 y3 y4 y5 y6 y7 y8 y9 y10 y11 y12 y13 y14 y15
   unfold demand_Step.j1
   repeat' first
   | (with_reducible exact ih0 _ _ _ _ _ _ _ _ _)
   | (with_reducible exact ih1 _ _ _ _ _ _ _ _ _ _ _ _ _ _ _ _)
   | (with_reducible exact ih2 _ _ _ _ _ _ _ _ _)
   | (with_reducible exact ih3 _ _ _ _ _ _ _ _ _ _ _ _ _ _ _ _)
   | (with_reducible exact demand_check.mono _ _ _ _ _)
   | (with_reducible exact demand_order.mono _ _)
   | (with_reducible exact demand_power.mono _ _ _)
   | (with_reducible exact slices_Reverse_int_int.mono _ _)
   | (with_reducible exact LeO.refl _)
   | (with_reducible exact LeO.none _)
   | (with_reducible refine LeO.ite ?_ ?_)
   | (with_reducible refine LeO.bind ?_ (fun _ => ?_))
   | exact ih0 _ _ _ _ _ _ _ _ _
   | exact ih1 _ _ _ _ _ _ _ _ _ _ _ _ _ _ _ _
   | exact ih2 _ _ _ _ _ _ _ _ _
   | exact ih3 _ _ _ _ _ _ _ _ _ _ _ _ _ _ _ _
   | exact demand_check.mono _ _ _ _ _
   | exact demand_order.mono _ _
   | exact demand_power.mono _ _ _
   | exact slices_Reverse_int_int.mono _ _
   | exact LeO.none _
   | refine LeO.ite ?_ ?_
   | refine LeO.bind ?_ (fun _ => ?_)
  ·intro y0 y1 y2 y3 y4 y5 y6 y7 y8
   unfold demand_Step.l1
   repeat' first
   | (with_reducible exact ih0 _ _ _ _ _ _ _ _ _)
   | (with_reducible exact ih1 _ _ _ _ _ _ _ _ _ _ _ _ _ _ _ _)
   | (with_reducible exact ih2 _ _ _ _ _ _ _ _ _)
   | (with_reducible exact ih3 _ _ _ _ _ _ _ _ _ _ _ _ _ _ _ _)
   | (with_reducible exact demand_check.mono _ _ _ _ _)
   | (with_reducible exact demand_order.mono _ _)
   | (with_reducible exact demand_power.mono _ _ _)
   | (with_reducible exact slices_Reverse_int_int.mono _ _)
   | (with_reducible exact LeO.refl _)
   | (with_reducible exact LeO.none _)
   | (with_reducible refine LeO.ite ?_ ?_)
   | (with_reducible refine LeO.bind ?_ (fun _ => ?_))
   | exact ih0 _ _ _ _ _ _ _ _ _
   | exact ih1 _ _ _ _ _ _ _ _ _ _ _ _ _ _ _ _
   | exact ih2 _ _ _ _ _ _ _ _ _
   | exact ih3 _ _ _ _ _ _ _ _ _ _ _ _ _ _ _ _
   | exact demand_check.mono _ _ _ _ _
   | exact demand_order.mono _ _
   | exact demand_power.mono _ _ _
   | exact slices_Reverse_int_int.mono _ _
   | exact LeO.none _
   | refine LeO.ite ?_ ?_
   | refine LeO.bind ?_ (fun _ => ?_)
  ·intro y0 y1 y2 y3 y4 y5 y6 y7 y8 y9 y10 y11 y12 y13 y14 y15
   unfold demand_Step.j3
   repeat' first
   | (with_reducible exact ih0 _ _ _ _ _ _ _ _ _)
   | (with_reducible exact ih1 _ _ _ _ _ _ _ _ _ _ _ _ _ _ _ _)
   | (with_reducible exact ih2 _ _ _ _ _ _ _ _ _)
   | (with_reducible exact ih3 _ _ _ _ _ _ _ _ _ _ _ _ _ _ _ _)
   | (with_reducible exact demand_check.mono _ _ _ _ _)
   | (with_reducible exact demand_order.mono _ _)
   | (with_reducible exact demand_power.mono _ _ _)
   | (with_reducible exact slices_Reverse_int_int.mono _ _)
   | (with_reducible exact LeO.refl _)
   | (with_reducible exact LeO.none _)
   | (with_reducible refine LeO.ite ?_ ?_)
   | (with_reducible refine LeO.bind ?_ (fun _ => ?_))
   | exact ih0 _ _ _ _ _ _ _ _ _
   | exact ih1 _ _ _ _ _ _ _ _ _ _ _ _ _ _ _ _
   | exact ih2 _ _ _ _ _ _ _ _ _
   | exact ih3 _ _ _ _ _ _ _ _ _ _ _ _ _ _ _ _
   | exact demand_check.mono _ _ _ _ _
   | exact demand_order.mono _ _
   | exact demand_power.mono _ _ _
   | exact slices_Reverse_int_int.mono _ _
   | exact LeO.none _
   | refine LeO.ite ?_ ?_
   | refine LeO.bind ?_ (fun _ => ?_)
theorem demand_Step.mono : ∀ a0 a1 a2 a3 a4 k,LeO (demand_Step.f k a0 a1 a2 a3 a4) (demand_Step.f (k + 1) a0 a1 a2 a3 a4) := by
 intro a0 a1 a2 a3 a4 k
 obtain ⟨ih0,ih1,ih2,ih3⟩ := demand_Step.mono_l k
 unfold demand_Step.f
 repeat' first
   | (with_reducible exact ih0 _ _ _ _ _ _ _ _ _)
   | (with_reducible exact ih1 _ _ _ _ _ _ _ _ _ _ _ _ _ _ _ _)
   | (with_reducible exact ih2 _ _ _ _ _ _ _ _ _)
   | (with_reducible exact ih3 _ _ _ _ _ _ _ _ _ _ _ _ _ _ _ _)
   | (with_reducible exact demand_check.mono _ _ _ _ _)
   | (with_reducible exact demand_order.mono _ _)
   | (with_reducible exact demand_power.mono _ _ _)
   | (with_reducible exact slices_Reverse_int_int.mono _ _)
   | (with_reducible exact LeO.refl _)
   | (with_reducible exact LeO.none _)
   | (with_reducible refine LeO.ite ?_ ?_)
   | (with_reducible refine LeO.bind ?_ (fun _ => ?_))
   | exact ih0 _ _ _ _ _ _ _ _ _
   | exact ih1 _ _ _ _ _ _ _ _ _ _ _ _ _ _ _ _
   | exact ih2 _ _ _ _ _ _ _ _ _
   | exact ih3 _ _ _ _ _ _ _ _ _ _ _ _ _ _ _ _
   | exact demand_check.mono _ _ _ _ _
   | exact demand_order.mono _ _
   | exact demand_power.mono _ _ _
   | exact slices_Reverse_int_int.mono _ _
   | exact LeO.none _
   | refine LeO.ite ?_ ?_
   | refine LeO.bind ?_ (fun _ => ?_)
def demand_Step.T11 : Bool × List (List Nat × List Nat) := (true,[([],[]),([],[]),([0,1],[0,1]),([2],[2]),([],[]),([],[]),([4,5],[4,5]),([6],[6]),([],[]),([],[]),([8,3,0,1,2,3,8,9],[3,8]),([9,7,10,0,1,2,3,4,5,6,7,8,9,10],[7,9])])
def demand_Step.B11 : List Nat := [0,0,3,7,0,0,48,112,0,0,783,2047]
theorem demand_Step.tab11 : rtab .any (opsOf Try.f5 11) = demand_Step.T11 := by kernel_rfl
theorem demand_Step.bits11 : waitsOk demand_Step.T11.2 demand_Step.B11 = true := by kernel_rfl
def demand_Step.T21 : Bool × List (List Nat × List Nat) := (true,[([],[]),([],[]),([0,1],[0,1]),([2],[2]),([],[]),([],[]),([4,5],[4,5]),([6],[6]),([],[]),([],[]),([8,3,0,1,2,3,8,9],[3,8]),([9,7,10,0,1,2,3,4,5,6,7,8,9,10],[7,9])])
def demand_Step.B21 : List Nat := [0,0,3,7,0,0,48,112,0,0,783,2047]
theorem demand_Step.tab21 : rtab .any (opsOf Try.f5 21) = demand_Step.T21 := by kernel_rfl
theorem demand_Step.bits21 : waitsOk demand_Step.T21.2 demand_Step.B21 = true := by kernel_rfl
set_option maxHeartbeats 100000000 in
set_option maxRecDepth 100000 in
theorem demand_Step.calls (k : Nat) (A0 : Option Addr) (c0 : Nat) (l0 : List (S43)) (A1 : Option Addr) (c1 : Nat) (l1 : List (S51)) (a2 : Int) (a3 : Int) (a4 : Int) (r1 : List (S51)) (r2 : Int) (w : World) (hr0 : Kd.C k43 w A0 l0.length l0) (hc0 : l0.length ≤ c0) (hr1 : Kd.C k51 w A1 l1.length l1) (hc1 : l1.length ≤ c1) (h : demand_Step.f k l0 l1 a2 a3 a4 = some (r1,r2)) :
  Calls Try.prog 5 #[.slice A0 l0.length c0,.slice A1 l1.length c1,.int .i64 a2,.int .i64 a3,.int .i64 a4] w fun e w' => ∃ v0_ : Value,e = .returned (.tuple #[v0_,.int .i64 r2]) ∧ Kd.R k51 51 w' w.heap.size (fun _ => True) v0_ r1 ∧ Below w.heap.size w w' := by
 have hu43 := Try.underlying43
 have hu51 := Try.underlying51
 have HR0 := Yd hr0
 have HC0 := Yd hc0
 clear hr0 hc0
 have HR1 := Yd hr1
 have HC1 := Yd hc1
 clear hr1 hc1
 have HB := Yd (Below.refl w.heap.size w)
 have H : ((demand_check.f k l0 l1 a4 (([a2,a3] : List Int))).bind fun t187 => (if t187 = 0 then ((demand_State_23.f l1).bind fun t188 => ((demand_order.f k l0).bind fun t191 => ((demand_power.f k l0 l1).bind fun t194 => (if (wrap64 (a2 + t194)) > a3 then (demand_Step.l0 k l0 l1 a3 a4 t188 (wrap64 (a2 + t194)) t191 (t191.length : Int) 0) else ((slices_Reverse_int_int.f k t191).bind fun t201 => (demand_Step.l1 k l0 l1 a3 a4 t188 (wrap64 (a2 + t194)) t201 (t191.length : Int) 0)))))) else (some (([] : List (S51)),t187)))) = some (r1,r2) := h
 clear h
 obtain ⟨y184,hy184⟩ : ∃ y_ : List Int,y_ = (([a2,a3] : List Int)) := ⟨_,rfl⟩
 replace H : ((demand_check.f k l0 l1 a4 y184).bind fun t187 => (if t187 = 0 then ((demand_State_23.f l1).bind fun t188 => ((demand_order.f k l0).bind fun t191 => ((demand_power.f k l0 l1).bind fun t194 => (if (wrap64 (a2 + t194)) > a3 then (demand_Step.l0 k l0 l1 a3 a4 t188 (wrap64 (a2 + t194)) t191 (t191.length : Int) 0) else ((slices_Reverse_int_int.f k t191).bind fun t201 => (demand_Step.l1 k l0 l1 a3 a4 t188 (wrap64 (a2 + t194)) t201 (t191.length : Int) 0)))))) else (some (([] : List (S51)),t187)))) = some (r1,r2) := by first | (rw [hy184];with_reducible exact H) | (have H2_ := (Option.bind_some _ _).symm.trans H;rw [hy184];with_reducible exact H2_) | (have H2_ := (Option.bind_some _ _).symm.trans H;with_reducible exact H2_) | with_reducible exact H | (rw [hy184];exact H) | exact H
 have Ny184 := Yd hy184
 clear hy184
 replace H := Option.bind_eq_some_iff.mp H
 obtain ⟨t187,A60,H⟩ := H
 replace H : (if t187 = 0 then ((demand_State_23.f l1).bind fun t188 => ((demand_order.f k l0).bind fun t191 => ((demand_power.f k l0 l1).bind fun t194 => (if (wrap64 (a2 + t194)) > a3 then (demand_Step.l0 k l0 l1 a3 a4 t188 (wrap64 (a2 + t194)) t191 (t191.length : Int) 0) else ((slices_Reverse_int_int.f k t191).bind fun t201 => (demand_Step.l1 k l0 l1 a3 a4 t188 (wrap64 (a2 + t194)) t201 (t191.length : Int) 0)))))) else (some (([] : List (S51)),t187))) = some (r1,r2) := H
 have A6 := Yd A60
 clear A60
 by_cases c7 : t187 = 0
 ·rw [if_pos c7] at H
  have c7b0 : (t187 == 0) = true := beq_iff_eq.mpr c7
  have c7b1 : (t187 != 0) = false := bne_eq_false_iff_eq.mpr c7
  clear c7
  replace H := Option.bind_eq_some_iff.mp H
  obtain ⟨t188,A80,H⟩ := H
  replace H : ((demand_order.f k l0).bind fun t191 => ((demand_power.f k l0 l1).bind fun t194 => (if (wrap64 (a2 + t194)) > a3 then (demand_Step.l0 k l0 l1 a3 a4 t188 (wrap64 (a2 + t194)) t191 (t191.length : Int) 0) else ((slices_Reverse_int_int.f k t191).bind fun t201 => (demand_Step.l1 k l0 l1 a3 a4 t188 (wrap64 (a2 + t194)) t201 (t191.length : Int) 0))))) = some (r1,r2) := H
  have A8 := Yd A80
  clear A80
  replace H := Option.bind_eq_some_iff.mp H
  obtain ⟨t191,A90,H⟩ := H
  replace H : ((demand_power.f k l0 l1).bind fun t194 => (if (wrap64 (a2 + t194)) > a3 then (demand_Step.l0 k l0 l1 a3 a4 t188 (wrap64 (a2 + t194)) t191 (t191.length : Int) 0) else ((slices_Reverse_int_int.f k t191).bind fun t201 => (demand_Step.l1 k l0 l1 a3 a4 t188 (wrap64 (a2 + t194)) t201 (t191.length : Int) 0)))) = some (r1,r2) := H
  have A9 := Yd A90
  clear A90
  replace H := Option.bind_eq_some_iff.mp H
  obtain ⟨t194,A100,H⟩ := H
  replace H : (if (wrap64 (a2 + t194)) > a3 then (demand_Step.l0 k l0 l1 a3 a4 t188 (wrap64 (a2 + t194)) t191 (t191.length : Int) 0) else ((slices_Reverse_int_int.f k t191).bind fun t201 => (demand_Step.l1 k l0 l1 a3 a4 t188 (wrap64 (a2 + t194)) t201 (t191.length : Int) 0))) = some (r1,r2) := H
  have A10 := Yd A100
  clear A100
  by_cases c11 : (wrap64 (a2 + t194)) > a3
  ·rw [if_pos c11] at H
   have c11b0 : decide (a3 < (wrap64 (a2 + t194))) = true := decide_eq_true c11
   clear c11
   have H' := Yd H
   clear H
   go_enter Try.func5,Try.ntmps5
   go_wp2_with (first | ((with_reducible refine gate_dst (N := 29) rfl ?_);refine Kd.R_lit (Kd.int .i64) _ 2 ?hg (N := 29) ?hd (xs := ([a2,a3] : List Int)) (inner := [.int .i64 a2,.int .i64 a3]) (ok := fun _ => True) (okp := fun _ => True) ?hr ?hp (fun _ hk => hk) trivial (Below.refl _ _) (Nat.le_refl _) (by simp) ?_;(case hd => rfl);(case hg => rfl);(case hr => first | (go_simp;done) | (go_simp;rfl));(case hp => exact (Reps.one (show Kd.M (Kd.int .i64) _ _ _ a2 [.int .i64 a2] from rfl) (Reps.one (show Kd.M (Kd.int .i64) _ _ _ a3 [.int .i64 a3] from rfl) (Reps.none _ _))));intro v185 w12 ho13 hb hg_ hnew_;clear hg_ hnew_;(first | rw [← Ny184.out] at ho13 | (simp only [Int.reduceToNat] at ho13;rw [← Ny184.out] at ho13));have n0_ := Yd (Kd.R_lower ho13 (below_size (Y3 HB.out)));have n1_ := Yd (below_step (Y3 HB.out) hb);clear HB;have HO186 := n0_;have HB := n1_;clear n0_ n1_;clear hb ho13;obtain ⟨Ao14,co14,eo14⟩ := Kd.R_slice HO186.out;subst eo14) | ((with_reducible refine gate_callee (f := 22) rfl ?_);refine goesL_ (some 30) rfl rfl Try.func22 (by kernel_rfl) rfl #[.slice A0 l0.length c0,.slice A1 l1.length c1,.int .i64 a4,.slice Ao14 y184.length co14] rfl Y8 ?_;(with_reducible refine (demand_check.calls k _ _ l0 _ _ l1 a4 _ _ y184 t187 _ ?side1 ?side2 ?side3 ?side4 ?side5 ?side6 A6.out).mono ?_);(case side1 => exact Y11 (Kd.C_below HR0.out HB.out));(case side2 => exact HC0.out);(case side3 => exact Y11 (Kd.C_below HR1.out HB.out));(case side4 => exact HC1.out);(case side5 => repeat (first | exact (Kd.R_reads' HO186.out).2.2 | (with_reducible refine Kd.C_alloc ?_ _) | (with_reducible refine Kd.C_drewN ?_ _) | (with_reducible refine Kd.C_drew ?_)));(case side6 => exact (Kd.R_reads' HO186.out).2.1);rintro e w15 ⟨rfl,hb⟩;refine ⟨_,rfl,?_⟩;have n0_ := Yd (Kd.R_below (Y5 HO186.out) hb);have n1_ := Yd (below_step (Y3 HB.out) hb);clear HO186;clear HB;have HO186 := n0_;have HB := n1_;clear n0_ n1_;(try clear hb);(try clear hb2);(try clear hk);(try clear hi)) | ((with_reducible refine gate_callee (f := 23) rfl ?_);refine goesL_ (some 35) rfl rfl Try.func23 (by kernel_rfl) rfl #[.slice A1 l1.length c1] rfl Y8 ?_;(with_reducible refine (demand_State_23.calls _ _ l1 t188 _ ?side1 ?side2 A8.out).mono ?_);(case side1 => exact Y11 (Kd.C_below HR1.out HB.out));(case side2 => exact HC1.out);rintro e w16 ⟨v189,rfl,ho0,hb⟩;refine ⟨_,rfl,?_⟩;have n0_ := Yd (Kd.R_below (Y5 HO186.out) hb);have n1_ := Yd (Kd.R_lower ho0 (below_size (Y3 HB.out)));have n2_ := Yd (below_step (Y3 HB.out) hb);clear HO186;clear HB;have HO186 := n0_;have HO190 := n1_;have HB := n2_;clear n0_ n1_ n2_;(try clear hb);(try clear hb2);(try clear hk);(try clear hi);(try clear ho0)) | ((with_reducible refine gate_callee (f := 24) rfl ?_);refine goesL_ (some 37) rfl rfl Try.func24 (by kernel_rfl) rfl #[.slice A0 l0.length c0] rfl Y8 ?_;(with_reducible refine (demand_order.calls k _ _ l0 t191 _ ?side1 ?side2 A9.out).mono ?_);(case side1 => exact Y11 (Kd.C_below HR0.out HB.out));(case side2 => exact HC0.out);rintro e w17 ⟨v192,rfl,ho0,hb⟩;refine ⟨_,rfl,?_⟩;have n0_ := Yd (Kd.R_below (Y5 HO186.out) hb);have n1_ := Yd (Kd.R_below (Y5 HO190.out) hb);have n2_ := Yd (Kd.R_lower ho0 (below_size (Y3 HB.out)));have n3_ := Yd (below_step (Y3 HB.out) hb);clear HO186;clear HO190;clear HB;have HO186 := n0_;have HO190 := n1_;have HO193 := n2_;have HB := n3_;clear n0_ n1_ n2_ n3_;(try clear hb);(try clear hb2);(try clear hk);(try clear hi);(try clear ho0)) | ((with_reducible refine gate_callee (f := 25) rfl ?_);refine goesL_ (some 41) rfl rfl Try.func25 (by kernel_rfl) rfl #[.slice A0 l0.length c0,.slice A1 l1.length c1] rfl Y8 ?_;(with_reducible refine (demand_power.calls k _ _ l0 _ _ l1 t194 _ ?side1 ?side2 ?side3 ?side4 A10.out).mono ?_);(case side1 => exact Y11 (Kd.C_below HR0.out HB.out));(case side2 => exact HC0.out);(case side3 => exact Y11 (Kd.C_below HR1.out HB.out));(case side4 => exact HC1.out);rintro e w18 ⟨rfl,hb⟩;refine ⟨_,rfl,?_⟩;have n0_ := Yd (Kd.R_below (Y5 HO186.out) hb);have n1_ := Yd (Kd.R_below (Y5 HO190.out) hb);have n2_ := Yd (Kd.R_below (Y5 HO193.out) hb);have n3_ := Yd (below_step (Y3 HB.out) hb);clear HO186;clear HO190;clear HO193;clear HB;have HO186 := n0_;have HO190 := n1_;have HO193 := n2_;have HB := n3_;clear n0_ n1_ n2_ n3_;(try clear hb);(try clear hb2);(try clear hk);(try clear hi);obtain ⟨Ao19,co19,eo19⟩ := Kd.R_slice HO193.out;subst eo19))
   go_loopg [15,48] k (fun kq v15 v48 w' => ∃ (x13_1 : List (S51)) (x15_1 : Int) (x48_1 : Int),v15 = .int .i64 x15_1 ∧ v48 = .int .i64 x48_1 ∧ Aside0 (demand_Step.l0 kq l0 l1 a3 a4 x13_1 x15_1 t191 (t191.length : Int) x48_1 = some (r1,r2)) ∧ Aside0 (kq ≤ k) ∧ Aside0 (Kd.R k51 51 w' w.heap.size (fun _ => True) v189 x13_1) ∧ Aside0 (Kd.R (Kd.int .i64) 3 w' w.heap.size (fun _ => True) (.slice Ao19 t191.length co19) t191) ∧ Aside0 (Below w.heap.size w w'))
   case atStart => exact ⟨(t188),(wrap64 (a2 + t194)),(0),Y12,Y12,H',⟨Nat.le_refl _⟩,⟨Y5 HO190.out⟩,⟨Y5 HO193.out⟩,⟨Y3 HB.out⟩⟩
   case round =>
    clear H'
    try clear c1
    try clear c2
    try clear p2
    try clear c5
    try clear p6
    try clear c7
    try clear c7b0
    try clear c7b1
    try clear c11
    try clear c11b0
    obtain ⟨x13_1,x15_1,x48_1,rfl,rfl,HA,HK1,HO_13,HO_46,HB⟩ := hrel
    cases gk with
    | zero => exact absurd HA.out (by simp [demand_Step.l0])
    | succ k1 =>
     have H := HA.out
     clear HA
     simp only [demand_Step.l0] at H
     by_cases c20 : x48_1 < (t191.length : Int)
     ·rw [if_pos c20] at H
      have c20b0 : decide (x48_1 < (t191.length : Int)) = true := decide_eq_true c20
      clear c20
      by_cases c21 : 0 ≤ x48_1
      case neg => rw [if_neg c21] at H;exact absurd H (by simp)
      rw [if_pos c21] at H
      have c21b0 : decide (0 ≤ x48_1) = true := decide_eq_true c21
      clear c21
      by_cases c22 : x48_1 < (t191.length : Int)
      case neg => rw [if_neg c22] at H;exact absurd H (by simp)
      rw [if_pos c22] at H
      have c22b0 : decide (x48_1 < (t191.length : Int)) = true := decide_eq_true c22
      clear c22
      by_cases c23 : 0 ≤ (rd t191 x48_1)
      case neg => rw [if_neg c23] at H;exact absurd H (by simp)
      rw [if_pos c23] at H
      have c23b0 : decide (0 ≤ (rd t191 x48_1)) = true := decide_eq_true c23
      clear c23
      by_cases c24 : (rd t191 x48_1) < (l0.length : Int)
      case neg => rw [if_neg c24] at H;exact absurd H (by simp)
      rw [if_pos c24] at H
      have c24b0 : decide ((rd t191 x48_1) < (l0.length : Int)) = true := decide_eq_true c24
      clear c24
      by_cases c25 : (rd t191 x48_1) < (l1.length : Int)
      case neg => rw [if_neg c25] at H;exact absurd H (by simp)
      rw [if_pos c25] at H
      have c25b0 : decide ((rd t191 x48_1) < (l1.length : Int)) = true := decide_eq_true c25
      clear c25
      have HC26 := Yd H
      clear H
      have p195 : 0 ≤ (x48_1 : Int) := Y9
      have q195 : x48_1 < (t191.length : Int) := Y9
      obtain ⟨ad195,e195,hx195_0⟩ := Kd.at_int (Kd.R_reads' HO_46.out).2.2 x48_1 p195 q195
      cases e195
      replace p195 := eq_true p195
      replace q195 := eq_true q195
      try go_wp2
      have n0_ := Yd (Kd.R_drew HO_13.out)
      have n1_ := Yd (Kd.R_drew HO_46.out)
      have n2_ := Yd (below_drew1 HB.out)
      clear HO_13
      clear HO_46
      clear HB
      have HO_13 := n0_
      have HO_46 := n1_
      have HB := n2_
      clear n0_ n1_ n2_
      have p196 : 0 ≤ ((rd t191 x48_1) : Int) := Y9
      have q196 : (rd t191 x48_1) < (l0.length : Int) := Y9
      obtain ⟨ad196,e196,hx196_0,hx196_1,hx196_2,hx196_3,hx196_4⟩ := at_T43 HR0.out (rd t191 x48_1) p196 q196
      have hw196_4 := hx196_4
      have hw196_3 := hx196_3
      have hw196_2 := hx196_2
      have hw196_1 := hx196_1
      have hw196_0 := hx196_0
      cases e196
      replace hx196_0 := Y10 HB.out hx196_0
      replace hx196_1 := Y10 HB.out hx196_1
      replace hx196_2 := Y10 HB.out hx196_2
      replace hx196_3 := Y10 HB.out hx196_3
      replace hx196_4 := Y10 HB.out hx196_4
      replace p196 := eq_true p196
      replace q196 := eq_true q196
      have p197 : 0 ≤ ((rd t191 x48_1) : Int) := Y9
      have q197 : (rd t191 x48_1) < (l1.length : Int) := Y9
      obtain ⟨ad197,e197,hx197_0,hx197_1⟩ := at_T51 HR1.out (rd t191 x48_1) p197 q197
      have hw197_1 := hx197_1
      have hw197_0 := hx197_0
      cases e197
      replace hx197_0 := Y10 HB.out hx197_0
      replace hx197_1 := Y10 HB.out hx197_1
      replace p197 := eq_true p197
      replace q197 := eq_true q197
      refine start_ (n := 12) (S := fun w' => w'.cell? (ad196.add (((rd t191 x48_1)).toNat * 5)) = some (.string ((rd_T43 l0 (rd t191 x48_1)).f0)) ∧ w'.cell? ⟨(ad196.add (((rd t191 x48_1)).toNat * 5)).block,(ad196.add (((rd t191 x48_1)).toNat * 5)).off + 1,none⟩ = some (.int .i64 ((rd_T43 l0 (rd t191 x48_1)).f1)) ∧ w'.cell? ⟨(ad196.add (((rd t191 x48_1)).toNat * 5)).block,(ad196.add (((rd t191 x48_1)).toNat * 5)).off + 2,none⟩ = some (.int .i64 ((rd_T43 l0 (rd t191 x48_1)).f2)) ∧ w'.cell? ⟨(ad196.add (((rd t191 x48_1)).toNat * 5)).block,(ad196.add (((rd t191 x48_1)).toNat * 5)).off + 3,none⟩ = some (.int .i64 ((rd_T43 l0 (rd t191 x48_1)).f3)) ∧ w'.cell? ⟨(ad196.add (((rd t191 x48_1)).toNat * 5)).block,(ad196.add (((rd t191 x48_1)).toNat * 5)).off + 4,none⟩ = some (.int .i64 ((rd_T43 l0 (rd t191 x48_1)).f4)) ∧ w'.cell? (ad197.add (((rd t191 x48_1)).toNat * 2)) = some (.bool ((rd_T51 l1 (rd t191 x48_1)).f0)) ∧ w'.cell? ⟨(ad197.add (((rd t191 x48_1)).toNat * 2)).block,(ad197.add (((rd t191 x48_1)).toNat * 2)).off + 1,none⟩ = some (.int .i64 ((rd_T51 l1 (rd t191 x48_1)).f1))) (ds := []) #[YF,YF,YF,YF,YF,YF,YF,YF,YF,YF,YF,YF] (by kernel_rfl) rfl rfl ⟨(Y10 HB.out hw196_0 :),(Y10 HB.out hw196_1 :),(Y10 HB.out hw196_2 :),(Y10 HB.out hw196_3 :),(Y10 HB.out hw196_4 :),(Y10 HB.out hw197_0 :),(Y10 HB.out hw197_1 :)⟩ (fun hHeld => ?_);refine with_tabW demand_Step.tab11 demand_Step.bits11 (fun HT_ HW_ => ?_)
      generalize wr.drew = w27 at HO_13 HO_46 HB hx196_0 hx196_1 hx196_2 hx196_3 hx196_4 hx197_0 hx197_1 hHeld ⊢
      refine pure_ (i := 0) (N := some 52) (v := ?_) (a' := ?_) #[YT,YF,YF,YF,YF,YF,YF,YF,YF,YF,YF,YF] rfl rfl (any_of HT_.out (by kernel_rfl)) (fun _ _ _ h => h) (Or.inl ⟨by rfl,?_⟩) ?_ ?_
      rotate_left
      ·intro w'
       go_simp
       with_reducible rfl
      rotate_left
      ·simp only [Act.put,Ya,Yb,Yc,i64_w,i32_w]
       rfl
      refine pure_ (i := 1) (N := some 53) (v := ?_) (a' := ?_) #[YT,YT,YF,YF,YF,YF,YF,YF,YF,YF,YF,YF] rfl rfl (any_of HT_.out (by kernel_rfl)) (fun _ _ _ h => h) (Or.inl ⟨by rfl,?_⟩) ?_ ?_
      rotate_left
      ·intro w'
       go_simp
       with_reducible rfl
      rotate_left
      ·simp only [Act.put,Ya,Yb,Yc,i64_w,i32_w]
       rfl
      refine pure_ (i := 2) (N := some 54) (v := ?_) (a' := ?_) #[YT,YT,YT,YF,YF,YF,YF,YF,YF,YF,YF,YF] rfl rfl (any_of HT_.out (by kernel_rfl)) (fun _ _ _ h => h) (Or.inl ⟨by rfl,?_⟩) ?_ ?_
      rotate_left
      ·intro w'
       go_simp
       with_reducible rfl
      rotate_left
      ·simp only [Act.put,Ya,Yb,Yc,i64_w,i32_w]
       rfl
      refine pure_ (i := 4) (N := some 56) (v := ?_) (a' := ?_) #[YT,YT,YT,YF,YT,YF,YF,YF,YF,YF,YF,YF] rfl rfl (any_of HT_.out (by kernel_rfl)) (fun _ _ _ h => h) (Or.inl ⟨by rfl,?_⟩) ?_ ?_
      rotate_left
      ·intro w'
       go_simp
       with_reducible rfl
      rotate_left
      ·simp only [Act.put,Ya,Yb,Yc,i64_w,i32_w]
       rfl
      refine pure_ (i := 5) (N := some 57) (v := ?_) (a' := ?_) #[YT,YT,YT,YF,YT,YT,YF,YF,YF,YF,YF,YF] rfl rfl (any_of HT_.out (by kernel_rfl)) (fun _ _ _ h => h) (Or.inl ⟨by rfl,?_⟩) ?_ ?_
      rotate_left
      ·intro w'
       go_simp
       with_reducible rfl
      rotate_left
      ·simp only [Act.put,Ya,Yb,Yc,i64_w,i32_w]
       rfl
      refine pure_ (i := 6) (N := some 58) (v := ?_) (a' := ?_) #[YT,YT,YT,YF,YT,YT,YT,YF,YF,YF,YF,YF] rfl rfl (any_of HT_.out (by kernel_rfl)) (fun _ _ _ h => h) (Or.inl ⟨by rfl,?_⟩) ?_ ?_
      rotate_left
      ·intro w'
       go_simp
       with_reducible rfl
      rotate_left
      ·simp only [Act.put,Ya,Yb,Yc,i64_w,i32_w]
       rfl
      refine take_ (i := 3) (N := some 55) (v := ?_) (a' := ?_) #[YT,YT,YT,YT,YT,YT,YT,YF,YF,YF,YF,YF] rfl rfl (take_ofW HT_.out HW_.out (by kernel_rfl)) (fun _ _ _ h => h) (Or.inl ⟨by rfl,?_⟩) hHeld ?_ ?_
      rotate_left
      ·rintro w' ⟨s0,s1,s2,s3,s4,s5,s6⟩
       go_simp
       with_reducible rfl
      rotate_left
      ·simp only [Act.put,Ya,Yb,Yc,i64_w,i32_w]
       rfl
      refine take_ (i := 7) (N := some 59) (v := ?_) (a' := ?_) #[YT,YT,YT,YT,YT,YT,YT,YT,YF,YF,YF,YF] rfl rfl (take_ofW HT_.out HW_.out (by kernel_rfl)) (fun _ _ _ h => h) (Or.inl ⟨by rfl,?_⟩) hHeld ?_ ?_
      rotate_left
      ·rintro w' ⟨s0,s1,s2,s3,s4,s5,s6⟩
       go_simp
       with_reducible rfl
      rotate_left
      ·simp only [Act.put,Ya,Yb,Yc,i64_w,i32_w]
       rfl
      refine join_ (σ := Nat × Nat) 2 #[YT,YT,YT,YT,YT,YT,YT,YT,YT,YT,YF,YF] (fun s_ => [(18,.pointer (some ⟨s_.1,0,none⟩)),(19,.pointer (some ⟨s_.2,0,none⟩))]) (fun s_ w' => (w'.cell? (ad196.add (((rd t191 x48_1)).toNat * 5)) = some (.string ((rd_T43 l0 (rd t191 x48_1)).f0)) ∧ w'.cell? ⟨(ad196.add (((rd t191 x48_1)).toNat * 5)).block,(ad196.add (((rd t191 x48_1)).toNat * 5)).off + 1,none⟩ = some (.int .i64 ((rd_T43 l0 (rd t191 x48_1)).f1)) ∧ w'.cell? ⟨(ad196.add (((rd t191 x48_1)).toNat * 5)).block,(ad196.add (((rd t191 x48_1)).toNat * 5)).off + 2,none⟩ = some (.int .i64 ((rd_T43 l0 (rd t191 x48_1)).f2)) ∧ w'.cell? ⟨(ad196.add (((rd t191 x48_1)).toNat * 5)).block,(ad196.add (((rd t191 x48_1)).toNat * 5)).off + 3,none⟩ = some (.int .i64 ((rd_T43 l0 (rd t191 x48_1)).f3)) ∧ w'.cell? ⟨(ad196.add (((rd t191 x48_1)).toNat * 5)).block,(ad196.add (((rd t191 x48_1)).toNat * 5)).off + 4,none⟩ = some (.int .i64 ((rd_T43 l0 (rd t191 x48_1)).f4)) ∧ w'.cell? (ad197.add (((rd t191 x48_1)).toNat * 2)) = some (.bool ((rd_T51 l1 (rd t191 x48_1)).f0)) ∧ w'.cell? ⟨(ad197.add (((rd t191 x48_1)).toNat * 2)).block,(ad197.add (((rd t191 x48_1)).toNat * 2)).off + 1,none⟩ = some (.int .i64 ((rd_T51 l1 (rd t191 x48_1)).f1))) ∧ (Kd.R k51 51 w' w.heap.size (fun k_ => k_ ≠ s_.2) v189 x13_1) ∧ (Kd.R (Kd.int .i64) 3 w' w.heap.size (fun _ => True) (.slice (some ad195) t191.length co19) t191) ∧ (w'.heap[s_.1]? = some (.cells #[.string (⟨#[]⟩ : ByteArray),.int .i64 0,.int .i64 0,.int .i64 0,.int .i64 0] 43 (0,0))) ∧ (w'.heap[s_.2]? = some (.cells #[.bool false,.int .i64 0] 51 (0,0))) ∧ (w.heap.size ≤ s_.1) ∧ (w.heap.size ≤ s_.1) ∧ (s_.2 ≠ s_.1) ∧ (s_.1 ≠ s_.2) ∧ (w.heap.size ≤ s_.2) ∧ (w.heap.size ≤ s_.2) ∧ (Below w.heap.size w w')) ?_ ?_
      rotate_left
      ·intro hCont
       refine two_ (i := 8) (j := 9) (Ni := some 18) (Nj := some 19) #[YT,YT,YT,YT,YT,YT,YT,YT,YT,YF,YF,YF] #[YT,YT,YT,YT,YT,YT,YT,YT,YF,YT,YF,YF] rfl rfl rfl rfl (two_of HT_.out (by kernel_rfl)) (by decide) (by decide) (fun K hK => ?_) (fun K hK => ?_)
       ·skip
        refine box_step ?hg (N := 18) ?hd (cs := #[.string (⟨#[]⟩ : ByteArray),.int .i64 0,.int .i64 0,.int .i64 0,.int .i64 0]) (t := 43) ?hr ?_;(case hd => rfl);(case hg => rfl);(case hr => first | (go_simp;done) | (go_simp;rfl))
        intro gb198 hg w28 hbox hb
        have n0_ := Yd (Kd.R_below (Y5 HO_13.out) hb)
        have n1_ := Yd (Kd.R_below (Y5 HO_46.out) hb)
        have n2_ := Yd (below_step (Y3 HB.out) hb)
        have n3_ := Yd (hbox)
        have n4_ := Yd ((by rw [hg];exact (below_size (Y3 HB.out)) : w.heap.size ≤ gb198))
        have n5_ := Yd ((by rw [hg];exact (below_size (Y3 HB.out)) : w.heap.size ≤ gb198))
        clear HO_13
        clear HO_46
        clear HB
        have HO_13 := n0_
        have HO_46 := n1_
        have HB := n2_
        have BK198 := n3_
        have GW198 := n4_
        have GE198 := n5_
        clear n0_ n1_ n2_ n3_ n4_ n5_
        clear hb hbox hg
        refine hK.out _ _ ⟨(Y10 HB.out hw196_0 :),(Y10 HB.out hw196_1 :),(Y10 HB.out hw196_2 :),(Y10 HB.out hw196_3 :),(Y10 HB.out hw196_4 :),(Y10 HB.out hw197_0 :),(Y10 HB.out hw197_1 :)⟩ (fun hHeld => ?_)
        clear hK K
        refine norm_ (a' := ?_) ?_ ?_
        rotate_left
        ·show Act.put _ (some 18) _ = _
         simp only [Act.put,Ya,Yb,Yc,i64_w,i32_w]
         rfl
        refine one_ (i := 9) (N := some 19) #[YT,YT,YT,YT,YT,YT,YT,YT,YT,YT,YF,YF] rfl rfl (one_of HT_.out (by kernel_rfl)) (by decide) (fun K hK => ?_)
        refine box_step ?hg (N := 19) ?hd (cs := #[.bool false,.int .i64 0]) (t := 51) ?hr ?_;(case hd => rfl);(case hg => rfl);(case hr => first | (go_simp;done) | (go_simp;rfl))
        intro gb199 hg w29 hbox hb
        have n0_ := Yd (Kd.R_below (Kd.R_elderB (Y5 HO_13.out) gb199 (Nat.le_of_eq hg.symm)) hb)
        have n1_ := Yd (Kd.R_below (Y5 HO_46.out) hb)
        have n2_ := Yd (blk_below (g := gb198) (o := .cells #[.string (⟨#[]⟩ : ByteArray),.int .i64 0,.int .i64 0,.int .i64 0,.int .i64 0] 43 (0,0)) (Y6 BK198.out) hb)
        have n3_ := Yd (below_step (by first | exact Y4 HB.out GE198.out | exact Y3 HB.out) hb)
        have n4_ := Yd (hbox)
        have n5_ := Yd ((by rw [hg];exact (below_size (by first | exact Y4 HB.out GE198.out | exact Y3 HB.out)) : w.heap.size ≤ gb199))
        have n6_ := Yd ((by rw [hg];exact (below_size (by first | exact Y4 HB.out GE198.out | exact Y3 HB.out)) : w.heap.size ≤ gb199))
        have n7_ := Yd ((by rw [hg];exact Nat.ne_of_lt (blk_lt (g := gb198) (o := .cells #[.string (⟨#[]⟩ : ByteArray),.int .i64 0,.int .i64 0,.int .i64 0,.int .i64 0] 43 (0,0)) (Y6 BK198.out)) : gb198 ≠ gb199))
        have n8_ := Yd ((by rw [hg];exact Nat.ne_of_gt (blk_lt (g := gb198) (o := .cells #[.string (⟨#[]⟩ : ByteArray),.int .i64 0,.int .i64 0,.int .i64 0,.int .i64 0] 43 (0,0)) (Y6 BK198.out)) : gb199 ≠ gb198))
        clear HO_13
        clear HO_46
        clear BK198
        clear HB
        have HO_13 := n0_
        have HO_46 := n1_
        have BK198 := n2_
        have HB := n3_
        have BK199 := n4_
        have GW199 := n5_
        have GE199 := n6_
        have NB198_199 := n7_
        have NB199_198 := n8_
        clear n0_ n1_ n2_ n3_ n4_ n5_ n6_ n7_ n8_
        clear hb hbox hg
        refine hK.out _ _ ⟨(Y10 HB.out hw196_0 :),(Y10 HB.out hw196_1 :),(Y10 HB.out hw196_2 :),(Y10 HB.out hw196_3 :),(Y10 HB.out hw196_4 :),(Y10 HB.out hw197_0 :),(Y10 HB.out hw197_1 :)⟩ (fun hHeld => ?_)
        clear hK K
        refine norm_ (a' := ?_) ?_ ?_
        rotate_left
        ·show Act.put _ (some 19) _ = _
         simp only [Act.put,Ya,Yb,Yc,i64_w,i32_w]
         rfl
        exact norm_ (by simp only [putAll,Act.put,List.setIfInBounds_toArray,List.set_cons_zero,List.set_cons_succ]) (hCont (gb198,gb199) _ ⟨hHeld,(by (with_reducible repeat (first | apply Kd.R_alloc | apply Kd.R_drewN | apply Kd.R_drew));exact Kd.R_mono HO_13.out (fun _ hk => hk.2)),(Y5 HO_46.out),(Y6 BK198.out),(Y6 BK199.out),GW198.out,GE198.out,NB199_198.out,NB198_199.out,GW199.out,GE199.out,(by repeat (first | (with_reducible first | exact HB.out | apply below_alloc | apply Y15 | apply below_drew1 | refine below_set ?_ GE198.out | refine below_set ?_ GE199.out) | exact HB.out))⟩)
       ·skip
        refine box_step ?hg (N := 19) ?hd (cs := #[.bool false,.int .i64 0]) (t := 51) ?hr ?_;(case hd => rfl);(case hg => rfl);(case hr => first | (go_simp;done) | (go_simp;rfl))
        intro gb199 hg w28 hbox hb
        have n0_ := Yd (Kd.R_below (Kd.R_elderB (Y5 HO_13.out) gb199 (Nat.le_of_eq hg.symm)) hb)
        have n1_ := Yd (Kd.R_below (Y5 HO_46.out) hb)
        have n2_ := Yd (below_step (Y3 HB.out) hb)
        have n3_ := Yd (hbox)
        have n4_ := Yd ((by rw [hg];exact (below_size (Y3 HB.out)) : w.heap.size ≤ gb199))
        have n5_ := Yd ((by rw [hg];exact (below_size (Y3 HB.out)) : w.heap.size ≤ gb199))
        clear HO_13
        clear HO_46
        clear HB
        have HO_13 := n0_
        have HO_46 := n1_
        have HB := n2_
        have BK199 := n3_
        have GW199 := n4_
        have GE199 := n5_
        clear n0_ n1_ n2_ n3_ n4_ n5_
        clear hb hbox hg
        refine hK.out _ _ ⟨(Y10 HB.out hw196_0 :),(Y10 HB.out hw196_1 :),(Y10 HB.out hw196_2 :),(Y10 HB.out hw196_3 :),(Y10 HB.out hw196_4 :),(Y10 HB.out hw197_0 :),(Y10 HB.out hw197_1 :)⟩ (fun hHeld => ?_)
        clear hK K
        refine norm_ (a' := ?_) ?_ ?_
        rotate_left
        ·show Act.put _ (some 19) _ = _
         simp only [Act.put,Ya,Yb,Yc,i64_w,i32_w]
         rfl
        refine one_ (i := 8) (N := some 18) #[YT,YT,YT,YT,YT,YT,YT,YT,YT,YT,YF,YF] rfl rfl (one_of HT_.out (by kernel_rfl)) (by decide) (fun K hK => ?_)
        refine box_step ?hg (N := 18) ?hd (cs := #[.string (⟨#[]⟩ : ByteArray),.int .i64 0,.int .i64 0,.int .i64 0,.int .i64 0]) (t := 43) ?hr ?_;(case hd => rfl);(case hg => rfl);(case hr => first | (go_simp;done) | (go_simp;rfl))
        intro gb198 hg w29 hbox hb
        have n0_ := Yd (Kd.R_below (Y5 HO_13.out) hb)
        have n1_ := Yd (Kd.R_below (Y5 HO_46.out) hb)
        have n2_ := Yd (blk_below (g := gb199) (o := .cells #[.bool false,.int .i64 0] 51 (0,0)) (Y6 BK199.out) hb)
        have n3_ := Yd (below_step (by first | exact Y4 HB.out GE199.out | exact Y3 HB.out) hb)
        have n4_ := Yd (hbox)
        have n5_ := Yd ((by rw [hg];exact (below_size (by first | exact Y4 HB.out GE199.out | exact Y3 HB.out)) : w.heap.size ≤ gb198))
        have n6_ := Yd ((by rw [hg];exact (below_size (by first | exact Y4 HB.out GE199.out | exact Y3 HB.out)) : w.heap.size ≤ gb198))
        have n7_ := Yd ((by rw [hg];exact Nat.ne_of_lt (blk_lt (g := gb199) (o := .cells #[.bool false,.int .i64 0] 51 (0,0)) (Y6 BK199.out)) : gb199 ≠ gb198))
        have n8_ := Yd ((by rw [hg];exact Nat.ne_of_gt (blk_lt (g := gb199) (o := .cells #[.bool false,.int .i64 0] 51 (0,0)) (Y6 BK199.out)) : gb198 ≠ gb199))
        clear HO_13
        clear HO_46
        clear BK199
        clear HB
        have HO_13 := n0_
        have HO_46 := n1_
        have BK199 := n2_
        have HB := n3_
        have BK198 := n4_
        have GW198 := n5_
        have GE198 := n6_
        have NB199_198 := n7_
        have NB198_199 := n8_
        clear n0_ n1_ n2_ n3_ n4_ n5_ n6_ n7_ n8_
        clear hb hbox hg
        refine hK.out _ _ ⟨(Y10 HB.out hw196_0 :),(Y10 HB.out hw196_1 :),(Y10 HB.out hw196_2 :),(Y10 HB.out hw196_3 :),(Y10 HB.out hw196_4 :),(Y10 HB.out hw197_0 :),(Y10 HB.out hw197_1 :)⟩ (fun hHeld => ?_)
        clear hK K
        refine norm_ (a' := ?_) ?_ ?_
        rotate_left
        ·show Act.put _ (some 18) _ = _
         simp only [Act.put,Ya,Yb,Yc,i64_w,i32_w]
         rfl
        exact norm_ (by simp only [putAll,Act.put,List.setIfInBounds_toArray,List.set_cons_zero,List.set_cons_succ]) (hCont (gb198,gb199) _ ⟨hHeld,(by (with_reducible repeat (first | apply Kd.R_alloc | apply Kd.R_drewN | apply Kd.R_drew));exact Kd.R_mono HO_13.out (fun _ hk => hk.2)),(Y5 HO_46.out),(Y6 BK198.out),(Y6 BK199.out),GW198.out,GE198.out,NB199_198.out,NB198_199.out,GW199.out,GE199.out,(by repeat (first | (with_reducible first | exact HB.out | apply below_alloc | apply Y15 | apply below_drew1 | refine below_set ?_ GE199.out | refine below_set ?_ GE198.out) | exact HB.out))⟩)
      rintro ⟨gb198,gb199⟩ w30 ⟨hS_,h0_,h1_,h2_,h3_,h4_,h5_,h6_,h7_,h8_,h9_,h10_⟩
      have n0_ : Aside0 (Kd.R k51 51 w30 w.heap.size (fun k_ => k_ ≠ gb199) v189 x13_1) := ⟨h0_⟩
      have n1_ : Aside0 (Kd.R (Kd.int .i64) 3 w30 w.heap.size (fun _ => True) (.slice (some ad195) t191.length co19) t191) := ⟨h1_⟩
      have n2_ : Aside0 (w30.heap[gb198]? = some (.cells #[.string (⟨#[]⟩ : ByteArray),.int .i64 0,.int .i64 0,.int .i64 0,.int .i64 0] 43 (0,0))) := ⟨h2_⟩
      have n3_ : Aside0 (w30.heap[gb199]? = some (.cells #[.bool false,.int .i64 0] 51 (0,0))) := ⟨h3_⟩
      have n4_ : Aside0 (w.heap.size ≤ gb198) := ⟨h4_⟩
      have n5_ : Aside0 (w.heap.size ≤ gb198) := ⟨h5_⟩
      have n6_ : Aside0 (gb199 ≠ gb198) := ⟨h6_⟩
      have n7_ : Aside0 (gb198 ≠ gb199) := ⟨h7_⟩
      have n8_ : Aside0 (w.heap.size ≤ gb199) := ⟨h8_⟩
      have n9_ : Aside0 (w.heap.size ≤ gb199) := ⟨h9_⟩
      have n10_ : Aside0 (Below w.heap.size w w30) := ⟨h10_⟩
      clear HO_13
      clear HO_46
      clear HB
      clear h0_ h1_ h2_ h3_ h4_ h5_ h6_ h7_ h8_ h9_ h10_
      have HO_13 := n0_
      have HO_46 := n1_
      have BK198 := n2_
      have BK199 := n3_
      have GW198 := n4_
      have GE198 := n5_
      have NB199_198 := n6_
      have NB198_199 := n7_
      have GW199 := n8_
      have GE199 := n9_
      have HB := n10_
      clear n0_ n1_ n2_ n3_ n4_ n5_ n6_ n7_ n8_ n9_ n10_
      have hHeld : w30.cell? (ad196.add (((rd t191 x48_1)).toNat * 5)) = some (.string ((rd_T43 l0 (rd t191 x48_1)).f0)) ∧ w30.cell? ⟨(ad196.add (((rd t191 x48_1)).toNat * 5)).block,(ad196.add (((rd t191 x48_1)).toNat * 5)).off + 1,none⟩ = some (.int .i64 ((rd_T43 l0 (rd t191 x48_1)).f1)) ∧ w30.cell? ⟨(ad196.add (((rd t191 x48_1)).toNat * 5)).block,(ad196.add (((rd t191 x48_1)).toNat * 5)).off + 2,none⟩ = some (.int .i64 ((rd_T43 l0 (rd t191 x48_1)).f2)) ∧ w30.cell? ⟨(ad196.add (((rd t191 x48_1)).toNat * 5)).block,(ad196.add (((rd t191 x48_1)).toNat * 5)).off + 3,none⟩ = some (.int .i64 ((rd_T43 l0 (rd t191 x48_1)).f3)) ∧ w30.cell? ⟨(ad196.add (((rd t191 x48_1)).toNat * 5)).block,(ad196.add (((rd t191 x48_1)).toNat * 5)).off + 4,none⟩ = some (.int .i64 ((rd_T43 l0 (rd t191 x48_1)).f4)) ∧ w30.cell? (ad197.add (((rd t191 x48_1)).toNat * 2)) = some (.bool ((rd_T51 l1 (rd t191 x48_1)).f0)) ∧ w30.cell? ⟨(ad197.add (((rd t191 x48_1)).toNat * 2)).block,(ad197.add (((rd t191 x48_1)).toNat * 2)).off + 1,none⟩ = some (.int .i64 ((rd_T51 l1 (rd t191 x48_1)).f1)) := hS_
      refine norm_ (a' := ?_) ?_ ?_
      rotate_left
      ·simp only [putAll,Act.put,List.setIfInBounds_toArray,List.set_cons_zero,List.set_cons_succ]
       rfl
      refine one_ (i := 10) (N := none) #[YT,YT,YT,YT,YT,YT,YT,YT,YT,YT,YT,YF] rfl rfl (one_of HT_.out (by kernel_rfl)) (by decide) (fun K hK => ?_)
      have hs31 : w30.cell? ⟨gb198,0,none⟩ = some (.string (⟨#[]⟩ : ByteArray)) := (blk_cell BK198.out 0).trans rfl
      have hfs31 := blk_frozen BK198.out 0
      have hns31_1 := NB199_198.out
      have hms31_1 := NB198_199.out
      have hs32 : w30.cell? ⟨gb198,1,none⟩ = some (.int .i64 0) := (blk_cell BK198.out 1).trans rfl
      have hfs32 := blk_frozen BK198.out 1
      have hns32_1 := NB199_198.out
      have hms32_1 := NB198_199.out
      have hs33 : w30.cell? ⟨gb198,2,none⟩ = some (.int .i64 0) := (blk_cell BK198.out 2).trans rfl
      have hfs33 := blk_frozen BK198.out 2
      have hns33_1 := NB199_198.out
      have hms33_1 := NB198_199.out
      have hs34 : w30.cell? ⟨gb198,3,none⟩ = some (.int .i64 0) := (blk_cell BK198.out 3).trans rfl
      have hfs34 := blk_frozen BK198.out 3
      have hns34_1 := NB199_198.out
      have hms34_1 := NB198_199.out
      have hs35 : w30.cell? ⟨gb198,4,none⟩ = some (.int .i64 0) := (blk_cell BK198.out 4).trans rfl
      have hfs35 := blk_frozen BK198.out 4
      have hns35_1 := NB199_198.out
      have hms35_1 := NB198_199.out
      refine skip_ (w1 := ?_) (by rfl) rfl ?_ ?_
      rotate_left
      ·go_simp
       rfl
      refine hK.out _ _ ⟨((cell_far (p := ⟨gb198,_,none⟩) (Y1 ((Y2 hw196_0 GW198.out))) _).trans (((cell_far (p := ⟨gb198,_,none⟩) (Y1 ((Y2 hw196_0 GW198.out))) _).trans (((cell_far (p := ⟨gb198,_,none⟩) (Y1 ((Y2 hw196_0 GW198.out))) _).trans (((cell_far (p := ⟨gb198,_,none⟩) (Y1 ((Y2 hw196_0 GW198.out))) _).trans (((cell_far (p := ⟨gb198,_,none⟩) (Y1 ((Y2 hw196_0 GW198.out))) _).trans (hHeld.1)))))))))),((cell_far (p := ⟨gb198,_,none⟩) (Y1 ((Y2 hw196_1 GW198.out))) _).trans (((cell_far (p := ⟨gb198,_,none⟩) (Y1 ((Y2 hw196_1 GW198.out))) _).trans (((cell_far (p := ⟨gb198,_,none⟩) (Y1 ((Y2 hw196_1 GW198.out))) _).trans (((cell_far (p := ⟨gb198,_,none⟩) (Y1 ((Y2 hw196_1 GW198.out))) _).trans (((cell_far (p := ⟨gb198,_,none⟩) (Y1 ((Y2 hw196_1 GW198.out))) _).trans (hHeld.2.1)))))))))),((cell_far (p := ⟨gb198,_,none⟩) (Y1 ((Y2 hw196_2 GW198.out))) _).trans (((cell_far (p := ⟨gb198,_,none⟩) (Y1 ((Y2 hw196_2 GW198.out))) _).trans (((cell_far (p := ⟨gb198,_,none⟩) (Y1 ((Y2 hw196_2 GW198.out))) _).trans (((cell_far (p := ⟨gb198,_,none⟩) (Y1 ((Y2 hw196_2 GW198.out))) _).trans (((cell_far (p := ⟨gb198,_,none⟩) (Y1 ((Y2 hw196_2 GW198.out))) _).trans (hHeld.2.2.1)))))))))),((cell_far (p := ⟨gb198,_,none⟩) (Y1 ((Y2 hw196_3 GW198.out))) _).trans (((cell_far (p := ⟨gb198,_,none⟩) (Y1 ((Y2 hw196_3 GW198.out))) _).trans (((cell_far (p := ⟨gb198,_,none⟩) (Y1 ((Y2 hw196_3 GW198.out))) _).trans (((cell_far (p := ⟨gb198,_,none⟩) (Y1 ((Y2 hw196_3 GW198.out))) _).trans (((cell_far (p := ⟨gb198,_,none⟩) (Y1 ((Y2 hw196_3 GW198.out))) _).trans (hHeld.2.2.2.1)))))))))),((cell_far (p := ⟨gb198,_,none⟩) (Y1 ((Y2 hw196_4 GW198.out))) _).trans (((cell_far (p := ⟨gb198,_,none⟩) (Y1 ((Y2 hw196_4 GW198.out))) _).trans (((cell_far (p := ⟨gb198,_,none⟩) (Y1 ((Y2 hw196_4 GW198.out))) _).trans (((cell_far (p := ⟨gb198,_,none⟩) (Y1 ((Y2 hw196_4 GW198.out))) _).trans (((cell_far (p := ⟨gb198,_,none⟩) (Y1 ((Y2 hw196_4 GW198.out))) _).trans (hHeld.2.2.2.2.1)))))))))),((cell_far (p := ⟨gb198,_,none⟩) (Y1 ((Y2 hw197_0 GW198.out))) _).trans (((cell_far (p := ⟨gb198,_,none⟩) (Y1 ((Y2 hw197_0 GW198.out))) _).trans (((cell_far (p := ⟨gb198,_,none⟩) (Y1 ((Y2 hw197_0 GW198.out))) _).trans (((cell_far (p := ⟨gb198,_,none⟩) (Y1 ((Y2 hw197_0 GW198.out))) _).trans (((cell_far (p := ⟨gb198,_,none⟩) (Y1 ((Y2 hw197_0 GW198.out))) _).trans (hHeld.2.2.2.2.2.1)))))))))),((cell_far (p := ⟨gb198,_,none⟩) (Y1 ((Y2 hw197_1 GW198.out))) _).trans (((cell_far (p := ⟨gb198,_,none⟩) (Y1 ((Y2 hw197_1 GW198.out))) _).trans (((cell_far (p := ⟨gb198,_,none⟩) (Y1 ((Y2 hw197_1 GW198.out))) _).trans (((cell_far (p := ⟨gb198,_,none⟩) (Y1 ((Y2 hw197_1 GW198.out))) _).trans (((cell_far (p := ⟨gb198,_,none⟩) (Y1 ((Y2 hw197_1 GW198.out))) _).trans (hHeld.2.2.2.2.2.2))))))))))⟩ (fun hHeld => ?_)
      clear hK K
      refine one_ (i := 11) (N := none) #[YT,YT,YT,YT,YT,YT,YT,YT,YT,YT,YT,YT] rfl rfl (one_of HT_.out (by kernel_rfl)) (by decide) (fun K hK => ?_)
      have hs36 : w30.cell? ⟨gb199,0,none⟩ = some (.bool false) := (blk_cell BK199.out 0).trans rfl
      have hfs36 := blk_frozen BK199.out 0
      have hns36_0 := NB198_199.out
      have hms36_0 := NB199_198.out
      have hs37 : w30.cell? ⟨gb199,1,none⟩ = some (.int .i64 0) := (blk_cell BK199.out 1).trans rfl
      have hfs37 := blk_frozen BK199.out 1
      have hns37_0 := NB198_199.out
      have hms37_0 := NB199_198.out
      refine skip_ (w1 := ?_) (by rfl) rfl ?_ ?_
      rotate_left
      ·go_simp
       rfl
      refine hK.out _ _ ⟨((cell_far (p := ⟨gb199,_,none⟩) (Y1 ((Y2 hw196_0 GW199.out))) _).trans (((cell_far (p := ⟨gb199,_,none⟩) (Y1 ((Y2 hw196_0 GW199.out))) _).trans (hHeld.1)))),((cell_far (p := ⟨gb199,_,none⟩) (Y1 ((Y2 hw196_1 GW199.out))) _).trans (((cell_far (p := ⟨gb199,_,none⟩) (Y1 ((Y2 hw196_1 GW199.out))) _).trans (hHeld.2.1)))),((cell_far (p := ⟨gb199,_,none⟩) (Y1 ((Y2 hw196_2 GW199.out))) _).trans (((cell_far (p := ⟨gb199,_,none⟩) (Y1 ((Y2 hw196_2 GW199.out))) _).trans (hHeld.2.2.1)))),((cell_far (p := ⟨gb199,_,none⟩) (Y1 ((Y2 hw196_3 GW199.out))) _).trans (((cell_far (p := ⟨gb199,_,none⟩) (Y1 ((Y2 hw196_3 GW199.out))) _).trans (hHeld.2.2.2.1)))),((cell_far (p := ⟨gb199,_,none⟩) (Y1 ((Y2 hw196_4 GW199.out))) _).trans (((cell_far (p := ⟨gb199,_,none⟩) (Y1 ((Y2 hw196_4 GW199.out))) _).trans (hHeld.2.2.2.2.1)))),((cell_far (p := ⟨gb199,_,none⟩) (Y1 ((Y2 hw197_0 GW199.out))) _).trans (((cell_far (p := ⟨gb199,_,none⟩) (Y1 ((Y2 hw197_0 GW199.out))) _).trans (hHeld.2.2.2.2.2.1)))),((cell_far (p := ⟨gb199,_,none⟩) (Y1 ((Y2 hw197_1 GW199.out))) _).trans (((cell_far (p := ⟨gb199,_,none⟩) (Y1 ((Y2 hw197_1 GW199.out))) _).trans (hHeld.2.2.2.2.2.2))))⟩ (fun hHeld => ?_)
      clear hK K
      refine done_ (done_of HT_.out (by kernel_rfl)) ?_
      go_upto_region 12 with (fail)
      go_cut [76] (fun v76 wc => ∃ (kq : Nat) (x76_25 : Bool),v76 = .bool x76_25 ∧ Aside0 (demand_Step.j1 kq l0 l1 a3 a4 x13_1 x15_1 (rd t191 x48_1) t191 (t191.length : Int) x48_1 x76_25 ((rd_T43 l0 (rd t191 x48_1)).f0) ((rd_T43 l0 (rd t191 x48_1)).f1) ((rd_T43 l0 (rd t191 x48_1)).f2) ((rd_T43 l0 (rd t191 x48_1)).f3) ((rd_T43 l0 (rd t191 x48_1)).f4) = some (r1,r2)) ∧ Aside0 (kq ≤ k1) ∧ Aside0 (Kd.R k51 51 wc w.heap.size (fun k_ => k_ ≠ gb199) v189 x13_1) ∧ Aside0 (Kd.R (Kd.int .i64) 3 wc w.heap.size (fun _ => True) (.slice (some ad195) t191.length co19) t191) ∧ Aside0 (wc.heap[gb198]? = some (.cells #[.string ((rd_T43 l0 (rd t191 x48_1)).f0),.int .i64 ((rd_T43 l0 (rd t191 x48_1)).f1),.int .i64 ((rd_T43 l0 (rd t191 x48_1)).f2),.int .i64 ((rd_T43 l0 (rd t191 x48_1)).f3),.int .i64 ((rd_T43 l0 (rd t191 x48_1)).f4)] 43 (0,0))) ∧ Aside0 (wc.heap[gb199]? = some (.cells #[.bool ((rd_T51 l1 (rd t191 x48_1)).f0),.int .i64 ((rd_T51 l1 (rd t191 x48_1)).f1)] 51 (0,0))) ∧ Aside0 (Below w.heap.size w wc))
      case first =>
       have H := HC26.out
       clear HC26
       by_cases c38 : x15_1 > a3
       ·rw [if_pos c38] at H
        have c38b0 : decide (a3 < x15_1) = true := decide_eq_true c38
        clear c38
        (first | rw [c38b0] | (simp only [i64_w,i32_w];rw [c38b0]) | skip)
        obtain ⟨bq39,hbq39⟩ : ∃ b_ : Bool,b_ = ((rd_T51 l1 (rd t191 x48_1)).f0) := ⟨_,rfl⟩
        replace H : (if (bq39 = true) then (demand_Step.j1 k1 l0 l1 a3 a4 x13_1 x15_1 (rd t191 x48_1) t191 (t191.length : Int) x48_1 false ((rd_T43 l0 (rd t191 x48_1)).f0) ((rd_T43 l0 (rd t191 x48_1)).f1) ((rd_T43 l0 (rd t191 x48_1)).f2) ((rd_T43 l0 (rd t191 x48_1)).f3) ((rd_T43 l0 (rd t191 x48_1)).f4)) else (demand_Step.j1 k1 l0 l1 a3 a4 x13_1 x15_1 (rd t191 x48_1) t191 (t191.length : Int) x48_1 (decide ((wrap64 (a4 - ((rd_T51 l1 (rd t191 x48_1)).f1))) ≥ ((rd_T43 l0 (rd t191 x48_1)).f3))) ((rd_T43 l0 (rd t191 x48_1)).f0) ((rd_T43 l0 (rd t191 x48_1)).f1) ((rd_T43 l0 (rd t191 x48_1)).f2) ((rd_T43 l0 (rd t191 x48_1)).f3) ((rd_T43 l0 (rd t191 x48_1)).f4))) = some (r1,r2) := by rw [← hbq39] at H;exact H
        have Nbq39 := Yd hbq39
        clear hbq39
        (try rw [← Nbq39.out])
        by_cases c40 : (bq39 = true)
        ·subst c40
         have H1 : (demand_Step.j1 k1 l0 l1 a3 a4 x13_1 x15_1 (rd t191 x48_1) t191 (t191.length : Int) x48_1 false ((rd_T43 l0 (rd t191 x48_1)).f0) ((rd_T43 l0 (rd t191 x48_1)).f1) ((rd_T43 l0 (rd t191 x48_1)).f2) ((rd_T43 l0 (rd t191 x48_1)).f3) ((rd_T43 l0 (rd t191 x48_1)).f4)) = some (r1,r2) := by rw [if_pos rfl] at H;exact H
         clear H
         have H := H1
         clear H1
         have H' := Yd H
         clear H
         have hnb41 := NB199_198.out
         have hnc41 := NB198_199.out
         have hcz42_0 : w30.cell? ⟨gb199,0,none⟩ = some (.bool false) := (blk_cell BK199.out 0).trans rfl
         have hcz42_1 : w30.cell? ⟨gb199,1,none⟩ = some (.int .i64 0) := (blk_cell BK199.out 1).trans rfl
         have hfz42_0 := blk_frozen BK199.out 0
         have hfz42_1 := blk_frozen BK199.out 1
         go_wp2
         go_meet
         case rel => (try rw [← Nbq39.out]);exact ⟨_,(false),Y12,H',⟨by have := HK1.out;first | omega | exact Nat.le_refl _⟩,⟨by (with_reducible repeat (first | apply Kd.R_alloc | apply Kd.R_drewN | apply Kd.R_drew));exact Kd.R_mono (Kd.R_far (p := ⟨gb199,1,none⟩) (Kd.R_far (p := ⟨gb199,0,none⟩) (Kd.R_far (p := ⟨gb198,4,none⟩) (Kd.R_far (p := ⟨gb198,3,none⟩) (Kd.R_far (p := ⟨gb198,2,none⟩) (Kd.R_far (p := ⟨gb198,1,none⟩) (Kd.R_far (p := ⟨gb198,0,none⟩) (Kd.R_mono (Kd.R_types HO_13.out BK198.out (by decide)) (fun k_ hk => (⟨hk,hk.1⟩ : _ ∧ k_ ≠ gb199))) (fun _ hk => hk.1.2) (.string ((rd_T43 l0 (rd t191 x48_1)).f0))) (fun _ hk => hk.1.2) (.int .i64 ((rd_T43 l0 (rd t191 x48_1)).f1))) (fun _ hk => hk.1.2) (.int .i64 ((rd_T43 l0 (rd t191 x48_1)).f2))) (fun _ hk => hk.1.2) (.int .i64 ((rd_T43 l0 (rd t191 x48_1)).f3))) (fun _ hk => hk.1.2) (.int .i64 ((rd_T43 l0 (rd t191 x48_1)).f4))) (fun _ hk => hk.2) (.bool (true))) (fun _ hk => hk.2) (.int .i64 ((rd_T51 l1 (rd t191 x48_1)).f1))) (fun _ hk => hk.1.1)⟩,⟨by (with_reducible repeat (first | apply Kd.R_alloc | apply Kd.R_drewN | apply Kd.R_drew));exact Kd.R_mono (Kd.R_far (p := ⟨gb199,1,none⟩) (Kd.R_far (p := ⟨gb199,0,none⟩) (Kd.R_far (p := ⟨gb198,4,none⟩) (Kd.R_far (p := ⟨gb198,3,none⟩) (Kd.R_far (p := ⟨gb198,2,none⟩) (Kd.R_far (p := ⟨gb198,1,none⟩) (Kd.R_far (p := ⟨gb198,0,none⟩) (Kd.R_types (Kd.R_types HO_46.out BK198.out (by decide)) BK199.out (by decide)) (fun _ hk => hk.1.2) (.string ((rd_T43 l0 (rd t191 x48_1)).f0))) (fun _ hk => hk.1.2) (.int .i64 ((rd_T43 l0 (rd t191 x48_1)).f1))) (fun _ hk => hk.1.2) (.int .i64 ((rd_T43 l0 (rd t191 x48_1)).f2))) (fun _ hk => hk.1.2) (.int .i64 ((rd_T43 l0 (rd t191 x48_1)).f3))) (fun _ hk => hk.1.2) (.int .i64 ((rd_T43 l0 (rd t191 x48_1)).f4))) (fun _ hk => hk.2) (.bool (true))) (fun _ hk => hk.2) (.int .i64 ((rd_T51 l1 (rd t191 x48_1)).f1))) (fun _ hk => trivial)⟩,⟨by (with_reducible repeat (first | refine blk_drewN ?_ _ | refine blk_drew ?_ | refine blk_alloc ?_ _));refine blk_far ?_ NB198_199.out _;(with_reducible repeat (first | refine blk_drewN ?_ _ | refine blk_drew ?_ | refine blk_alloc ?_ _));refine blk_far ?_ NB198_199.out _;(with_reducible repeat (first | refine blk_drewN ?_ _ | refine blk_drew ?_ | refine blk_alloc ?_ _));refine blk_put (cs := #[.string ((rd_T43 l0 (rd t191 x48_1)).f0),.int .i64 ((rd_T43 l0 (rd t191 x48_1)).f1),.int .i64 ((rd_T43 l0 (rd t191 x48_1)).f2),.int .i64 ((rd_T43 l0 (rd t191 x48_1)).f3),.int .i64 0]) ?_ 4 _ rfl;(with_reducible repeat (first | refine blk_drewN ?_ _ | refine blk_drew ?_ | refine blk_alloc ?_ _));refine blk_put (cs := #[.string ((rd_T43 l0 (rd t191 x48_1)).f0),.int .i64 ((rd_T43 l0 (rd t191 x48_1)).f1),.int .i64 ((rd_T43 l0 (rd t191 x48_1)).f2),.int .i64 0,.int .i64 0]) ?_ 3 _ rfl;(with_reducible repeat (first | refine blk_drewN ?_ _ | refine blk_drew ?_ | refine blk_alloc ?_ _));refine blk_put (cs := #[.string ((rd_T43 l0 (rd t191 x48_1)).f0),.int .i64 ((rd_T43 l0 (rd t191 x48_1)).f1),.int .i64 0,.int .i64 0,.int .i64 0]) ?_ 2 _ rfl;(with_reducible repeat (first | refine blk_drewN ?_ _ | refine blk_drew ?_ | refine blk_alloc ?_ _));refine blk_put (cs := #[.string ((rd_T43 l0 (rd t191 x48_1)).f0),.int .i64 0,.int .i64 0,.int .i64 0,.int .i64 0]) ?_ 1 _ rfl;(with_reducible repeat (first | refine blk_drewN ?_ _ | refine blk_drew ?_ | refine blk_alloc ?_ _));refine blk_put (cs := #[.string (⟨#[]⟩ : ByteArray),.int .i64 0,.int .i64 0,.int .i64 0,.int .i64 0]) ?_ 0 _ rfl;(with_reducible repeat (first | refine blk_drewN ?_ _ | refine blk_drew ?_ | refine blk_alloc ?_ _));exact BK198.out⟩,⟨by (with_reducible repeat (first | refine blk_drewN ?_ _ | refine blk_drew ?_ | refine blk_alloc ?_ _));refine blk_put (cs := #[.bool (true),.int .i64 0]) ?_ 1 _ rfl;(with_reducible repeat (first | refine blk_drewN ?_ _ | refine blk_drew ?_ | refine blk_alloc ?_ _));refine blk_put (cs := #[.bool false,.int .i64 0]) ?_ 0 _ rfl;(with_reducible repeat (first | refine blk_drewN ?_ _ | refine blk_drew ?_ | refine blk_alloc ?_ _));refine blk_far ?_ NB199_198.out _;(with_reducible repeat (first | refine blk_drewN ?_ _ | refine blk_drew ?_ | refine blk_alloc ?_ _));refine blk_far ?_ NB199_198.out _;(with_reducible repeat (first | refine blk_drewN ?_ _ | refine blk_drew ?_ | refine blk_alloc ?_ _));refine blk_far ?_ NB199_198.out _;(with_reducible repeat (first | refine blk_drewN ?_ _ | refine blk_drew ?_ | refine blk_alloc ?_ _));refine blk_far ?_ NB199_198.out _;(with_reducible repeat (first | refine blk_drewN ?_ _ | refine blk_drew ?_ | refine blk_alloc ?_ _));refine blk_far ?_ NB199_198.out _;(with_reducible repeat (first | refine blk_drewN ?_ _ | refine blk_drew ?_ | refine blk_alloc ?_ _));exact BK199.out⟩,⟨by repeat (first | (with_reducible first | exact HB.out | apply below_alloc | apply Y15 | apply below_drew1 | refine below_set ?_ GE198.out | refine below_set ?_ GE199.out) | exact HB.out)⟩⟩
        ·replace c40 := Bool.eq_false_iff.mpr c40
         subst c40
         have H1 : (demand_Step.j1 k1 l0 l1 a3 a4 x13_1 x15_1 (rd t191 x48_1) t191 (t191.length : Int) x48_1 (decide ((wrap64 (a4 - ((rd_T51 l1 (rd t191 x48_1)).f1))) ≥ ((rd_T43 l0 (rd t191 x48_1)).f3))) ((rd_T43 l0 (rd t191 x48_1)).f0) ((rd_T43 l0 (rd t191 x48_1)).f1) ((rd_T43 l0 (rd t191 x48_1)).f2) ((rd_T43 l0 (rd t191 x48_1)).f3) ((rd_T43 l0 (rd t191 x48_1)).f4)) = some (r1,r2) := by rw [if_neg (show ¬ (false = true) by decide)] at H;exact H
         clear H
         have H := H1
         clear H1
         have H' := Yd H
         clear H
         have hnb43 := NB199_198.out
         have hnc43 := NB198_199.out
         have hcz44_0 : w30.cell? ⟨gb199,0,none⟩ = some (.bool false) := (blk_cell BK199.out 0).trans rfl
         have hcz44_1 : w30.cell? ⟨gb199,1,none⟩ = some (.int .i64 0) := (blk_cell BK199.out 1).trans rfl
         have hfz44_0 := blk_frozen BK199.out 0
         have hfz44_1 := blk_frozen BK199.out 1
         have hcz45_0 : w30.cell? ⟨gb198,0,none⟩ = some (.string (⟨#[]⟩ : ByteArray)) := (blk_cell BK198.out 0).trans rfl
         have hcz45_1 : w30.cell? ⟨gb198,1,none⟩ = some (.int .i64 0) := (blk_cell BK198.out 1).trans rfl
         have hcz45_2 : w30.cell? ⟨gb198,2,none⟩ = some (.int .i64 0) := (blk_cell BK198.out 2).trans rfl
         have hcz45_3 : w30.cell? ⟨gb198,3,none⟩ = some (.int .i64 0) := (blk_cell BK198.out 3).trans rfl
         have hcz45_4 : w30.cell? ⟨gb198,4,none⟩ = some (.int .i64 0) := (blk_cell BK198.out 4).trans rfl
         have hfz45_0 := blk_frozen BK198.out 0
         have hfz45_1 := blk_frozen BK198.out 1
         have hfz45_2 := blk_frozen BK198.out 2
         have hfz45_3 := blk_frozen BK198.out 3
         have hfz45_4 := blk_frozen BK198.out 4
         go_wp2
         go_meet
         case rel => (try rw [← Nbq39.out]);exact ⟨_,(decide ((wrap64 (a4 - ((rd_T51 l1 (rd t191 x48_1)).f1))) ≥ ((rd_T43 l0 (rd t191 x48_1)).f3))),Y12,H',⟨by have := HK1.out;first | omega | exact Nat.le_refl _⟩,⟨by (with_reducible repeat (first | apply Kd.R_alloc | apply Kd.R_drewN | apply Kd.R_drew));exact Kd.R_mono (Kd.R_far (p := ⟨gb199,1,none⟩) (Kd.R_far (p := ⟨gb199,0,none⟩) (Kd.R_far (p := ⟨gb198,4,none⟩) (Kd.R_far (p := ⟨gb198,3,none⟩) (Kd.R_far (p := ⟨gb198,2,none⟩) (Kd.R_far (p := ⟨gb198,1,none⟩) (Kd.R_far (p := ⟨gb198,0,none⟩) (Kd.R_mono (Kd.R_types HO_13.out BK198.out (by decide)) (fun k_ hk => (⟨hk,hk.1⟩ : _ ∧ k_ ≠ gb199))) (fun _ hk => hk.1.2) (.string ((rd_T43 l0 (rd t191 x48_1)).f0))) (fun _ hk => hk.1.2) (.int .i64 ((rd_T43 l0 (rd t191 x48_1)).f1))) (fun _ hk => hk.1.2) (.int .i64 ((rd_T43 l0 (rd t191 x48_1)).f2))) (fun _ hk => hk.1.2) (.int .i64 ((rd_T43 l0 (rd t191 x48_1)).f3))) (fun _ hk => hk.1.2) (.int .i64 ((rd_T43 l0 (rd t191 x48_1)).f4))) (fun _ hk => hk.2) (.bool (false))) (fun _ hk => hk.2) (.int .i64 ((rd_T51 l1 (rd t191 x48_1)).f1))) (fun _ hk => hk.1.1)⟩,⟨by (with_reducible repeat (first | apply Kd.R_alloc | apply Kd.R_drewN | apply Kd.R_drew));exact Kd.R_mono (Kd.R_far (p := ⟨gb199,1,none⟩) (Kd.R_far (p := ⟨gb199,0,none⟩) (Kd.R_far (p := ⟨gb198,4,none⟩) (Kd.R_far (p := ⟨gb198,3,none⟩) (Kd.R_far (p := ⟨gb198,2,none⟩) (Kd.R_far (p := ⟨gb198,1,none⟩) (Kd.R_far (p := ⟨gb198,0,none⟩) (Kd.R_types (Kd.R_types HO_46.out BK198.out (by decide)) BK199.out (by decide)) (fun _ hk => hk.1.2) (.string ((rd_T43 l0 (rd t191 x48_1)).f0))) (fun _ hk => hk.1.2) (.int .i64 ((rd_T43 l0 (rd t191 x48_1)).f1))) (fun _ hk => hk.1.2) (.int .i64 ((rd_T43 l0 (rd t191 x48_1)).f2))) (fun _ hk => hk.1.2) (.int .i64 ((rd_T43 l0 (rd t191 x48_1)).f3))) (fun _ hk => hk.1.2) (.int .i64 ((rd_T43 l0 (rd t191 x48_1)).f4))) (fun _ hk => hk.2) (.bool (false))) (fun _ hk => hk.2) (.int .i64 ((rd_T51 l1 (rd t191 x48_1)).f1))) (fun _ hk => trivial)⟩,⟨by (with_reducible repeat (first | refine blk_drewN ?_ _ | refine blk_drew ?_ | refine blk_alloc ?_ _));refine blk_far ?_ NB198_199.out _;(with_reducible repeat (first | refine blk_drewN ?_ _ | refine blk_drew ?_ | refine blk_alloc ?_ _));refine blk_far ?_ NB198_199.out _;(with_reducible repeat (first | refine blk_drewN ?_ _ | refine blk_drew ?_ | refine blk_alloc ?_ _));refine blk_put (cs := #[.string ((rd_T43 l0 (rd t191 x48_1)).f0),.int .i64 ((rd_T43 l0 (rd t191 x48_1)).f1),.int .i64 ((rd_T43 l0 (rd t191 x48_1)).f2),.int .i64 ((rd_T43 l0 (rd t191 x48_1)).f3),.int .i64 0]) ?_ 4 _ rfl;(with_reducible repeat (first | refine blk_drewN ?_ _ | refine blk_drew ?_ | refine blk_alloc ?_ _));refine blk_put (cs := #[.string ((rd_T43 l0 (rd t191 x48_1)).f0),.int .i64 ((rd_T43 l0 (rd t191 x48_1)).f1),.int .i64 ((rd_T43 l0 (rd t191 x48_1)).f2),.int .i64 0,.int .i64 0]) ?_ 3 _ rfl;(with_reducible repeat (first | refine blk_drewN ?_ _ | refine blk_drew ?_ | refine blk_alloc ?_ _));refine blk_put (cs := #[.string ((rd_T43 l0 (rd t191 x48_1)).f0),.int .i64 ((rd_T43 l0 (rd t191 x48_1)).f1),.int .i64 0,.int .i64 0,.int .i64 0]) ?_ 2 _ rfl;(with_reducible repeat (first | refine blk_drewN ?_ _ | refine blk_drew ?_ | refine blk_alloc ?_ _));refine blk_put (cs := #[.string ((rd_T43 l0 (rd t191 x48_1)).f0),.int .i64 0,.int .i64 0,.int .i64 0,.int .i64 0]) ?_ 1 _ rfl;(with_reducible repeat (first | refine blk_drewN ?_ _ | refine blk_drew ?_ | refine blk_alloc ?_ _));refine blk_put (cs := #[.string (⟨#[]⟩ : ByteArray),.int .i64 0,.int .i64 0,.int .i64 0,.int .i64 0]) ?_ 0 _ rfl;(with_reducible repeat (first | refine blk_drewN ?_ _ | refine blk_drew ?_ | refine blk_alloc ?_ _));exact BK198.out⟩,⟨by (with_reducible repeat (first | refine blk_drewN ?_ _ | refine blk_drew ?_ | refine blk_alloc ?_ _));refine blk_put (cs := #[.bool (false),.int .i64 0]) ?_ 1 _ rfl;(with_reducible repeat (first | refine blk_drewN ?_ _ | refine blk_drew ?_ | refine blk_alloc ?_ _));refine blk_put (cs := #[.bool false,.int .i64 0]) ?_ 0 _ rfl;(with_reducible repeat (first | refine blk_drewN ?_ _ | refine blk_drew ?_ | refine blk_alloc ?_ _));refine blk_far ?_ NB199_198.out _;(with_reducible repeat (first | refine blk_drewN ?_ _ | refine blk_drew ?_ | refine blk_alloc ?_ _));refine blk_far ?_ NB199_198.out _;(with_reducible repeat (first | refine blk_drewN ?_ _ | refine blk_drew ?_ | refine blk_alloc ?_ _));refine blk_far ?_ NB199_198.out _;(with_reducible repeat (first | refine blk_drewN ?_ _ | refine blk_drew ?_ | refine blk_alloc ?_ _));refine blk_far ?_ NB199_198.out _;(with_reducible repeat (first | refine blk_drewN ?_ _ | refine blk_drew ?_ | refine blk_alloc ?_ _));refine blk_far ?_ NB199_198.out _;(with_reducible repeat (first | refine blk_drewN ?_ _ | refine blk_drew ?_ | refine blk_alloc ?_ _));exact BK199.out⟩,⟨by repeat (first | (with_reducible first | exact HB.out | apply below_alloc | apply Y15 | apply below_drew1 | refine below_set ?_ GE198.out | refine below_set ?_ GE199.out) | exact HB.out)⟩⟩
       ·rw [if_neg c38] at H
        have c38b0 : decide (a3 < x15_1) = false := decide_eq_false c38
        clear c38
        (first | rw [c38b0] | (simp only [i64_w,i32_w];rw [c38b0]) | skip)
        have H' := Yd H
        clear H
        go_wp2
        go_meet
        case rel => exact ⟨_,(false),Y12,H',⟨by have := HK1.out;first | omega | exact Nat.le_refl _⟩,⟨by (with_reducible repeat (first | apply Kd.R_alloc | apply Kd.R_drewN | apply Kd.R_drew));exact Kd.R_mono (Kd.R_far (p := ⟨gb199,1,none⟩) (Kd.R_far (p := ⟨gb199,0,none⟩) (Kd.R_far (p := ⟨gb198,4,none⟩) (Kd.R_far (p := ⟨gb198,3,none⟩) (Kd.R_far (p := ⟨gb198,2,none⟩) (Kd.R_far (p := ⟨gb198,1,none⟩) (Kd.R_far (p := ⟨gb198,0,none⟩) (Kd.R_mono (Kd.R_types HO_13.out BK198.out (by decide)) (fun k_ hk => (⟨hk,hk.1⟩ : _ ∧ k_ ≠ gb199))) (fun _ hk => hk.1.2) (.string ((rd_T43 l0 (rd t191 x48_1)).f0))) (fun _ hk => hk.1.2) (.int .i64 ((rd_T43 l0 (rd t191 x48_1)).f1))) (fun _ hk => hk.1.2) (.int .i64 ((rd_T43 l0 (rd t191 x48_1)).f2))) (fun _ hk => hk.1.2) (.int .i64 ((rd_T43 l0 (rd t191 x48_1)).f3))) (fun _ hk => hk.1.2) (.int .i64 ((rd_T43 l0 (rd t191 x48_1)).f4))) (fun _ hk => hk.2) (.bool ((rd_T51 l1 (rd t191 x48_1)).f0))) (fun _ hk => hk.2) (.int .i64 ((rd_T51 l1 (rd t191 x48_1)).f1))) (fun _ hk => hk.1.1)⟩,⟨by (with_reducible repeat (first | apply Kd.R_alloc | apply Kd.R_drewN | apply Kd.R_drew));exact Kd.R_mono (Kd.R_far (p := ⟨gb199,1,none⟩) (Kd.R_far (p := ⟨gb199,0,none⟩) (Kd.R_far (p := ⟨gb198,4,none⟩) (Kd.R_far (p := ⟨gb198,3,none⟩) (Kd.R_far (p := ⟨gb198,2,none⟩) (Kd.R_far (p := ⟨gb198,1,none⟩) (Kd.R_far (p := ⟨gb198,0,none⟩) (Kd.R_types (Kd.R_types HO_46.out BK198.out (by decide)) BK199.out (by decide)) (fun _ hk => hk.1.2) (.string ((rd_T43 l0 (rd t191 x48_1)).f0))) (fun _ hk => hk.1.2) (.int .i64 ((rd_T43 l0 (rd t191 x48_1)).f1))) (fun _ hk => hk.1.2) (.int .i64 ((rd_T43 l0 (rd t191 x48_1)).f2))) (fun _ hk => hk.1.2) (.int .i64 ((rd_T43 l0 (rd t191 x48_1)).f3))) (fun _ hk => hk.1.2) (.int .i64 ((rd_T43 l0 (rd t191 x48_1)).f4))) (fun _ hk => hk.2) (.bool ((rd_T51 l1 (rd t191 x48_1)).f0))) (fun _ hk => hk.2) (.int .i64 ((rd_T51 l1 (rd t191 x48_1)).f1))) (fun _ hk => trivial)⟩,⟨by (with_reducible repeat (first | refine blk_drewN ?_ _ | refine blk_drew ?_ | refine blk_alloc ?_ _));refine blk_far ?_ NB198_199.out _;(with_reducible repeat (first | refine blk_drewN ?_ _ | refine blk_drew ?_ | refine blk_alloc ?_ _));refine blk_far ?_ NB198_199.out _;(with_reducible repeat (first | refine blk_drewN ?_ _ | refine blk_drew ?_ | refine blk_alloc ?_ _));refine blk_put (cs := #[.string ((rd_T43 l0 (rd t191 x48_1)).f0),.int .i64 ((rd_T43 l0 (rd t191 x48_1)).f1),.int .i64 ((rd_T43 l0 (rd t191 x48_1)).f2),.int .i64 ((rd_T43 l0 (rd t191 x48_1)).f3),.int .i64 0]) ?_ 4 _ rfl;(with_reducible repeat (first | refine blk_drewN ?_ _ | refine blk_drew ?_ | refine blk_alloc ?_ _));refine blk_put (cs := #[.string ((rd_T43 l0 (rd t191 x48_1)).f0),.int .i64 ((rd_T43 l0 (rd t191 x48_1)).f1),.int .i64 ((rd_T43 l0 (rd t191 x48_1)).f2),.int .i64 0,.int .i64 0]) ?_ 3 _ rfl;(with_reducible repeat (first | refine blk_drewN ?_ _ | refine blk_drew ?_ | refine blk_alloc ?_ _));refine blk_put (cs := #[.string ((rd_T43 l0 (rd t191 x48_1)).f0),.int .i64 ((rd_T43 l0 (rd t191 x48_1)).f1),.int .i64 0,.int .i64 0,.int .i64 0]) ?_ 2 _ rfl;(with_reducible repeat (first | refine blk_drewN ?_ _ | refine blk_drew ?_ | refine blk_alloc ?_ _));refine blk_put (cs := #[.string ((rd_T43 l0 (rd t191 x48_1)).f0),.int .i64 0,.int .i64 0,.int .i64 0,.int .i64 0]) ?_ 1 _ rfl;(with_reducible repeat (first | refine blk_drewN ?_ _ | refine blk_drew ?_ | refine blk_alloc ?_ _));refine blk_put (cs := #[.string (⟨#[]⟩ : ByteArray),.int .i64 0,.int .i64 0,.int .i64 0,.int .i64 0]) ?_ 0 _ rfl;(with_reducible repeat (first | refine blk_drewN ?_ _ | refine blk_drew ?_ | refine blk_alloc ?_ _));exact BK198.out⟩,⟨by (with_reducible repeat (first | refine blk_drewN ?_ _ | refine blk_drew ?_ | refine blk_alloc ?_ _));refine blk_put (cs := #[.bool ((rd_T51 l1 (rd t191 x48_1)).f0),.int .i64 0]) ?_ 1 _ rfl;(with_reducible repeat (first | refine blk_drewN ?_ _ | refine blk_drew ?_ | refine blk_alloc ?_ _));refine blk_put (cs := #[.bool false,.int .i64 0]) ?_ 0 _ rfl;(with_reducible repeat (first | refine blk_drewN ?_ _ | refine blk_drew ?_ | refine blk_alloc ?_ _));refine blk_far ?_ NB199_198.out _;(with_reducible repeat (first | refine blk_drewN ?_ _ | refine blk_drew ?_ | refine blk_alloc ?_ _));refine blk_far ?_ NB199_198.out _;(with_reducible repeat (first | refine blk_drewN ?_ _ | refine blk_drew ?_ | refine blk_alloc ?_ _));refine blk_far ?_ NB199_198.out _;(with_reducible repeat (first | refine blk_drewN ?_ _ | refine blk_drew ?_ | refine blk_alloc ?_ _));refine blk_far ?_ NB199_198.out _;(with_reducible repeat (first | refine blk_drewN ?_ _ | refine blk_drew ?_ | refine blk_alloc ?_ _));refine blk_far ?_ NB199_198.out _;(with_reducible repeat (first | refine blk_drewN ?_ _ | refine blk_drew ?_ | refine blk_alloc ?_ _));exact BK199.out⟩,⟨by repeat (first | (with_reducible first | exact HB.out | apply below_alloc | apply Y15 | apply below_drew1 | refine below_set ?_ GE198.out | refine below_set ?_ GE199.out) | exact HB.out)⟩⟩
      case rest =>
       clear HC26
       try clear c1
       try clear p1
       try clear q1
       try clear hx1
       try clear c2
       try clear p2
       try clear c3
       try clear q3
       try clear c4
       try clear c5
       try clear p6
       try clear c7
       try clear c7b0
       try clear c7b1
       try clear c11
       try clear c11b0
       try clear p19
       try clear q19
       try clear hx19
       try clear c20
       try clear c20b0
       try clear c21
       try clear c21b0
       try clear c22
       try clear c22b0
       try clear c23
       try clear c23b0
       try clear c24
       try clear c24b0
       try clear c25
       try clear c25b0
       try clear c38
       try clear c38b0
       try clear q39
       try clear c40
       try clear c41
       try clear c43
       try clear hcz42_0
       try clear hcz42_1
       try clear hcz44_0
       try clear hcz44_1
       try clear hcz45_0
       try clear hcz45_1
       try clear hcz45_2
       try clear hcz45_3
       try clear hcz45_4
       try clear hfz42_0
       try clear hfz42_1
       try clear hfz44_0
       try clear hfz44_1
       try clear hfz45_0
       try clear hfz45_1
       try clear hfz45_2
       try clear hfz45_3
       try clear hfz45_4
       try clear hx195_0
       try clear hx196_0
       try clear hx196_1
       try clear hx196_2
       try clear hx196_3
       try clear hx196_4
       try clear hx197_0
       try clear hx197_1
       try clear p195
       try clear p196
       try clear p197
       try clear p2
       try clear p6
       try clear q195
       try clear q196
       try clear q197
       obtain ⟨kq,x76_25,rfl,HA,HJ25,HO_13,HO_46,BK198,BK199,HB⟩ := hcut
       cases kq with
       | zero => exact absurd HA.out (by simp [demand_Step.j1])
       | succ kj25 =>
        have H := HA.out
        clear HA
        simp only [demand_Step.j1] at H
        by_cases c46 : x76_25 = true
        ·subst c46
         have H1 : (if 0 ≤ (rd t191 x48_1) then (if (rd t191 x48_1) < (x13_1.length : Int) then (demand_Step.l0 kj25 l0 l1 a3 a4 (x13_1.set ((rd t191 x48_1) : Int).toNat (⟨true,a4⟩ : S51)) (wrap64 (x15_1 - ((rd_T43 l0 (rd t191 x48_1)).f2))) t191 (t191.length : Int) (wrap64 (x48_1 + 1))) else (none)) else (none)) = some (r1,r2) := by rw [if_pos rfl] at H;exact H
         clear H
         have H := H1
         clear H1
         by_cases c47 : 0 ≤ (rd t191 x48_1)
         case neg => rw [if_neg c47] at H;exact absurd H (by simp)
         rw [if_pos c47] at H
         have c47b0 : decide (0 ≤ (rd t191 x48_1)) = true := decide_eq_true c47
         clear c47
         by_cases c48 : (rd t191 x48_1) < (x13_1.length : Int)
         case neg => rw [if_neg c48] at H;exact absurd H (by simp)
         rw [if_pos c48] at H
         have c48b0 : decide ((rd t191 x48_1) < (x13_1.length : Int)) = true := decide_eq_true c48
         clear c48
         obtain ⟨y200,hy200⟩ : ∃ y_ : List (S51),y_ = (x13_1.set ((rd t191 x48_1) : Int).toNat (⟨true,a4⟩ : S51)) := ⟨_,rfl⟩
         replace H : (demand_Step.l0 kj25 l0 l1 a3 a4 y200 (wrap64 (x15_1 - ((rd_T43 l0 (rd t191 x48_1)).f2))) t191 (t191.length : Int) (wrap64 (x48_1 + 1))) = some (r1,r2) := by first | (rw [hy200];with_reducible exact H) | (have H2_ := (Option.bind_some _ _).symm.trans H;rw [hy200];with_reducible exact H2_) | (have H2_ := (Option.bind_some _ _).symm.trans H;with_reducible exact H2_) | with_reducible exact H | (rw [hy200];exact H) | exact H
         have Ny200 := Yd hy200
         clear hy200
         have H' := Yd H
         clear H
         have p49 : 0 ≤ ((rd t191 x48_1) : Int) := Y9
         have q49 : ((rd t191 x48_1) : Int) < ((x13_1.length : Int) : Int) := Y9
         obtain ⟨go49,co49,eo49,gb49,gl49,cl49,HG49⟩ := Kd.R_form HO_13.out (by omega)
         (first | cases eo49 | (injection eo49 with ea_ en_ ec_;(first | subst ea_ | (injection ea_ with ea_;subst ea_));subst ec_;clear en_))
         have GB49 := Yd gb49
         have GG49 := Yd HG49
         clear gb49 gl49 HG49
         obtain ⟨ce49,hcl49,hM49,hcc49,hfr49⟩ := Kd.R_elem HO_13.out z51 ((rd t191 x48_1) : Int) p49 q49
         obtain rfl := k51_openM hM49
         have hx49_0 : wc.cell? ⟨go49,((rd t191 x48_1) : Int).toNat * 2,none⟩ = some (.bool ((rd_T51 x13_1 (rd t191 x48_1)).f0)) := hcc49 0 _ rfl
         have hx49_1 : wc.cell? ⟨go49,((rd t191 x48_1) : Int).toNat * 2 + 1,none⟩ = some (.int .i64 ((rd_T51 x13_1 (rd t191 x48_1)).f1)) := hcc49 1 _ rfl
         have hf49_0 : wc.frozen? ⟨go49,((rd t191 x48_1) : Int).toNat * 2,none⟩ = false := hfr49 0
         have hf49_1 : wc.frozen? ⟨go49,((rd t191 x48_1) : Int).toNat * 2 + 1,none⟩ = false := hfr49 1
         clear hcl49 hcc49 hfr49 hM49
         replace p49 := eq_true p49
         replace q49 := eq_true q49
         have HX50 := Yd (show Kd.R k51 51 wc w.heap.size (fun k_ => k_ ≠ gb199) (.slice (some ⟨go49,0,none⟩) x13_1.length co49) x13_1 from (Y5 HO_13.out))
         obtain ⟨ce50,hcl50,hM50,hcc50,hfr50⟩ := Kd.R_elem HX50.out z51 ((rd t191 x48_1) : Int) (Y9) (by have h_ : ((rd t191 x48_1) : Int) < ((x13_1.length : Int) : Int) := Y9;first | exact h_ | (have e_ := (Kd.R_reads' HO_13.out).1;omega) | simpa using h_)
         obtain rfl := k51_openM hM50
         have HP50 := Kd.R_seg HX50.out ((rd t191 x48_1) : Int) (Y9) (by have h_ : ((rd t191 x48_1) : Int) < ((x13_1.length : Int) : Int) := Y9;first | exact h_ | (have e_ := (Kd.R_reads' HO_13.out).1;omega) | simpa using h_) (seg := [.bool true,.int .i64 a4]) (j := 0) hcl50 hcc50 (show 2 ≤ 2 from by decide) (x' := (⟨true,a4⟩ : S51)) (k51_mkM _ _ _ (⟨true,a4⟩ : S51) ) (fun _ hk => hk)
         have hx50_0 := hcc50 0 _ rfl
         (try simp only [show (k51).sz = 2 from rfl,Nat.mul_one,Nat.add_zero] at hx50_0)
         have hf50_0 := hfr50 0
         (try simp only [show (k51).sz = 2 from rfl,Nat.mul_one,Nat.add_zero] at hf50_0)
         have hx50_1 := hcc50 1 _ rfl
         (try simp only [show (k51).sz = 2 from rfl,Nat.mul_one,Nat.add_zero] at hx50_1)
         have hf50_1 := hfr50 1
         (try simp only [show (k51).sz = 2 from rfl,Nat.mul_one,Nat.add_zero] at hf50_1)
         clear hcl50 hcc50 hfr50 hM50
         go_wp2_with (first | ((with_reducible refine gate_store (t := 51) (p := 81) rfl ?_);refine store_event (t := 51) (p := 81) (v := ?vo_w51) (w1 := ((wc.setCell ⟨go49,((rd t191 x48_1) : Int).toNat * 2,none⟩ (.bool true)).setCell ⟨go49,((rd t191 x48_1) : Int).toNat * 2 + 1,none⟩ (.int .i64 a4))) ?hg ?ho ?hn ?hr ?_;(case ho => rfl);(case hg => rfl);(case hn => rfl);(case hr => first | (go_simp;done) | (go_simp;rfl));intro w51 hw;have hg : wc.grownBy w51 (some go49) := (by rw [hw];exact HP50.2);have hp_ : Kd.R k51 51 w51 w.heap.size (fun k_ => k_ ≠ gb199) (.slice (some ⟨go49,0,none⟩) x13_1.length co49) y200 := (by rw [hw,Ny200.out];exact HP50.1);clear HP50;have n0_ := Yd (hp_);have n1_ := Yd (Kd.R_over' (v := (.slice (some ⟨go49,0,none⟩) x13_1.length co49)) (Y5 HO_46.out) (Kd.R_typed HO_13.out) (by decide) hg);have n2_ := Yd (blk_grown (g := gb198) (o := .cells #[.string ((rd_T43 l0 (rd t191 x48_1)).f0),.int .i64 ((rd_T43 l0 (rd t191 x48_1)).f1),.int .i64 ((rd_T43 l0 (rd t191 x48_1)).f2),.int .i64 ((rd_T43 l0 (rd t191 x48_1)).f3),.int .i64 ((rd_T43 l0 (rd t191 x48_1)).f4)] 43 (0,0)) (Y6 BK198.out) hg (Kd.R_ne HO_13.out BK198.out (by decide)));have n3_ := Yd (blk_grown (g := gb199) (o := .cells #[.bool ((rd_T51 l1 (rd t191 x48_1)).f0),.int .i64 ((rd_T51 l1 (rd t191 x48_1)).f1)] 51 (0,0)) (Y6 BK199.out) hg (Kd.R_away HO_13.out (fun _ hk => hk)));have n4_ := Yd ((by rw [hw];exact below_set (below_set (HB.out) GB49.out) GB49.out : Below w.heap.size w w51));clear HO_13;clear HO_46;clear BK198;clear BK199;clear HB;have HO_13 := n0_;have HO_46 := n1_;have BK198 := n2_;have BK199 := n3_;have HB := n4_;clear n0_ n1_ n2_ n3_ n4_;clear hg hw hp_;have hnb52 := NB198_199.out;have hnc52 := NB199_198.out;have hcz53_0 : w51.cell? ⟨gb198,0,none⟩ = some (.string ((rd_T43 l0 (rd t191 x48_1)).f0)) := (blk_cell BK198.out 0).trans rfl;have hcz53_1 : w51.cell? ⟨gb198,1,none⟩ = some (.int .i64 ((rd_T43 l0 (rd t191 x48_1)).f1)) := (blk_cell BK198.out 1).trans rfl;have hcz53_2 : w51.cell? ⟨gb198,2,none⟩ = some (.int .i64 ((rd_T43 l0 (rd t191 x48_1)).f2)) := (blk_cell BK198.out 2).trans rfl;have hcz53_3 : w51.cell? ⟨gb198,3,none⟩ = some (.int .i64 ((rd_T43 l0 (rd t191 x48_1)).f3)) := (blk_cell BK198.out 3).trans rfl;have hcz53_4 : w51.cell? ⟨gb198,4,none⟩ = some (.int .i64 ((rd_T43 l0 (rd t191 x48_1)).f4)) := (blk_cell BK198.out 4).trans rfl;have hfz53_0 := blk_frozen BK198.out 0;have hfz53_1 := blk_frozen BK198.out 1;have hfz53_2 := blk_frozen BK198.out 2;have hfz53_3 := blk_frozen BK198.out 3;have hfz53_4 := blk_frozen BK198.out 4))
         go_roundg kj25
         case measure => have := HK1.out;have := HJ25.out;omega
         case rel => exact ⟨(y200),(wrap64 (x15_1 - ((rd_T43 l0 (rd t191 x48_1)).f2))),(wrap64 (x48_1 + 1)),Y12,Y12,H',⟨by have := HK1.out;have := HJ25.out;omega⟩,⟨by (with_reducible repeat (first | apply Kd.R_alloc | apply Kd.R_drewN | apply Kd.R_drew));exact Kd.R_mono HO_13.out (fun _ hk => trivial)⟩,⟨Y5 HO_46.out⟩,⟨by repeat (first | (with_reducible first | exact HB.out | apply below_alloc | apply Y15 | apply below_drew1 | refine below_set ?_ GE198.out | refine below_set ?_ GE199.out) | exact HB.out)⟩⟩
        ·replace c46 := Bool.eq_false_iff.mpr c46
         subst c46
         have H1 : (demand_Step.l0 kj25 l0 l1 a3 a4 x13_1 x15_1 t191 (t191.length : Int) (wrap64 (x48_1 + 1))) = some (r1,r2) := by rw [if_neg (show ¬ (false = true) by decide)] at H;exact H
         clear H
         have H := H1
         clear H1
         have H' := Yd H
         clear H
         go_wp2
         go_roundg kj25
         case measure => have := HK1.out;have := HJ25.out;omega
         case rel => exact ⟨(x13_1),(x15_1),(wrap64 (x48_1 + 1)),Y12,Y12,H',⟨by have := HK1.out;have := HJ25.out;omega⟩,⟨by (with_reducible repeat (first | apply Kd.R_alloc | apply Kd.R_drewN | apply Kd.R_drew));exact Kd.R_mono HO_13.out (fun _ hk => trivial)⟩,⟨Y5 HO_46.out⟩,⟨by repeat (first | (with_reducible first | exact HB.out | apply below_alloc | apply Y15 | apply below_drew1 | refine below_set ?_ GE198.out | refine below_set ?_ GE199.out) | exact HB.out)⟩⟩
     ·rw [if_neg c20] at H
      have c20b0 : decide (x48_1 < (t191.length : Int)) = false := decide_eq_false c20
      clear c20
      simp only [Option.some.injEq,Prod.mk.injEq] at H
      obtain ⟨rfl,rfl⟩ := H
      go_wp2
      go_ret2
      exact ⟨_,by first | rfl | (simp [errW_none,errW_some] <;> rfl) | (simp [*,errW_none,errW_some] <;> rfl),by (with_reducible repeat (first | apply Kd.R_alloc | apply Kd.R_drewN | apply Kd.R_drew));exact HO_13.out,Y3 HB.out⟩
  ·rw [if_neg c11] at H
   have c11b0 : decide (a3 < (wrap64 (a2 + t194))) = false := decide_eq_false c11
   clear c11
   replace H := Option.bind_eq_some_iff.mp H
   obtain ⟨t201,A540,H⟩ := H
   replace H : (demand_Step.l1 k l0 l1 a3 a4 t188 (wrap64 (a2 + t194)) t201 (t191.length : Int) 0) = some (r1,r2) := H
   have A54 := Yd A540
   clear A540
   have H' := Yd H
   clear H
   go_enter Try.func5,Try.ntmps5
   go_wp2_with (first | ((with_reducible refine gate_dst (N := 29) rfl ?_);refine Kd.R_lit (Kd.int .i64) _ 2 ?hg (N := 29) ?hd (xs := ([a2,a3] : List Int)) (inner := [.int .i64 a2,.int .i64 a3]) (ok := fun _ => True) (okp := fun _ => True) ?hr ?hp (fun _ hk => hk) trivial (Below.refl _ _) (Nat.le_refl _) (by simp) ?_;(case hd => rfl);(case hg => rfl);(case hr => first | (go_simp;done) | (go_simp;rfl));(case hp => exact (Reps.one (show Kd.M (Kd.int .i64) _ _ _ a2 [.int .i64 a2] from rfl) (Reps.one (show Kd.M (Kd.int .i64) _ _ _ a3 [.int .i64 a3] from rfl) (Reps.none _ _))));intro v185 w55 ho56 hb hg_ hnew_;clear hg_ hnew_;(first | rw [← Ny184.out] at ho56 | (simp only [Int.reduceToNat] at ho56;rw [← Ny184.out] at ho56));have n0_ := Yd (Kd.R_lower ho56 (below_size (Y3 HB.out)));have n1_ := Yd (below_step (Y3 HB.out) hb);clear HB;have HO186 := n0_;have HB := n1_;clear n0_ n1_;clear hb ho56;obtain ⟨Ao57,co57,eo57⟩ := Kd.R_slice HO186.out;subst eo57) | ((with_reducible refine gate_callee (f := 22) rfl ?_);refine goesL_ (some 30) rfl rfl Try.func22 (by kernel_rfl) rfl #[.slice A0 l0.length c0,.slice A1 l1.length c1,.int .i64 a4,.slice Ao57 y184.length co57] rfl Y8 ?_;(with_reducible refine (demand_check.calls k _ _ l0 _ _ l1 a4 _ _ y184 t187 _ ?side1 ?side2 ?side3 ?side4 ?side5 ?side6 A6.out).mono ?_);(case side1 => exact Y11 (Kd.C_below HR0.out HB.out));(case side2 => exact HC0.out);(case side3 => exact Y11 (Kd.C_below HR1.out HB.out));(case side4 => exact HC1.out);(case side5 => repeat (first | exact (Kd.R_reads' HO186.out).2.2 | (with_reducible refine Kd.C_alloc ?_ _) | (with_reducible refine Kd.C_drewN ?_ _) | (with_reducible refine Kd.C_drew ?_)));(case side6 => exact (Kd.R_reads' HO186.out).2.1);rintro e w58 ⟨rfl,hb⟩;refine ⟨_,rfl,?_⟩;have n0_ := Yd (Kd.R_below (Y5 HO186.out) hb);have n1_ := Yd (below_step (Y3 HB.out) hb);clear HO186;clear HB;have HO186 := n0_;have HB := n1_;clear n0_ n1_;(try clear hb);(try clear hb2);(try clear hk);(try clear hi)) | ((with_reducible refine gate_callee (f := 23) rfl ?_);refine goesL_ (some 35) rfl rfl Try.func23 (by kernel_rfl) rfl #[.slice A1 l1.length c1] rfl Y8 ?_;(with_reducible refine (demand_State_23.calls _ _ l1 t188 _ ?side1 ?side2 A8.out).mono ?_);(case side1 => exact Y11 (Kd.C_below HR1.out HB.out));(case side2 => exact HC1.out);rintro e w59 ⟨v189,rfl,ho0,hb⟩;refine ⟨_,rfl,?_⟩;have n0_ := Yd (Kd.R_below (Y5 HO186.out) hb);have n1_ := Yd (Kd.R_lower ho0 (below_size (Y3 HB.out)));have n2_ := Yd (below_step (Y3 HB.out) hb);clear HO186;clear HB;have HO186 := n0_;have HO190 := n1_;have HB := n2_;clear n0_ n1_ n2_;(try clear hb);(try clear hb2);(try clear hk);(try clear hi);(try clear ho0)) | ((with_reducible refine gate_callee (f := 24) rfl ?_);refine goesL_ (some 37) rfl rfl Try.func24 (by kernel_rfl) rfl #[.slice A0 l0.length c0] rfl Y8 ?_;(with_reducible refine (demand_order.calls k _ _ l0 t191 _ ?side1 ?side2 A9.out).mono ?_);(case side1 => exact Y11 (Kd.C_below HR0.out HB.out));(case side2 => exact HC0.out);rintro e w60 ⟨v192,rfl,ho0,hb⟩;refine ⟨_,rfl,?_⟩;have n0_ := Yd (Kd.R_below (Y5 HO186.out) hb);have n1_ := Yd (Kd.R_below (Y5 HO190.out) hb);have n2_ := Yd (Kd.R_lower ho0 (below_size (Y3 HB.out)));have n3_ := Yd (below_step (Y3 HB.out) hb);clear HO186;clear HO190;clear HB;have HO186 := n0_;have HO190 := n1_;have HO193 := n2_;have HB := n3_;clear n0_ n1_ n2_ n3_;(try clear hb);(try clear hb2);(try clear hk);(try clear hi);(try clear ho0)) | ((with_reducible refine gate_callee (f := 25) rfl ?_);refine goesL_ (some 41) rfl rfl Try.func25 (by kernel_rfl) rfl #[.slice A0 l0.length c0,.slice A1 l1.length c1] rfl Y8 ?_;(with_reducible refine (demand_power.calls k _ _ l0 _ _ l1 t194 _ ?side1 ?side2 ?side3 ?side4 A10.out).mono ?_);(case side1 => exact Y11 (Kd.C_below HR0.out HB.out));(case side2 => exact HC0.out);(case side3 => exact Y11 (Kd.C_below HR1.out HB.out));(case side4 => exact HC1.out);rintro e w61 ⟨rfl,hb⟩;refine ⟨_,rfl,?_⟩;have n0_ := Yd (Kd.R_below (Y5 HO186.out) hb);have n1_ := Yd (Kd.R_below (Y5 HO190.out) hb);have n2_ := Yd (Kd.R_below (Y5 HO193.out) hb);have n3_ := Yd (below_step (Y3 HB.out) hb);clear HO186;clear HO190;clear HO193;clear HB;have HO186 := n0_;have HO190 := n1_;have HO193 := n2_;have HB := n3_;clear n0_ n1_ n2_ n3_;(try clear hb);(try clear hb2);(try clear hk);(try clear hi);obtain ⟨Ao62,co62,eo62⟩ := Kd.R_slice HO193.out;subst eo62) | ((with_reducible refine gate_callee (f := 26) rfl ?_);refine goesL_ (some 89) rfl rfl Try.func26 (by kernel_rfl) rfl #[.slice Ao62 t191.length co62] rfl Y8 ?_;(with_reducible refine (slices_Reverse_int_int.calls k (fun k_ => some k_ = (.slice Ao62 t191.length co62 : Value).ownBlock) (.slice Ao62 t191.length co62) t191 t201 w _ ?side1 ?side2 A54.out).mono ?_);(case side1 => repeat (first | (with_reducible first | exact HB.out | apply below_alloc | apply Y15 | apply below_drew1) | exact HB.out));(case side2 => exact Kd.R_tight rfl HO193.out);rintro e w63 ⟨rfl,hy0,hb,hkp⟩;refine ⟨_,rfl,?_⟩;have n0_ := Yd (Kd.R_mono (ok' := fun k_ => True) (Kd.R_keptB ((Kd.R_apart' HO186.out (Kd.R_typed HO193.out) (by decide))) hkp (fun k_ hk_ hs_ => (hk_.2) hs_)) (fun k_ hk_ => trivial));have n1_ := Yd (Kd.R_mono (ok' := fun k_ => True) (Kd.R_keptB ((Kd.R_apart' HO190.out (Kd.R_typed HO193.out) (by decide))) hkp (fun k_ hk_ hs_ => (hk_.2) hs_)) (fun k_ hk_ => trivial));have n2_ := Yd (Kd.R_reok rfl hy0 (fun k_ e_ => HO193.out.1 k_ e_));have n3_ := Yd (hb);clear HO186;clear HO190;clear HO193;clear HB;have HO186 := n0_;have HO190 := n1_;have HO193 := n2_;have HB := n3_;clear n0_ n1_ n2_ n3_;(try clear hb);(try clear hkp);(try clear hy0)))
   go_loopg [15,92] k (fun kq v15 v92 w' => ∃ (x13_1 : List (S51)) (x15_1 : Int) (x92_1 : Int),v15 = .int .i64 x15_1 ∧ v92 = .int .i64 x92_1 ∧ Aside0 (demand_Step.l1 kq l0 l1 a3 a4 x13_1 x15_1 t201 (t191.length : Int) x92_1 = some (r1,r2)) ∧ Aside0 (kq ≤ k) ∧ Aside0 (Kd.R k51 51 w' w.heap.size (fun _ => True) v189 x13_1) ∧ Aside0 (Kd.R (Kd.int .i64) 3 w' w.heap.size (fun _ => True) (.slice Ao62 t191.length co62) t201) ∧ Aside0 (Below w.heap.size w w'))
   case atStart => exact ⟨(t188),(wrap64 (a2 + t194)),(0),Y12,Y12,H',⟨Nat.le_refl _⟩,⟨Y5 HO190.out⟩,⟨Y5 HO193.out⟩,⟨Y3 HB.out⟩⟩
   case round =>
    clear H'
    try clear c1
    try clear p1
    try clear q1
    try clear hx1
    try clear c2
    try clear p2
    try clear c3
    try clear q3
    try clear c4
    try clear p4
    try clear q4
    try clear hx4
    try clear c5
    try clear hx5
    try clear hf5
    try clear p6
    try clear c7
    try clear c7b0
    try clear c7b1
    try clear c11
    try clear c11b0
    try clear p19
    try clear q19
    try clear hx19
    try clear c20
    try clear c20b0
    try clear c21
    try clear c21b0
    try clear c22
    try clear c22b0
    try clear c23
    try clear c23b0
    try clear c24
    try clear c24b0
    try clear c25
    try clear c25b0
    try clear c26
    try clear c38
    try clear c38b0
    try clear q39
    try clear c40
    try clear c41
    try clear c43
    try clear c46
    try clear c47
    try clear c47b0
    try clear c48
    try clear c48b0
    try clear c49
    try clear p49
    try clear q49
    try clear hx49
    try clear hf49
    try clear c50
    try clear hx50
    try clear hf50
    try clear c52
    try clear hcz42_0
    try clear hcz42_1
    try clear hcz44_0
    try clear hcz44_1
    try clear hcz45_0
    try clear hcz45_1
    try clear hcz45_2
    try clear hcz45_3
    try clear hcz45_4
    try clear hcz53_0
    try clear hcz53_1
    try clear hcz53_2
    try clear hcz53_3
    try clear hcz53_4
    try clear hfz42_0
    try clear hfz42_1
    try clear hfz44_0
    try clear hfz44_1
    try clear hfz45_0
    try clear hfz45_1
    try clear hfz45_2
    try clear hfz45_3
    try clear hfz45_4
    try clear hfz53_0
    try clear hfz53_1
    try clear hfz53_2
    try clear hfz53_3
    try clear hfz53_4
    try clear hx195_0
    try clear hx196_0
    try clear hx196_1
    try clear hx196_2
    try clear hx196_3
    try clear hx196_4
    try clear hx197_0
    try clear hx197_1
    try clear hx49_0
    try clear hx49_1
    try clear hx50_0
    try clear hx50_1
    try clear p1
    try clear p19
    try clear p195
    try clear p196
    try clear p197
    try clear p2
    try clear p49
    try clear p6
    try clear q1
    try clear q19
    try clear q195
    try clear q196
    try clear q197
    try clear q3
    try clear q39
    try clear q49
    obtain ⟨x13_1,x15_1,x92_1,rfl,rfl,HA,HK1,HO_13,HO_90,HB⟩ := hrel
    have hl90_1 := (Kd.R_reads' HO_90.out).1
    rw [hl90_1] at HO_90
    (try simp only [hl90_1])
    (try simp only [hl90_1] at HO_13)
    cases gk with
    | zero => exact absurd HA.out (by simp [demand_Step.l1])
    | succ k1 =>
     have H := HA.out
     clear HA
     simp only [demand_Step.l1] at H
     by_cases c64 : x92_1 < (t191.length : Int)
     ·rw [if_pos c64] at H
      have c64b0 : decide (x92_1 < (t191.length : Int)) = true := decide_eq_true c64
      (try simp only [hl90_1] at c64b0)
      clear c64
      by_cases c65 : 0 ≤ x92_1
      case neg => rw [if_neg c65] at H;exact absurd H (by simp)
      rw [if_pos c65] at H
      have c65b0 : decide (0 ≤ x92_1) = true := decide_eq_true c65
      clear c65
      by_cases c66 : x92_1 < (t201.length : Int)
      case neg => rw [if_neg c66] at H;exact absurd H (by simp)
      rw [if_pos c66] at H
      have c66b0 : decide (x92_1 < (t201.length : Int)) = true := decide_eq_true c66
      (try simp only [hl90_1] at c66b0)
      clear c66
      by_cases c67 : 0 ≤ (rd t201 x92_1)
      case neg => rw [if_neg c67] at H;exact absurd H (by simp)
      rw [if_pos c67] at H
      have c67b0 : decide (0 ≤ (rd t201 x92_1)) = true := decide_eq_true c67
      clear c67
      by_cases c68 : (rd t201 x92_1) < (l0.length : Int)
      case neg => rw [if_neg c68] at H;exact absurd H (by simp)
      rw [if_pos c68] at H
      have c68b0 : decide ((rd t201 x92_1) < (l0.length : Int)) = true := decide_eq_true c68
      (try simp only [hl90_1] at c68b0)
      clear c68
      by_cases c69 : (rd t201 x92_1) < (l1.length : Int)
      case neg => rw [if_neg c69] at H;exact absurd H (by simp)
      rw [if_pos c69] at H
      have c69b0 : decide ((rd t201 x92_1) < (l1.length : Int)) = true := decide_eq_true c69
      (try simp only [hl90_1] at c69b0)
      clear c69
      have HC70 := Yd H
      clear H
      have p202 : 0 ≤ (x92_1 : Int) := Y9
      have q202 : x92_1 < (t201.length : Int) := Y9
      obtain ⟨ad202,e202,hx202_0⟩ := Kd.at_int (Kd.R_reads' HO_90.out).2.2 x92_1 p202 q202
      cases e202
      replace p202 := eq_true p202
      replace q202 := eq_true q202
      try go_wp2
      have n0_ := Yd (Kd.R_drew HO_13.out)
      have n1_ := Yd (Kd.R_drew HO_90.out)
      have n2_ := Yd (below_drew1 HB.out)
      clear HO_13
      clear HO_90
      clear HB
      have HO_13 := n0_
      have HO_90 := n1_
      have HB := n2_
      clear n0_ n1_ n2_
      have p203 : 0 ≤ ((rd t201 x92_1) : Int) := Y9
      have q203 : (rd t201 x92_1) < (l0.length : Int) := Y9
      obtain ⟨ad203,e203,hx203_0,hx203_1,hx203_2,hx203_3,hx203_4⟩ := at_T43 HR0.out (rd t201 x92_1) p203 q203
      have hw203_4 := hx203_4
      have hw203_3 := hx203_3
      have hw203_2 := hx203_2
      have hw203_1 := hx203_1
      have hw203_0 := hx203_0
      cases e203
      replace hx203_0 := Y10 HB.out hx203_0
      replace hx203_1 := Y10 HB.out hx203_1
      replace hx203_2 := Y10 HB.out hx203_2
      replace hx203_3 := Y10 HB.out hx203_3
      replace hx203_4 := Y10 HB.out hx203_4
      replace p203 := eq_true p203
      replace q203 := eq_true q203
      have p204 : 0 ≤ ((rd t201 x92_1) : Int) := Y9
      have q204 : (rd t201 x92_1) < (l1.length : Int) := Y9
      obtain ⟨ad204,e204,hx204_0,hx204_1⟩ := at_T51 HR1.out (rd t201 x92_1) p204 q204
      have hw204_1 := hx204_1
      have hw204_0 := hx204_0
      cases e204
      replace hx204_0 := Y10 HB.out hx204_0
      replace hx204_1 := Y10 HB.out hx204_1
      replace p204 := eq_true p204
      replace q204 := eq_true q204
      refine start_ (n := 12) (S := fun w' => w'.cell? (ad203.add (((rd t201 x92_1)).toNat * 5)) = some (.string ((rd_T43 l0 (rd t201 x92_1)).f0)) ∧ w'.cell? ⟨(ad203.add (((rd t201 x92_1)).toNat * 5)).block,(ad203.add (((rd t201 x92_1)).toNat * 5)).off + 1,none⟩ = some (.int .i64 ((rd_T43 l0 (rd t201 x92_1)).f1)) ∧ w'.cell? ⟨(ad203.add (((rd t201 x92_1)).toNat * 5)).block,(ad203.add (((rd t201 x92_1)).toNat * 5)).off + 2,none⟩ = some (.int .i64 ((rd_T43 l0 (rd t201 x92_1)).f2)) ∧ w'.cell? ⟨(ad203.add (((rd t201 x92_1)).toNat * 5)).block,(ad203.add (((rd t201 x92_1)).toNat * 5)).off + 3,none⟩ = some (.int .i64 ((rd_T43 l0 (rd t201 x92_1)).f3)) ∧ w'.cell? ⟨(ad203.add (((rd t201 x92_1)).toNat * 5)).block,(ad203.add (((rd t201 x92_1)).toNat * 5)).off + 4,none⟩ = some (.int .i64 ((rd_T43 l0 (rd t201 x92_1)).f4)) ∧ w'.cell? (ad204.add (((rd t201 x92_1)).toNat * 2)) = some (.bool ((rd_T51 l1 (rd t201 x92_1)).f0)) ∧ w'.cell? ⟨(ad204.add (((rd t201 x92_1)).toNat * 2)).block,(ad204.add (((rd t201 x92_1)).toNat * 2)).off + 1,none⟩ = some (.int .i64 ((rd_T51 l1 (rd t201 x92_1)).f1))) (ds := []) #[YF,YF,YF,YF,YF,YF,YF,YF,YF,YF,YF,YF] (by kernel_rfl) rfl rfl ⟨(Y10 HB.out hw203_0 :),(Y10 HB.out hw203_1 :),(Y10 HB.out hw203_2 :),(Y10 HB.out hw203_3 :),(Y10 HB.out hw203_4 :),(Y10 HB.out hw204_0 :),(Y10 HB.out hw204_1 :)⟩ (fun hHeld => ?_);refine with_tabW demand_Step.tab21 demand_Step.bits21 (fun HT_ HW_ => ?_)
      generalize wr.drew = w71 at HO_13 HO_90 HB hx203_0 hx203_1 hx203_2 hx203_3 hx203_4 hx204_0 hx204_1 hHeld ⊢
      refine pure_ (i := 0) (N := some 96) (v := ?_) (a' := ?_) #[YT,YF,YF,YF,YF,YF,YF,YF,YF,YF,YF,YF] rfl rfl (any_of HT_.out (by kernel_rfl)) (fun _ _ _ h => h) (Or.inl ⟨by rfl,?_⟩) ?_ ?_
      rotate_left
      ·intro w'
       go_simp
       with_reducible rfl
      rotate_left
      ·simp only [Act.put,Ya,Yb,Yc,i64_w,i32_w]
       rfl
      refine pure_ (i := 1) (N := some 97) (v := ?_) (a' := ?_) #[YT,YT,YF,YF,YF,YF,YF,YF,YF,YF,YF,YF] rfl rfl (any_of HT_.out (by kernel_rfl)) (fun _ _ _ h => h) (Or.inl ⟨by rfl,?_⟩) ?_ ?_
      rotate_left
      ·intro w'
       go_simp
       with_reducible rfl
      rotate_left
      ·simp only [Act.put,Ya,Yb,Yc,i64_w,i32_w]
       rfl
      refine pure_ (i := 2) (N := some 98) (v := ?_) (a' := ?_) #[YT,YT,YT,YF,YF,YF,YF,YF,YF,YF,YF,YF] rfl rfl (any_of HT_.out (by kernel_rfl)) (fun _ _ _ h => h) (Or.inl ⟨by rfl,?_⟩) ?_ ?_
      rotate_left
      ·intro w'
       go_simp
       with_reducible rfl
      rotate_left
      ·simp only [Act.put,Ya,Yb,Yc,i64_w,i32_w]
       rfl
      refine pure_ (i := 4) (N := some 100) (v := ?_) (a' := ?_) #[YT,YT,YT,YF,YT,YF,YF,YF,YF,YF,YF,YF] rfl rfl (any_of HT_.out (by kernel_rfl)) (fun _ _ _ h => h) (Or.inl ⟨by rfl,?_⟩) ?_ ?_
      rotate_left
      ·intro w'
       go_simp
       with_reducible rfl
      rotate_left
      ·simp only [Act.put,Ya,Yb,Yc,i64_w,i32_w]
       rfl
      refine pure_ (i := 5) (N := some 101) (v := ?_) (a' := ?_) #[YT,YT,YT,YF,YT,YT,YF,YF,YF,YF,YF,YF] rfl rfl (any_of HT_.out (by kernel_rfl)) (fun _ _ _ h => h) (Or.inl ⟨by rfl,?_⟩) ?_ ?_
      rotate_left
      ·intro w'
       go_simp
       with_reducible rfl
      rotate_left
      ·simp only [Act.put,Ya,Yb,Yc,i64_w,i32_w]
       rfl
      refine pure_ (i := 6) (N := some 102) (v := ?_) (a' := ?_) #[YT,YT,YT,YF,YT,YT,YT,YF,YF,YF,YF,YF] rfl rfl (any_of HT_.out (by kernel_rfl)) (fun _ _ _ h => h) (Or.inl ⟨by rfl,?_⟩) ?_ ?_
      rotate_left
      ·intro w'
       go_simp
       with_reducible rfl
      rotate_left
      ·simp only [Act.put,Ya,Yb,Yc,i64_w,i32_w]
       rfl
      refine take_ (i := 3) (N := some 99) (v := ?_) (a' := ?_) #[YT,YT,YT,YT,YT,YT,YT,YF,YF,YF,YF,YF] rfl rfl (take_ofW HT_.out HW_.out (by kernel_rfl)) (fun _ _ _ h => h) (Or.inl ⟨by rfl,?_⟩) hHeld ?_ ?_
      rotate_left
      ·rintro w' ⟨s0,s1,s2,s3,s4,s5,s6⟩
       go_simp
       with_reducible rfl
      rotate_left
      ·simp only [Act.put,Ya,Yb,Yc,i64_w,i32_w]
       rfl
      refine take_ (i := 7) (N := some 103) (v := ?_) (a' := ?_) #[YT,YT,YT,YT,YT,YT,YT,YT,YF,YF,YF,YF] rfl rfl (take_ofW HT_.out HW_.out (by kernel_rfl)) (fun _ _ _ h => h) (Or.inl ⟨by rfl,?_⟩) hHeld ?_ ?_
      rotate_left
      ·rintro w' ⟨s0,s1,s2,s3,s4,s5,s6⟩
       go_simp
       with_reducible rfl
      rotate_left
      ·simp only [Act.put,Ya,Yb,Yc,i64_w,i32_w]
       rfl
      refine join_ (σ := Nat × Nat) 2 #[YT,YT,YT,YT,YT,YT,YT,YT,YT,YT,YF,YF] (fun s_ => [(22,.pointer (some ⟨s_.1,0,none⟩)),(23,.pointer (some ⟨s_.2,0,none⟩))]) (fun s_ w' => (w'.cell? (ad203.add (((rd t201 x92_1)).toNat * 5)) = some (.string ((rd_T43 l0 (rd t201 x92_1)).f0)) ∧ w'.cell? ⟨(ad203.add (((rd t201 x92_1)).toNat * 5)).block,(ad203.add (((rd t201 x92_1)).toNat * 5)).off + 1,none⟩ = some (.int .i64 ((rd_T43 l0 (rd t201 x92_1)).f1)) ∧ w'.cell? ⟨(ad203.add (((rd t201 x92_1)).toNat * 5)).block,(ad203.add (((rd t201 x92_1)).toNat * 5)).off + 2,none⟩ = some (.int .i64 ((rd_T43 l0 (rd t201 x92_1)).f2)) ∧ w'.cell? ⟨(ad203.add (((rd t201 x92_1)).toNat * 5)).block,(ad203.add (((rd t201 x92_1)).toNat * 5)).off + 3,none⟩ = some (.int .i64 ((rd_T43 l0 (rd t201 x92_1)).f3)) ∧ w'.cell? ⟨(ad203.add (((rd t201 x92_1)).toNat * 5)).block,(ad203.add (((rd t201 x92_1)).toNat * 5)).off + 4,none⟩ = some (.int .i64 ((rd_T43 l0 (rd t201 x92_1)).f4)) ∧ w'.cell? (ad204.add (((rd t201 x92_1)).toNat * 2)) = some (.bool ((rd_T51 l1 (rd t201 x92_1)).f0)) ∧ w'.cell? ⟨(ad204.add (((rd t201 x92_1)).toNat * 2)).block,(ad204.add (((rd t201 x92_1)).toNat * 2)).off + 1,none⟩ = some (.int .i64 ((rd_T51 l1 (rd t201 x92_1)).f1))) ∧ (Kd.R k51 51 w' w.heap.size (fun k_ => k_ ≠ s_.2) v189 x13_1) ∧ (Kd.R (Kd.int .i64) 3 w' w.heap.size (fun _ => True) (.slice (some ad202) t201.length co62) t201) ∧ (w'.heap[s_.1]? = some (.cells #[.string (⟨#[]⟩ : ByteArray),.int .i64 0,.int .i64 0,.int .i64 0,.int .i64 0] 43 (0,0))) ∧ (w'.heap[s_.2]? = some (.cells #[.bool false,.int .i64 0] 51 (0,0))) ∧ (w.heap.size ≤ s_.1) ∧ (w.heap.size ≤ s_.1) ∧ (s_.2 ≠ s_.1) ∧ (s_.1 ≠ s_.2) ∧ (w.heap.size ≤ s_.2) ∧ (w.heap.size ≤ s_.2) ∧ (Below w.heap.size w w')) ?_ ?_
      rotate_left
      ·intro hCont
       refine two_ (i := 8) (j := 9) (Ni := some 22) (Nj := some 23) #[YT,YT,YT,YT,YT,YT,YT,YT,YT,YF,YF,YF] #[YT,YT,YT,YT,YT,YT,YT,YT,YF,YT,YF,YF] rfl rfl rfl rfl (two_of HT_.out (by kernel_rfl)) (by decide) (by decide) (fun K hK => ?_) (fun K hK => ?_)
       ·skip
        refine box_step ?hg (N := 22) ?hd (cs := #[.string (⟨#[]⟩ : ByteArray),.int .i64 0,.int .i64 0,.int .i64 0,.int .i64 0]) (t := 43) ?hr ?_;(case hd => rfl);(case hg => rfl);(case hr => first | (go_simp;done) | (go_simp;rfl))
        intro gb205 hg w72 hbox hb
        have n0_ := Yd (Kd.R_below (Y5 HO_13.out) hb)
        have n1_ := Yd (Kd.R_below (Y5 HO_90.out) hb)
        have n2_ := Yd (below_step (Y3 HB.out) hb)
        have n3_ := Yd (hbox)
        have n4_ := Yd ((by rw [hg];exact (below_size (Y3 HB.out)) : w.heap.size ≤ gb205))
        have n5_ := Yd ((by rw [hg];exact (below_size (Y3 HB.out)) : w.heap.size ≤ gb205))
        clear HO_13
        clear HO_90
        clear HB
        have HO_13 := n0_
        have HO_90 := n1_
        have HB := n2_
        have BK205 := n3_
        have GW205 := n4_
        have GE205 := n5_
        clear n0_ n1_ n2_ n3_ n4_ n5_
        clear hb hbox hg
        refine hK.out _ _ ⟨(Y10 HB.out hw203_0 :),(Y10 HB.out hw203_1 :),(Y10 HB.out hw203_2 :),(Y10 HB.out hw203_3 :),(Y10 HB.out hw203_4 :),(Y10 HB.out hw204_0 :),(Y10 HB.out hw204_1 :)⟩ (fun hHeld => ?_)
        clear hK K
        refine norm_ (a' := ?_) ?_ ?_
        rotate_left
        ·show Act.put _ (some 22) _ = _
         simp only [Act.put,Ya,Yb,Yc,i64_w,i32_w]
         rfl
        refine one_ (i := 9) (N := some 23) #[YT,YT,YT,YT,YT,YT,YT,YT,YT,YT,YF,YF] rfl rfl (one_of HT_.out (by kernel_rfl)) (by decide) (fun K hK => ?_)
        refine box_step ?hg (N := 23) ?hd (cs := #[.bool false,.int .i64 0]) (t := 51) ?hr ?_;(case hd => rfl);(case hg => rfl);(case hr => first | (go_simp;done) | (go_simp;rfl))
        intro gb206 hg w73 hbox hb
        have n0_ := Yd (Kd.R_below (Kd.R_elderB (Y5 HO_13.out) gb206 (Nat.le_of_eq hg.symm)) hb)
        have n1_ := Yd (Kd.R_below (Y5 HO_90.out) hb)
        have n2_ := Yd (blk_below (g := gb205) (o := .cells #[.string (⟨#[]⟩ : ByteArray),.int .i64 0,.int .i64 0,.int .i64 0,.int .i64 0] 43 (0,0)) (Y6 BK205.out) hb)
        have n3_ := Yd (below_step (by first | exact Y4 HB.out GE205.out | exact Y3 HB.out) hb)
        have n4_ := Yd (hbox)
        have n5_ := Yd ((by rw [hg];exact (below_size (by first | exact Y4 HB.out GE205.out | exact Y3 HB.out)) : w.heap.size ≤ gb206))
        have n6_ := Yd ((by rw [hg];exact (below_size (by first | exact Y4 HB.out GE205.out | exact Y3 HB.out)) : w.heap.size ≤ gb206))
        have n7_ := Yd ((by rw [hg];exact Nat.ne_of_lt (blk_lt (g := gb205) (o := .cells #[.string (⟨#[]⟩ : ByteArray),.int .i64 0,.int .i64 0,.int .i64 0,.int .i64 0] 43 (0,0)) (Y6 BK205.out)) : gb205 ≠ gb206))
        have n8_ := Yd ((by rw [hg];exact Nat.ne_of_gt (blk_lt (g := gb205) (o := .cells #[.string (⟨#[]⟩ : ByteArray),.int .i64 0,.int .i64 0,.int .i64 0,.int .i64 0] 43 (0,0)) (Y6 BK205.out)) : gb206 ≠ gb205))
        clear HO_13
        clear HO_90
        clear BK205
        clear HB
        have HO_13 := n0_
        have HO_90 := n1_
        have BK205 := n2_
        have HB := n3_
        have BK206 := n4_
        have GW206 := n5_
        have GE206 := n6_
        have NB205_206 := n7_
        have NB206_205 := n8_
        clear n0_ n1_ n2_ n3_ n4_ n5_ n6_ n7_ n8_
        clear hb hbox hg
        refine hK.out _ _ ⟨(Y10 HB.out hw203_0 :),(Y10 HB.out hw203_1 :),(Y10 HB.out hw203_2 :),(Y10 HB.out hw203_3 :),(Y10 HB.out hw203_4 :),(Y10 HB.out hw204_0 :),(Y10 HB.out hw204_1 :)⟩ (fun hHeld => ?_)
        clear hK K
        refine norm_ (a' := ?_) ?_ ?_
        rotate_left
        ·show Act.put _ (some 23) _ = _
         simp only [Act.put,Ya,Yb,Yc,i64_w,i32_w]
         rfl
        exact norm_ (by simp only [putAll,Act.put,List.setIfInBounds_toArray,List.set_cons_zero,List.set_cons_succ]) (hCont (gb205,gb206) _ ⟨hHeld,(by (with_reducible repeat (first | apply Kd.R_alloc | apply Kd.R_drewN | apply Kd.R_drew));exact Kd.R_mono HO_13.out (fun _ hk => hk.2)),(Y5 HO_90.out),(Y6 BK205.out),(Y6 BK206.out),GW205.out,GE205.out,NB206_205.out,NB205_206.out,GW206.out,GE206.out,(by repeat (first | (with_reducible first | exact HB.out | apply below_alloc | apply Y15 | apply below_drew1 | refine below_set ?_ GE205.out | refine below_set ?_ GE206.out) | exact HB.out))⟩)
       ·skip
        refine box_step ?hg (N := 23) ?hd (cs := #[.bool false,.int .i64 0]) (t := 51) ?hr ?_;(case hd => rfl);(case hg => rfl);(case hr => first | (go_simp;done) | (go_simp;rfl))
        intro gb206 hg w72 hbox hb
        have n0_ := Yd (Kd.R_below (Kd.R_elderB (Y5 HO_13.out) gb206 (Nat.le_of_eq hg.symm)) hb)
        have n1_ := Yd (Kd.R_below (Y5 HO_90.out) hb)
        have n2_ := Yd (below_step (Y3 HB.out) hb)
        have n3_ := Yd (hbox)
        have n4_ := Yd ((by rw [hg];exact (below_size (Y3 HB.out)) : w.heap.size ≤ gb206))
        have n5_ := Yd ((by rw [hg];exact (below_size (Y3 HB.out)) : w.heap.size ≤ gb206))
        clear HO_13
        clear HO_90
        clear HB
        have HO_13 := n0_
        have HO_90 := n1_
        have HB := n2_
        have BK206 := n3_
        have GW206 := n4_
        have GE206 := n5_
        clear n0_ n1_ n2_ n3_ n4_ n5_
        clear hb hbox hg
        refine hK.out _ _ ⟨(Y10 HB.out hw203_0 :),(Y10 HB.out hw203_1 :),(Y10 HB.out hw203_2 :),(Y10 HB.out hw203_3 :),(Y10 HB.out hw203_4 :),(Y10 HB.out hw204_0 :),(Y10 HB.out hw204_1 :)⟩ (fun hHeld => ?_)
        clear hK K
        refine norm_ (a' := ?_) ?_ ?_
        rotate_left
        ·show Act.put _ (some 23) _ = _
         simp only [Act.put,Ya,Yb,Yc,i64_w,i32_w]
         rfl
        refine one_ (i := 8) (N := some 22) #[YT,YT,YT,YT,YT,YT,YT,YT,YT,YT,YF,YF] rfl rfl (one_of HT_.out (by kernel_rfl)) (by decide) (fun K hK => ?_)
        refine box_step ?hg (N := 22) ?hd (cs := #[.string (⟨#[]⟩ : ByteArray),.int .i64 0,.int .i64 0,.int .i64 0,.int .i64 0]) (t := 43) ?hr ?_;(case hd => rfl);(case hg => rfl);(case hr => first | (go_simp;done) | (go_simp;rfl))
        intro gb205 hg w73 hbox hb
        have n0_ := Yd (Kd.R_below (Y5 HO_13.out) hb)
        have n1_ := Yd (Kd.R_below (Y5 HO_90.out) hb)
        have n2_ := Yd (blk_below (g := gb206) (o := .cells #[.bool false,.int .i64 0] 51 (0,0)) (Y6 BK206.out) hb)
        have n3_ := Yd (below_step (by first | exact Y4 HB.out GE206.out | exact Y3 HB.out) hb)
        have n4_ := Yd (hbox)
        have n5_ := Yd ((by rw [hg];exact (below_size (by first | exact Y4 HB.out GE206.out | exact Y3 HB.out)) : w.heap.size ≤ gb205))
        have n6_ := Yd ((by rw [hg];exact (below_size (by first | exact Y4 HB.out GE206.out | exact Y3 HB.out)) : w.heap.size ≤ gb205))
        have n7_ := Yd ((by rw [hg];exact Nat.ne_of_lt (blk_lt (g := gb206) (o := .cells #[.bool false,.int .i64 0] 51 (0,0)) (Y6 BK206.out)) : gb206 ≠ gb205))
        have n8_ := Yd ((by rw [hg];exact Nat.ne_of_gt (blk_lt (g := gb206) (o := .cells #[.bool false,.int .i64 0] 51 (0,0)) (Y6 BK206.out)) : gb205 ≠ gb206))
        clear HO_13
        clear HO_90
        clear BK206
        clear HB
        have HO_13 := n0_
        have HO_90 := n1_
        have BK206 := n2_
        have HB := n3_
        have BK205 := n4_
        have GW205 := n5_
        have GE205 := n6_
        have NB206_205 := n7_
        have NB205_206 := n8_
        clear n0_ n1_ n2_ n3_ n4_ n5_ n6_ n7_ n8_
        clear hb hbox hg
        refine hK.out _ _ ⟨(Y10 HB.out hw203_0 :),(Y10 HB.out hw203_1 :),(Y10 HB.out hw203_2 :),(Y10 HB.out hw203_3 :),(Y10 HB.out hw203_4 :),(Y10 HB.out hw204_0 :),(Y10 HB.out hw204_1 :)⟩ (fun hHeld => ?_)
        clear hK K
        refine norm_ (a' := ?_) ?_ ?_
        rotate_left
        ·show Act.put _ (some 22) _ = _
         simp only [Act.put,Ya,Yb,Yc,i64_w,i32_w]
         rfl
        exact norm_ (by simp only [putAll,Act.put,List.setIfInBounds_toArray,List.set_cons_zero,List.set_cons_succ]) (hCont (gb205,gb206) _ ⟨hHeld,(by (with_reducible repeat (first | apply Kd.R_alloc | apply Kd.R_drewN | apply Kd.R_drew));exact Kd.R_mono HO_13.out (fun _ hk => hk.2)),(Y5 HO_90.out),(Y6 BK205.out),(Y6 BK206.out),GW205.out,GE205.out,NB206_205.out,NB205_206.out,GW206.out,GE206.out,(by repeat (first | (with_reducible first | exact HB.out | apply below_alloc | apply Y15 | apply below_drew1 | refine below_set ?_ GE206.out | refine below_set ?_ GE205.out) | exact HB.out))⟩)
      rintro ⟨gb205,gb206⟩ w74 ⟨hS_,h0_,h1_,h2_,h3_,h4_,h5_,h6_,h7_,h8_,h9_,h10_⟩
      have n0_ : Aside0 (Kd.R k51 51 w74 w.heap.size (fun k_ => k_ ≠ gb206) v189 x13_1) := ⟨h0_⟩
      have n1_ : Aside0 (Kd.R (Kd.int .i64) 3 w74 w.heap.size (fun _ => True) (.slice (some ad202) t201.length co62) t201) := ⟨h1_⟩
      have n2_ : Aside0 (w74.heap[gb205]? = some (.cells #[.string (⟨#[]⟩ : ByteArray),.int .i64 0,.int .i64 0,.int .i64 0,.int .i64 0] 43 (0,0))) := ⟨h2_⟩
      have n3_ : Aside0 (w74.heap[gb206]? = some (.cells #[.bool false,.int .i64 0] 51 (0,0))) := ⟨h3_⟩
      have n4_ : Aside0 (w.heap.size ≤ gb205) := ⟨h4_⟩
      have n5_ : Aside0 (w.heap.size ≤ gb205) := ⟨h5_⟩
      have n6_ : Aside0 (gb206 ≠ gb205) := ⟨h6_⟩
      have n7_ : Aside0 (gb205 ≠ gb206) := ⟨h7_⟩
      have n8_ : Aside0 (w.heap.size ≤ gb206) := ⟨h8_⟩
      have n9_ : Aside0 (w.heap.size ≤ gb206) := ⟨h9_⟩
      have n10_ : Aside0 (Below w.heap.size w w74) := ⟨h10_⟩
      clear HO_13
      clear HO_90
      clear HB
      clear h0_ h1_ h2_ h3_ h4_ h5_ h6_ h7_ h8_ h9_ h10_
      have HO_13 := n0_
      have HO_90 := n1_
      have BK205 := n2_
      have BK206 := n3_
      have GW205 := n4_
      have GE205 := n5_
      have NB206_205 := n6_
      have NB205_206 := n7_
      have GW206 := n8_
      have GE206 := n9_
      have HB := n10_
      clear n0_ n1_ n2_ n3_ n4_ n5_ n6_ n7_ n8_ n9_ n10_
      have hHeld : w74.cell? (ad203.add (((rd t201 x92_1)).toNat * 5)) = some (.string ((rd_T43 l0 (rd t201 x92_1)).f0)) ∧ w74.cell? ⟨(ad203.add (((rd t201 x92_1)).toNat * 5)).block,(ad203.add (((rd t201 x92_1)).toNat * 5)).off + 1,none⟩ = some (.int .i64 ((rd_T43 l0 (rd t201 x92_1)).f1)) ∧ w74.cell? ⟨(ad203.add (((rd t201 x92_1)).toNat * 5)).block,(ad203.add (((rd t201 x92_1)).toNat * 5)).off + 2,none⟩ = some (.int .i64 ((rd_T43 l0 (rd t201 x92_1)).f2)) ∧ w74.cell? ⟨(ad203.add (((rd t201 x92_1)).toNat * 5)).block,(ad203.add (((rd t201 x92_1)).toNat * 5)).off + 3,none⟩ = some (.int .i64 ((rd_T43 l0 (rd t201 x92_1)).f3)) ∧ w74.cell? ⟨(ad203.add (((rd t201 x92_1)).toNat * 5)).block,(ad203.add (((rd t201 x92_1)).toNat * 5)).off + 4,none⟩ = some (.int .i64 ((rd_T43 l0 (rd t201 x92_1)).f4)) ∧ w74.cell? (ad204.add (((rd t201 x92_1)).toNat * 2)) = some (.bool ((rd_T51 l1 (rd t201 x92_1)).f0)) ∧ w74.cell? ⟨(ad204.add (((rd t201 x92_1)).toNat * 2)).block,(ad204.add (((rd t201 x92_1)).toNat * 2)).off + 1,none⟩ = some (.int .i64 ((rd_T51 l1 (rd t201 x92_1)).f1)) := hS_
      refine norm_ (a' := ?_) ?_ ?_
      rotate_left
      ·simp only [putAll,Act.put,List.setIfInBounds_toArray,List.set_cons_zero,List.set_cons_succ]
       rfl
      refine one_ (i := 10) (N := none) #[YT,YT,YT,YT,YT,YT,YT,YT,YT,YT,YT,YF] rfl rfl (one_of HT_.out (by kernel_rfl)) (by decide) (fun K hK => ?_)
      have hs75 : w74.cell? ⟨gb205,0,none⟩ = some (.string (⟨#[]⟩ : ByteArray)) := (blk_cell BK205.out 0).trans rfl
      have hfs75 := blk_frozen BK205.out 0
      have hns75_1 := NB206_205.out
      have hms75_1 := NB205_206.out
      have hs76 : w74.cell? ⟨gb205,1,none⟩ = some (.int .i64 0) := (blk_cell BK205.out 1).trans rfl
      have hfs76 := blk_frozen BK205.out 1
      have hns76_1 := NB206_205.out
      have hms76_1 := NB205_206.out
      have hs77 : w74.cell? ⟨gb205,2,none⟩ = some (.int .i64 0) := (blk_cell BK205.out 2).trans rfl
      have hfs77 := blk_frozen BK205.out 2
      have hns77_1 := NB206_205.out
      have hms77_1 := NB205_206.out
      have hs78 : w74.cell? ⟨gb205,3,none⟩ = some (.int .i64 0) := (blk_cell BK205.out 3).trans rfl
      have hfs78 := blk_frozen BK205.out 3
      have hns78_1 := NB206_205.out
      have hms78_1 := NB205_206.out
      have hs79 : w74.cell? ⟨gb205,4,none⟩ = some (.int .i64 0) := (blk_cell BK205.out 4).trans rfl
      have hfs79 := blk_frozen BK205.out 4
      have hns79_1 := NB206_205.out
      have hms79_1 := NB205_206.out
      refine skip_ (w1 := ?_) (by rfl) rfl ?_ ?_
      rotate_left
      ·go_simp
       rfl
      refine hK.out _ _ ⟨((cell_far (p := ⟨gb205,_,none⟩) (Y1 ((Y2 hw203_0 GW205.out))) _).trans (((cell_far (p := ⟨gb205,_,none⟩) (Y1 ((Y2 hw203_0 GW205.out))) _).trans (((cell_far (p := ⟨gb205,_,none⟩) (Y1 ((Y2 hw203_0 GW205.out))) _).trans (((cell_far (p := ⟨gb205,_,none⟩) (Y1 ((Y2 hw203_0 GW205.out))) _).trans (((cell_far (p := ⟨gb205,_,none⟩) (Y1 ((Y2 hw203_0 GW205.out))) _).trans (hHeld.1)))))))))),((cell_far (p := ⟨gb205,_,none⟩) (Y1 ((Y2 hw203_1 GW205.out))) _).trans (((cell_far (p := ⟨gb205,_,none⟩) (Y1 ((Y2 hw203_1 GW205.out))) _).trans (((cell_far (p := ⟨gb205,_,none⟩) (Y1 ((Y2 hw203_1 GW205.out))) _).trans (((cell_far (p := ⟨gb205,_,none⟩) (Y1 ((Y2 hw203_1 GW205.out))) _).trans (((cell_far (p := ⟨gb205,_,none⟩) (Y1 ((Y2 hw203_1 GW205.out))) _).trans (hHeld.2.1)))))))))),((cell_far (p := ⟨gb205,_,none⟩) (Y1 ((Y2 hw203_2 GW205.out))) _).trans (((cell_far (p := ⟨gb205,_,none⟩) (Y1 ((Y2 hw203_2 GW205.out))) _).trans (((cell_far (p := ⟨gb205,_,none⟩) (Y1 ((Y2 hw203_2 GW205.out))) _).trans (((cell_far (p := ⟨gb205,_,none⟩) (Y1 ((Y2 hw203_2 GW205.out))) _).trans (((cell_far (p := ⟨gb205,_,none⟩) (Y1 ((Y2 hw203_2 GW205.out))) _).trans (hHeld.2.2.1)))))))))),((cell_far (p := ⟨gb205,_,none⟩) (Y1 ((Y2 hw203_3 GW205.out))) _).trans (((cell_far (p := ⟨gb205,_,none⟩) (Y1 ((Y2 hw203_3 GW205.out))) _).trans (((cell_far (p := ⟨gb205,_,none⟩) (Y1 ((Y2 hw203_3 GW205.out))) _).trans (((cell_far (p := ⟨gb205,_,none⟩) (Y1 ((Y2 hw203_3 GW205.out))) _).trans (((cell_far (p := ⟨gb205,_,none⟩) (Y1 ((Y2 hw203_3 GW205.out))) _).trans (hHeld.2.2.2.1)))))))))),((cell_far (p := ⟨gb205,_,none⟩) (Y1 ((Y2 hw203_4 GW205.out))) _).trans (((cell_far (p := ⟨gb205,_,none⟩) (Y1 ((Y2 hw203_4 GW205.out))) _).trans (((cell_far (p := ⟨gb205,_,none⟩) (Y1 ((Y2 hw203_4 GW205.out))) _).trans (((cell_far (p := ⟨gb205,_,none⟩) (Y1 ((Y2 hw203_4 GW205.out))) _).trans (((cell_far (p := ⟨gb205,_,none⟩) (Y1 ((Y2 hw203_4 GW205.out))) _).trans (hHeld.2.2.2.2.1)))))))))),((cell_far (p := ⟨gb205,_,none⟩) (Y1 ((Y2 hw204_0 GW205.out))) _).trans (((cell_far (p := ⟨gb205,_,none⟩) (Y1 ((Y2 hw204_0 GW205.out))) _).trans (((cell_far (p := ⟨gb205,_,none⟩) (Y1 ((Y2 hw204_0 GW205.out))) _).trans (((cell_far (p := ⟨gb205,_,none⟩) (Y1 ((Y2 hw204_0 GW205.out))) _).trans (((cell_far (p := ⟨gb205,_,none⟩) (Y1 ((Y2 hw204_0 GW205.out))) _).trans (hHeld.2.2.2.2.2.1)))))))))),((cell_far (p := ⟨gb205,_,none⟩) (Y1 ((Y2 hw204_1 GW205.out))) _).trans (((cell_far (p := ⟨gb205,_,none⟩) (Y1 ((Y2 hw204_1 GW205.out))) _).trans (((cell_far (p := ⟨gb205,_,none⟩) (Y1 ((Y2 hw204_1 GW205.out))) _).trans (((cell_far (p := ⟨gb205,_,none⟩) (Y1 ((Y2 hw204_1 GW205.out))) _).trans (((cell_far (p := ⟨gb205,_,none⟩) (Y1 ((Y2 hw204_1 GW205.out))) _).trans (hHeld.2.2.2.2.2.2))))))))))⟩ (fun hHeld => ?_)
      clear hK K
      refine one_ (i := 11) (N := none) #[YT,YT,YT,YT,YT,YT,YT,YT,YT,YT,YT,YT] rfl rfl (one_of HT_.out (by kernel_rfl)) (by decide) (fun K hK => ?_)
      have hs80 : w74.cell? ⟨gb206,0,none⟩ = some (.bool false) := (blk_cell BK206.out 0).trans rfl
      have hfs80 := blk_frozen BK206.out 0
      have hns80_0 := NB205_206.out
      have hms80_0 := NB206_205.out
      have hs81 : w74.cell? ⟨gb206,1,none⟩ = some (.int .i64 0) := (blk_cell BK206.out 1).trans rfl
      have hfs81 := blk_frozen BK206.out 1
      have hns81_0 := NB205_206.out
      have hms81_0 := NB206_205.out
      refine skip_ (w1 := ?_) (by rfl) rfl ?_ ?_
      rotate_left
      ·go_simp
       rfl
      refine hK.out _ _ ⟨((cell_far (p := ⟨gb206,_,none⟩) (Y1 ((Y2 hw203_0 GW206.out))) _).trans (((cell_far (p := ⟨gb206,_,none⟩) (Y1 ((Y2 hw203_0 GW206.out))) _).trans (hHeld.1)))),((cell_far (p := ⟨gb206,_,none⟩) (Y1 ((Y2 hw203_1 GW206.out))) _).trans (((cell_far (p := ⟨gb206,_,none⟩) (Y1 ((Y2 hw203_1 GW206.out))) _).trans (hHeld.2.1)))),((cell_far (p := ⟨gb206,_,none⟩) (Y1 ((Y2 hw203_2 GW206.out))) _).trans (((cell_far (p := ⟨gb206,_,none⟩) (Y1 ((Y2 hw203_2 GW206.out))) _).trans (hHeld.2.2.1)))),((cell_far (p := ⟨gb206,_,none⟩) (Y1 ((Y2 hw203_3 GW206.out))) _).trans (((cell_far (p := ⟨gb206,_,none⟩) (Y1 ((Y2 hw203_3 GW206.out))) _).trans (hHeld.2.2.2.1)))),((cell_far (p := ⟨gb206,_,none⟩) (Y1 ((Y2 hw203_4 GW206.out))) _).trans (((cell_far (p := ⟨gb206,_,none⟩) (Y1 ((Y2 hw203_4 GW206.out))) _).trans (hHeld.2.2.2.2.1)))),((cell_far (p := ⟨gb206,_,none⟩) (Y1 ((Y2 hw204_0 GW206.out))) _).trans (((cell_far (p := ⟨gb206,_,none⟩) (Y1 ((Y2 hw204_0 GW206.out))) _).trans (hHeld.2.2.2.2.2.1)))),((cell_far (p := ⟨gb206,_,none⟩) (Y1 ((Y2 hw204_1 GW206.out))) _).trans (((cell_far (p := ⟨gb206,_,none⟩) (Y1 ((Y2 hw204_1 GW206.out))) _).trans (hHeld.2.2.2.2.2.2))))⟩ (fun hHeld => ?_)
      clear hK K
      refine done_ (done_of HT_.out (by kernel_rfl)) ?_
      go_upto_region 22 with (fail)
      go_cut [122] (fun v122 wc => ∃ (kq : Nat) (x122_69 : Bool),v122 = .bool x122_69 ∧ Aside0 (demand_Step.j3 kq l0 l1 a3 a4 x13_1 x15_1 (rd t201 x92_1) t201 (t191.length : Int) x92_1 x122_69 ((rd_T43 l0 (rd t201 x92_1)).f0) ((rd_T43 l0 (rd t201 x92_1)).f1) ((rd_T43 l0 (rd t201 x92_1)).f2) ((rd_T43 l0 (rd t201 x92_1)).f3) ((rd_T43 l0 (rd t201 x92_1)).f4) = some (r1,r2)) ∧ Aside0 (kq ≤ k1) ∧ Aside0 (Kd.R k51 51 wc w.heap.size (fun k_ => k_ ≠ gb206) v189 x13_1) ∧ Aside0 (Kd.R (Kd.int .i64) 3 wc w.heap.size (fun _ => True) (.slice (some ad202) t201.length co62) t201) ∧ Aside0 (wc.heap[gb205]? = some (.cells #[.string ((rd_T43 l0 (rd t201 x92_1)).f0),.int .i64 ((rd_T43 l0 (rd t201 x92_1)).f1),.int .i64 ((rd_T43 l0 (rd t201 x92_1)).f2),.int .i64 ((rd_T43 l0 (rd t201 x92_1)).f3),.int .i64 ((rd_T43 l0 (rd t201 x92_1)).f4)] 43 (0,0))) ∧ Aside0 (wc.heap[gb206]? = some (.cells #[.bool ((rd_T51 l1 (rd t201 x92_1)).f0),.int .i64 ((rd_T51 l1 (rd t201 x92_1)).f1)] 51 (0,0))) ∧ Aside0 (Below w.heap.size w wc))
      case first =>
       have H := HC70.out
       clear HC70
       obtain ⟨bq82,hbq82⟩ : ∃ b_ : Bool,b_ = ((rd_T51 l1 (rd t201 x92_1)).f0) := ⟨_,rfl⟩
       replace H : (if bq82 = true then (if (wrap64 (a4 - ((rd_T51 l1 (rd t201 x92_1)).f1))) ≥ ((rd_T43 l0 (rd t201 x92_1)).f4) then (demand_Step.j3 k1 l0 l1 a3 a4 x13_1 x15_1 (rd t201 x92_1) t201 (t191.length : Int) x92_1 (decide ((wrap64 (x15_1 + ((rd_T43 l0 (rd t201 x92_1)).f2))) ≤ a3)) ((rd_T43 l0 (rd t201 x92_1)).f0) ((rd_T43 l0 (rd t201 x92_1)).f1) ((rd_T43 l0 (rd t201 x92_1)).f2) ((rd_T43 l0 (rd t201 x92_1)).f3) ((rd_T43 l0 (rd t201 x92_1)).f4)) else (demand_Step.j3 k1 l0 l1 a3 a4 x13_1 x15_1 (rd t201 x92_1) t201 (t191.length : Int) x92_1 false ((rd_T43 l0 (rd t201 x92_1)).f0) ((rd_T43 l0 (rd t201 x92_1)).f1) ((rd_T43 l0 (rd t201 x92_1)).f2) ((rd_T43 l0 (rd t201 x92_1)).f3) ((rd_T43 l0 (rd t201 x92_1)).f4))) else (demand_Step.j3 k1 l0 l1 a3 a4 x13_1 x15_1 (rd t201 x92_1) t201 (t191.length : Int) x92_1 false ((rd_T43 l0 (rd t201 x92_1)).f0) ((rd_T43 l0 (rd t201 x92_1)).f1) ((rd_T43 l0 (rd t201 x92_1)).f2) ((rd_T43 l0 (rd t201 x92_1)).f3) ((rd_T43 l0 (rd t201 x92_1)).f4))) = some (r1,r2) := by rw [← hbq82] at H;exact H
       have Nbq82 := Yd hbq82
       clear hbq82
       (try rw [← Nbq82.out])
       by_cases c83 : bq82 = true
       ·subst c83
        have H1 : (if (wrap64 (a4 - ((rd_T51 l1 (rd t201 x92_1)).f1))) ≥ ((rd_T43 l0 (rd t201 x92_1)).f4) then (demand_Step.j3 k1 l0 l1 a3 a4 x13_1 x15_1 (rd t201 x92_1) t201 (t191.length : Int) x92_1 (decide ((wrap64 (x15_1 + ((rd_T43 l0 (rd t201 x92_1)).f2))) ≤ a3)) ((rd_T43 l0 (rd t201 x92_1)).f0) ((rd_T43 l0 (rd t201 x92_1)).f1) ((rd_T43 l0 (rd t201 x92_1)).f2) ((rd_T43 l0 (rd t201 x92_1)).f3) ((rd_T43 l0 (rd t201 x92_1)).f4)) else (demand_Step.j3 k1 l0 l1 a3 a4 x13_1 x15_1 (rd t201 x92_1) t201 (t191.length : Int) x92_1 false ((rd_T43 l0 (rd t201 x92_1)).f0) ((rd_T43 l0 (rd t201 x92_1)).f1) ((rd_T43 l0 (rd t201 x92_1)).f2) ((rd_T43 l0 (rd t201 x92_1)).f3) ((rd_T43 l0 (rd t201 x92_1)).f4))) = some (r1,r2) := by rw [if_pos rfl] at H;exact H
        clear H
        have H := H1
        clear H1
        by_cases c84 : (wrap64 (a4 - ((rd_T51 l1 (rd t201 x92_1)).f1))) ≥ ((rd_T43 l0 (rd t201 x92_1)).f4)
        ·rw [if_pos c84] at H
         have c84b0 : decide (((rd_T43 l0 (rd t201 x92_1)).f4) ≤ (wrap64 (a4 - ((rd_T51 l1 (rd t201 x92_1)).f1)))) = true := decide_eq_true c84
         clear c84
         have H' := Yd H
         clear H
         have hnb85 := NB206_205.out
         have hnc85 := NB205_206.out
         have hcz86_0 : w74.cell? ⟨gb206,0,none⟩ = some (.bool false) := (blk_cell BK206.out 0).trans rfl
         have hcz86_1 : w74.cell? ⟨gb206,1,none⟩ = some (.int .i64 0) := (blk_cell BK206.out 1).trans rfl
         have hfz86_0 := blk_frozen BK206.out 0
         have hfz86_1 := blk_frozen BK206.out 1
         have hcz87_0 : w74.cell? ⟨gb205,0,none⟩ = some (.string (⟨#[]⟩ : ByteArray)) := (blk_cell BK205.out 0).trans rfl
         have hcz87_1 : w74.cell? ⟨gb205,1,none⟩ = some (.int .i64 0) := (blk_cell BK205.out 1).trans rfl
         have hcz87_2 : w74.cell? ⟨gb205,2,none⟩ = some (.int .i64 0) := (blk_cell BK205.out 2).trans rfl
         have hcz87_3 : w74.cell? ⟨gb205,3,none⟩ = some (.int .i64 0) := (blk_cell BK205.out 3).trans rfl
         have hcz87_4 : w74.cell? ⟨gb205,4,none⟩ = some (.int .i64 0) := (blk_cell BK205.out 4).trans rfl
         have hfz87_0 := blk_frozen BK205.out 0
         have hfz87_1 := blk_frozen BK205.out 1
         have hfz87_2 := blk_frozen BK205.out 2
         have hfz87_3 := blk_frozen BK205.out 3
         have hfz87_4 := blk_frozen BK205.out 4
         go_wp2
         go_meet
         case rel => (try rw [← Nbq82.out]);exact ⟨_,(decide ((wrap64 (x15_1 + ((rd_T43 l0 (rd t201 x92_1)).f2))) ≤ a3)),Y12,H',⟨by have := HK1.out;first | omega | exact Nat.le_refl _⟩,⟨by (try simp only [hl90_1]);(with_reducible repeat (first | apply Kd.R_alloc | apply Kd.R_drewN | apply Kd.R_drew));exact Kd.R_mono (Kd.R_far (p := ⟨gb206,1,none⟩) (Kd.R_far (p := ⟨gb206,0,none⟩) (Kd.R_far (p := ⟨gb205,4,none⟩) (Kd.R_far (p := ⟨gb205,3,none⟩) (Kd.R_far (p := ⟨gb205,2,none⟩) (Kd.R_far (p := ⟨gb205,1,none⟩) (Kd.R_far (p := ⟨gb205,0,none⟩) (Kd.R_mono (Kd.R_types HO_13.out BK205.out (by decide)) (fun k_ hk => (⟨hk,hk.1⟩ : _ ∧ k_ ≠ gb206))) (fun _ hk => hk.1.2) (.string ((rd_T43 l0 (rd t201 x92_1)).f0))) (fun _ hk => hk.1.2) (.int .i64 ((rd_T43 l0 (rd t201 x92_1)).f1))) (fun _ hk => hk.1.2) (.int .i64 ((rd_T43 l0 (rd t201 x92_1)).f2))) (fun _ hk => hk.1.2) (.int .i64 ((rd_T43 l0 (rd t201 x92_1)).f3))) (fun _ hk => hk.1.2) (.int .i64 ((rd_T43 l0 (rd t201 x92_1)).f4))) (fun _ hk => hk.2) (.bool (true))) (fun _ hk => hk.2) (.int .i64 ((rd_T51 l1 (rd t201 x92_1)).f1))) (fun _ hk => hk.1.1)⟩,⟨by (try simp only [hl90_1]);(with_reducible repeat (first | apply Kd.R_alloc | apply Kd.R_drewN | apply Kd.R_drew));exact Kd.R_mono (Kd.R_far (p := ⟨gb206,1,none⟩) (Kd.R_far (p := ⟨gb206,0,none⟩) (Kd.R_far (p := ⟨gb205,4,none⟩) (Kd.R_far (p := ⟨gb205,3,none⟩) (Kd.R_far (p := ⟨gb205,2,none⟩) (Kd.R_far (p := ⟨gb205,1,none⟩) (Kd.R_far (p := ⟨gb205,0,none⟩) (Kd.R_types (Kd.R_types HO_90.out BK205.out (by decide)) BK206.out (by decide)) (fun _ hk => hk.1.2) (.string ((rd_T43 l0 (rd t201 x92_1)).f0))) (fun _ hk => hk.1.2) (.int .i64 ((rd_T43 l0 (rd t201 x92_1)).f1))) (fun _ hk => hk.1.2) (.int .i64 ((rd_T43 l0 (rd t201 x92_1)).f2))) (fun _ hk => hk.1.2) (.int .i64 ((rd_T43 l0 (rd t201 x92_1)).f3))) (fun _ hk => hk.1.2) (.int .i64 ((rd_T43 l0 (rd t201 x92_1)).f4))) (fun _ hk => hk.2) (.bool (true))) (fun _ hk => hk.2) (.int .i64 ((rd_T51 l1 (rd t201 x92_1)).f1))) (fun _ hk => trivial)⟩,⟨by (try simp only [hl90_1]);(with_reducible repeat (first | refine blk_drewN ?_ _ | refine blk_drew ?_ | refine blk_alloc ?_ _));refine blk_far ?_ NB205_206.out _;(with_reducible repeat (first | refine blk_drewN ?_ _ | refine blk_drew ?_ | refine blk_alloc ?_ _));refine blk_far ?_ NB205_206.out _;(with_reducible repeat (first | refine blk_drewN ?_ _ | refine blk_drew ?_ | refine blk_alloc ?_ _));refine blk_put (cs := #[.string ((rd_T43 l0 (rd t201 x92_1)).f0),.int .i64 ((rd_T43 l0 (rd t201 x92_1)).f1),.int .i64 ((rd_T43 l0 (rd t201 x92_1)).f2),.int .i64 ((rd_T43 l0 (rd t201 x92_1)).f3),.int .i64 0]) ?_ 4 _ rfl;(with_reducible repeat (first | refine blk_drewN ?_ _ | refine blk_drew ?_ | refine blk_alloc ?_ _));refine blk_put (cs := #[.string ((rd_T43 l0 (rd t201 x92_1)).f0),.int .i64 ((rd_T43 l0 (rd t201 x92_1)).f1),.int .i64 ((rd_T43 l0 (rd t201 x92_1)).f2),.int .i64 0,.int .i64 0]) ?_ 3 _ rfl;(with_reducible repeat (first | refine blk_drewN ?_ _ | refine blk_drew ?_ | refine blk_alloc ?_ _));refine blk_put (cs := #[.string ((rd_T43 l0 (rd t201 x92_1)).f0),.int .i64 ((rd_T43 l0 (rd t201 x92_1)).f1),.int .i64 0,.int .i64 0,.int .i64 0]) ?_ 2 _ rfl;(with_reducible repeat (first | refine blk_drewN ?_ _ | refine blk_drew ?_ | refine blk_alloc ?_ _));refine blk_put (cs := #[.string ((rd_T43 l0 (rd t201 x92_1)).f0),.int .i64 0,.int .i64 0,.int .i64 0,.int .i64 0]) ?_ 1 _ rfl;(with_reducible repeat (first | refine blk_drewN ?_ _ | refine blk_drew ?_ | refine blk_alloc ?_ _));refine blk_put (cs := #[.string (⟨#[]⟩ : ByteArray),.int .i64 0,.int .i64 0,.int .i64 0,.int .i64 0]) ?_ 0 _ rfl;(with_reducible repeat (first | refine blk_drewN ?_ _ | refine blk_drew ?_ | refine blk_alloc ?_ _));exact BK205.out⟩,⟨by (try simp only [hl90_1]);(with_reducible repeat (first | refine blk_drewN ?_ _ | refine blk_drew ?_ | refine blk_alloc ?_ _));refine blk_put (cs := #[.bool (true),.int .i64 0]) ?_ 1 _ rfl;(with_reducible repeat (first | refine blk_drewN ?_ _ | refine blk_drew ?_ | refine blk_alloc ?_ _));refine blk_put (cs := #[.bool false,.int .i64 0]) ?_ 0 _ rfl;(with_reducible repeat (first | refine blk_drewN ?_ _ | refine blk_drew ?_ | refine blk_alloc ?_ _));refine blk_far ?_ NB206_205.out _;(with_reducible repeat (first | refine blk_drewN ?_ _ | refine blk_drew ?_ | refine blk_alloc ?_ _));refine blk_far ?_ NB206_205.out _;(with_reducible repeat (first | refine blk_drewN ?_ _ | refine blk_drew ?_ | refine blk_alloc ?_ _));refine blk_far ?_ NB206_205.out _;(with_reducible repeat (first | refine blk_drewN ?_ _ | refine blk_drew ?_ | refine blk_alloc ?_ _));refine blk_far ?_ NB206_205.out _;(with_reducible repeat (first | refine blk_drewN ?_ _ | refine blk_drew ?_ | refine blk_alloc ?_ _));refine blk_far ?_ NB206_205.out _;(with_reducible repeat (first | refine blk_drewN ?_ _ | refine blk_drew ?_ | refine blk_alloc ?_ _));exact BK206.out⟩,⟨by repeat (first | (with_reducible first | exact HB.out | apply below_alloc | apply Y15 | apply below_drew1 | refine below_set ?_ GE205.out | refine below_set ?_ GE206.out) | exact HB.out)⟩⟩
        ·rw [if_neg c84] at H
         have c84b0 : decide (((rd_T43 l0 (rd t201 x92_1)).f4) ≤ (wrap64 (a4 - ((rd_T51 l1 (rd t201 x92_1)).f1)))) = false := decide_eq_false c84
         clear c84
         have H' := Yd H
         clear H
         have hnb88 := NB206_205.out
         have hnc88 := NB205_206.out
         have hcz89_0 : w74.cell? ⟨gb206,0,none⟩ = some (.bool false) := (blk_cell BK206.out 0).trans rfl
         have hcz89_1 : w74.cell? ⟨gb206,1,none⟩ = some (.int .i64 0) := (blk_cell BK206.out 1).trans rfl
         have hfz89_0 := blk_frozen BK206.out 0
         have hfz89_1 := blk_frozen BK206.out 1
         have hcz90_0 : w74.cell? ⟨gb205,0,none⟩ = some (.string (⟨#[]⟩ : ByteArray)) := (blk_cell BK205.out 0).trans rfl
         have hcz90_1 : w74.cell? ⟨gb205,1,none⟩ = some (.int .i64 0) := (blk_cell BK205.out 1).trans rfl
         have hcz90_2 : w74.cell? ⟨gb205,2,none⟩ = some (.int .i64 0) := (blk_cell BK205.out 2).trans rfl
         have hcz90_3 : w74.cell? ⟨gb205,3,none⟩ = some (.int .i64 0) := (blk_cell BK205.out 3).trans rfl
         have hcz90_4 : w74.cell? ⟨gb205,4,none⟩ = some (.int .i64 0) := (blk_cell BK205.out 4).trans rfl
         have hfz90_0 := blk_frozen BK205.out 0
         have hfz90_1 := blk_frozen BK205.out 1
         have hfz90_2 := blk_frozen BK205.out 2
         have hfz90_3 := blk_frozen BK205.out 3
         have hfz90_4 := blk_frozen BK205.out 4
         go_wp2
         go_meet
         case rel => (try rw [← Nbq82.out]);exact ⟨_,(false),Y12,H',⟨by have := HK1.out;first | omega | exact Nat.le_refl _⟩,⟨by (try simp only [hl90_1]);(with_reducible repeat (first | apply Kd.R_alloc | apply Kd.R_drewN | apply Kd.R_drew));exact Kd.R_mono (Kd.R_far (p := ⟨gb206,1,none⟩) (Kd.R_far (p := ⟨gb206,0,none⟩) (Kd.R_far (p := ⟨gb205,4,none⟩) (Kd.R_far (p := ⟨gb205,3,none⟩) (Kd.R_far (p := ⟨gb205,2,none⟩) (Kd.R_far (p := ⟨gb205,1,none⟩) (Kd.R_far (p := ⟨gb205,0,none⟩) (Kd.R_mono (Kd.R_types HO_13.out BK205.out (by decide)) (fun k_ hk => (⟨hk,hk.1⟩ : _ ∧ k_ ≠ gb206))) (fun _ hk => hk.1.2) (.string ((rd_T43 l0 (rd t201 x92_1)).f0))) (fun _ hk => hk.1.2) (.int .i64 ((rd_T43 l0 (rd t201 x92_1)).f1))) (fun _ hk => hk.1.2) (.int .i64 ((rd_T43 l0 (rd t201 x92_1)).f2))) (fun _ hk => hk.1.2) (.int .i64 ((rd_T43 l0 (rd t201 x92_1)).f3))) (fun _ hk => hk.1.2) (.int .i64 ((rd_T43 l0 (rd t201 x92_1)).f4))) (fun _ hk => hk.2) (.bool (true))) (fun _ hk => hk.2) (.int .i64 ((rd_T51 l1 (rd t201 x92_1)).f1))) (fun _ hk => hk.1.1)⟩,⟨by (try simp only [hl90_1]);(with_reducible repeat (first | apply Kd.R_alloc | apply Kd.R_drewN | apply Kd.R_drew));exact Kd.R_mono (Kd.R_far (p := ⟨gb206,1,none⟩) (Kd.R_far (p := ⟨gb206,0,none⟩) (Kd.R_far (p := ⟨gb205,4,none⟩) (Kd.R_far (p := ⟨gb205,3,none⟩) (Kd.R_far (p := ⟨gb205,2,none⟩) (Kd.R_far (p := ⟨gb205,1,none⟩) (Kd.R_far (p := ⟨gb205,0,none⟩) (Kd.R_types (Kd.R_types HO_90.out BK205.out (by decide)) BK206.out (by decide)) (fun _ hk => hk.1.2) (.string ((rd_T43 l0 (rd t201 x92_1)).f0))) (fun _ hk => hk.1.2) (.int .i64 ((rd_T43 l0 (rd t201 x92_1)).f1))) (fun _ hk => hk.1.2) (.int .i64 ((rd_T43 l0 (rd t201 x92_1)).f2))) (fun _ hk => hk.1.2) (.int .i64 ((rd_T43 l0 (rd t201 x92_1)).f3))) (fun _ hk => hk.1.2) (.int .i64 ((rd_T43 l0 (rd t201 x92_1)).f4))) (fun _ hk => hk.2) (.bool (true))) (fun _ hk => hk.2) (.int .i64 ((rd_T51 l1 (rd t201 x92_1)).f1))) (fun _ hk => trivial)⟩,⟨by (try simp only [hl90_1]);(with_reducible repeat (first | refine blk_drewN ?_ _ | refine blk_drew ?_ | refine blk_alloc ?_ _));refine blk_far ?_ NB205_206.out _;(with_reducible repeat (first | refine blk_drewN ?_ _ | refine blk_drew ?_ | refine blk_alloc ?_ _));refine blk_far ?_ NB205_206.out _;(with_reducible repeat (first | refine blk_drewN ?_ _ | refine blk_drew ?_ | refine blk_alloc ?_ _));refine blk_put (cs := #[.string ((rd_T43 l0 (rd t201 x92_1)).f0),.int .i64 ((rd_T43 l0 (rd t201 x92_1)).f1),.int .i64 ((rd_T43 l0 (rd t201 x92_1)).f2),.int .i64 ((rd_T43 l0 (rd t201 x92_1)).f3),.int .i64 0]) ?_ 4 _ rfl;(with_reducible repeat (first | refine blk_drewN ?_ _ | refine blk_drew ?_ | refine blk_alloc ?_ _));refine blk_put (cs := #[.string ((rd_T43 l0 (rd t201 x92_1)).f0),.int .i64 ((rd_T43 l0 (rd t201 x92_1)).f1),.int .i64 ((rd_T43 l0 (rd t201 x92_1)).f2),.int .i64 0,.int .i64 0]) ?_ 3 _ rfl;(with_reducible repeat (first | refine blk_drewN ?_ _ | refine blk_drew ?_ | refine blk_alloc ?_ _));refine blk_put (cs := #[.string ((rd_T43 l0 (rd t201 x92_1)).f0),.int .i64 ((rd_T43 l0 (rd t201 x92_1)).f1),.int .i64 0,.int .i64 0,.int .i64 0]) ?_ 2 _ rfl;(with_reducible repeat (first | refine blk_drewN ?_ _ | refine blk_drew ?_ | refine blk_alloc ?_ _));refine blk_put (cs := #[.string ((rd_T43 l0 (rd t201 x92_1)).f0),.int .i64 0,.int .i64 0,.int .i64 0,.int .i64 0]) ?_ 1 _ rfl;(with_reducible repeat (first | refine blk_drewN ?_ _ | refine blk_drew ?_ | refine blk_alloc ?_ _));refine blk_put (cs := #[.string (⟨#[]⟩ : ByteArray),.int .i64 0,.int .i64 0,.int .i64 0,.int .i64 0]) ?_ 0 _ rfl;(with_reducible repeat (first | refine blk_drewN ?_ _ | refine blk_drew ?_ | refine blk_alloc ?_ _));exact BK205.out⟩,⟨by (try simp only [hl90_1]);(with_reducible repeat (first | refine blk_drewN ?_ _ | refine blk_drew ?_ | refine blk_alloc ?_ _));refine blk_put (cs := #[.bool (true),.int .i64 0]) ?_ 1 _ rfl;(with_reducible repeat (first | refine blk_drewN ?_ _ | refine blk_drew ?_ | refine blk_alloc ?_ _));refine blk_put (cs := #[.bool false,.int .i64 0]) ?_ 0 _ rfl;(with_reducible repeat (first | refine blk_drewN ?_ _ | refine blk_drew ?_ | refine blk_alloc ?_ _));refine blk_far ?_ NB206_205.out _;(with_reducible repeat (first | refine blk_drewN ?_ _ | refine blk_drew ?_ | refine blk_alloc ?_ _));refine blk_far ?_ NB206_205.out _;(with_reducible repeat (first | refine blk_drewN ?_ _ | refine blk_drew ?_ | refine blk_alloc ?_ _));refine blk_far ?_ NB206_205.out _;(with_reducible repeat (first | refine blk_drewN ?_ _ | refine blk_drew ?_ | refine blk_alloc ?_ _));refine blk_far ?_ NB206_205.out _;(with_reducible repeat (first | refine blk_drewN ?_ _ | refine blk_drew ?_ | refine blk_alloc ?_ _));refine blk_far ?_ NB206_205.out _;(with_reducible repeat (first | refine blk_drewN ?_ _ | refine blk_drew ?_ | refine blk_alloc ?_ _));exact BK206.out⟩,⟨by repeat (first | (with_reducible first | exact HB.out | apply below_alloc | apply Y15 | apply below_drew1 | refine below_set ?_ GE205.out | refine below_set ?_ GE206.out) | exact HB.out)⟩⟩
       ·replace c83 := Bool.eq_false_iff.mpr c83
        subst c83
        have H1 : (demand_Step.j3 k1 l0 l1 a3 a4 x13_1 x15_1 (rd t201 x92_1) t201 (t191.length : Int) x92_1 false ((rd_T43 l0 (rd t201 x92_1)).f0) ((rd_T43 l0 (rd t201 x92_1)).f1) ((rd_T43 l0 (rd t201 x92_1)).f2) ((rd_T43 l0 (rd t201 x92_1)).f3) ((rd_T43 l0 (rd t201 x92_1)).f4)) = some (r1,r2) := by rw [if_neg (show ¬ (false = true) by decide)] at H;exact H
        clear H
        have H := H1
        clear H1
        have H' := Yd H
        clear H
        have hnb91 := NB206_205.out
        have hnc91 := NB205_206.out
        have hcz92_0 : w74.cell? ⟨gb206,0,none⟩ = some (.bool false) := (blk_cell BK206.out 0).trans rfl
        have hcz92_1 : w74.cell? ⟨gb206,1,none⟩ = some (.int .i64 0) := (blk_cell BK206.out 1).trans rfl
        have hfz92_0 := blk_frozen BK206.out 0
        have hfz92_1 := blk_frozen BK206.out 1
        go_wp2
        go_meet
        case rel => (try rw [← Nbq82.out]);exact ⟨_,(false),Y12,H',⟨by have := HK1.out;first | omega | exact Nat.le_refl _⟩,⟨by (try simp only [hl90_1]);(with_reducible repeat (first | apply Kd.R_alloc | apply Kd.R_drewN | apply Kd.R_drew));exact Kd.R_mono (Kd.R_far (p := ⟨gb206,1,none⟩) (Kd.R_far (p := ⟨gb206,0,none⟩) (Kd.R_far (p := ⟨gb205,4,none⟩) (Kd.R_far (p := ⟨gb205,3,none⟩) (Kd.R_far (p := ⟨gb205,2,none⟩) (Kd.R_far (p := ⟨gb205,1,none⟩) (Kd.R_far (p := ⟨gb205,0,none⟩) (Kd.R_mono (Kd.R_types HO_13.out BK205.out (by decide)) (fun k_ hk => (⟨hk,hk.1⟩ : _ ∧ k_ ≠ gb206))) (fun _ hk => hk.1.2) (.string ((rd_T43 l0 (rd t201 x92_1)).f0))) (fun _ hk => hk.1.2) (.int .i64 ((rd_T43 l0 (rd t201 x92_1)).f1))) (fun _ hk => hk.1.2) (.int .i64 ((rd_T43 l0 (rd t201 x92_1)).f2))) (fun _ hk => hk.1.2) (.int .i64 ((rd_T43 l0 (rd t201 x92_1)).f3))) (fun _ hk => hk.1.2) (.int .i64 ((rd_T43 l0 (rd t201 x92_1)).f4))) (fun _ hk => hk.2) (.bool (false))) (fun _ hk => hk.2) (.int .i64 ((rd_T51 l1 (rd t201 x92_1)).f1))) (fun _ hk => hk.1.1)⟩,⟨by (try simp only [hl90_1]);(with_reducible repeat (first | apply Kd.R_alloc | apply Kd.R_drewN | apply Kd.R_drew));exact Kd.R_mono (Kd.R_far (p := ⟨gb206,1,none⟩) (Kd.R_far (p := ⟨gb206,0,none⟩) (Kd.R_far (p := ⟨gb205,4,none⟩) (Kd.R_far (p := ⟨gb205,3,none⟩) (Kd.R_far (p := ⟨gb205,2,none⟩) (Kd.R_far (p := ⟨gb205,1,none⟩) (Kd.R_far (p := ⟨gb205,0,none⟩) (Kd.R_types (Kd.R_types HO_90.out BK205.out (by decide)) BK206.out (by decide)) (fun _ hk => hk.1.2) (.string ((rd_T43 l0 (rd t201 x92_1)).f0))) (fun _ hk => hk.1.2) (.int .i64 ((rd_T43 l0 (rd t201 x92_1)).f1))) (fun _ hk => hk.1.2) (.int .i64 ((rd_T43 l0 (rd t201 x92_1)).f2))) (fun _ hk => hk.1.2) (.int .i64 ((rd_T43 l0 (rd t201 x92_1)).f3))) (fun _ hk => hk.1.2) (.int .i64 ((rd_T43 l0 (rd t201 x92_1)).f4))) (fun _ hk => hk.2) (.bool (false))) (fun _ hk => hk.2) (.int .i64 ((rd_T51 l1 (rd t201 x92_1)).f1))) (fun _ hk => trivial)⟩,⟨by (try simp only [hl90_1]);(with_reducible repeat (first | refine blk_drewN ?_ _ | refine blk_drew ?_ | refine blk_alloc ?_ _));refine blk_far ?_ NB205_206.out _;(with_reducible repeat (first | refine blk_drewN ?_ _ | refine blk_drew ?_ | refine blk_alloc ?_ _));refine blk_far ?_ NB205_206.out _;(with_reducible repeat (first | refine blk_drewN ?_ _ | refine blk_drew ?_ | refine blk_alloc ?_ _));refine blk_put (cs := #[.string ((rd_T43 l0 (rd t201 x92_1)).f0),.int .i64 ((rd_T43 l0 (rd t201 x92_1)).f1),.int .i64 ((rd_T43 l0 (rd t201 x92_1)).f2),.int .i64 ((rd_T43 l0 (rd t201 x92_1)).f3),.int .i64 0]) ?_ 4 _ rfl;(with_reducible repeat (first | refine blk_drewN ?_ _ | refine blk_drew ?_ | refine blk_alloc ?_ _));refine blk_put (cs := #[.string ((rd_T43 l0 (rd t201 x92_1)).f0),.int .i64 ((rd_T43 l0 (rd t201 x92_1)).f1),.int .i64 ((rd_T43 l0 (rd t201 x92_1)).f2),.int .i64 0,.int .i64 0]) ?_ 3 _ rfl;(with_reducible repeat (first | refine blk_drewN ?_ _ | refine blk_drew ?_ | refine blk_alloc ?_ _));refine blk_put (cs := #[.string ((rd_T43 l0 (rd t201 x92_1)).f0),.int .i64 ((rd_T43 l0 (rd t201 x92_1)).f1),.int .i64 0,.int .i64 0,.int .i64 0]) ?_ 2 _ rfl;(with_reducible repeat (first | refine blk_drewN ?_ _ | refine blk_drew ?_ | refine blk_alloc ?_ _));refine blk_put (cs := #[.string ((rd_T43 l0 (rd t201 x92_1)).f0),.int .i64 0,.int .i64 0,.int .i64 0,.int .i64 0]) ?_ 1 _ rfl;(with_reducible repeat (first | refine blk_drewN ?_ _ | refine blk_drew ?_ | refine blk_alloc ?_ _));refine blk_put (cs := #[.string (⟨#[]⟩ : ByteArray),.int .i64 0,.int .i64 0,.int .i64 0,.int .i64 0]) ?_ 0 _ rfl;(with_reducible repeat (first | refine blk_drewN ?_ _ | refine blk_drew ?_ | refine blk_alloc ?_ _));exact BK205.out⟩,⟨by (try simp only [hl90_1]);(with_reducible repeat (first | refine blk_drewN ?_ _ | refine blk_drew ?_ | refine blk_alloc ?_ _));refine blk_put (cs := #[.bool (false),.int .i64 0]) ?_ 1 _ rfl;(with_reducible repeat (first | refine blk_drewN ?_ _ | refine blk_drew ?_ | refine blk_alloc ?_ _));refine blk_put (cs := #[.bool false,.int .i64 0]) ?_ 0 _ rfl;(with_reducible repeat (first | refine blk_drewN ?_ _ | refine blk_drew ?_ | refine blk_alloc ?_ _));refine blk_far ?_ NB206_205.out _;(with_reducible repeat (first | refine blk_drewN ?_ _ | refine blk_drew ?_ | refine blk_alloc ?_ _));refine blk_far ?_ NB206_205.out _;(with_reducible repeat (first | refine blk_drewN ?_ _ | refine blk_drew ?_ | refine blk_alloc ?_ _));refine blk_far ?_ NB206_205.out _;(with_reducible repeat (first | refine blk_drewN ?_ _ | refine blk_drew ?_ | refine blk_alloc ?_ _));refine blk_far ?_ NB206_205.out _;(with_reducible repeat (first | refine blk_drewN ?_ _ | refine blk_drew ?_ | refine blk_alloc ?_ _));refine blk_far ?_ NB206_205.out _;(with_reducible repeat (first | refine blk_drewN ?_ _ | refine blk_drew ?_ | refine blk_alloc ?_ _));exact BK206.out⟩,⟨by repeat (first | (with_reducible first | exact HB.out | apply below_alloc | apply Y15 | apply below_drew1 | refine below_set ?_ GE205.out | refine below_set ?_ GE206.out) | exact HB.out)⟩⟩
      case rest =>
       clear HC70
       try clear c1
       try clear p1
       try clear q1
       try clear hx1
       try clear c2
       try clear p2
       try clear q2
       try clear hx2
       try clear c3
       try clear q3
       try clear c4
       try clear p4
       try clear q4
       try clear hx4
       try clear c5
       try clear hx5
       try clear hf5
       try clear c6
       try clear p6
       try clear c7
       try clear c7b0
       try clear c7b1
       try clear c8
       try clear q8
       try clear c9
       try clear c11
       try clear c11b0
       try clear p19
       try clear q19
       try clear hx19
       try clear c20
       try clear c20b0
       try clear p20
       try clear q20
       try clear hx20
       try clear c21
       try clear c21b0
       try clear c22
       try clear c22b0
       try clear c23
       try clear c23b0
       try clear c24
       try clear c24b0
       try clear c25
       try clear c25b0
       try clear c26
       try clear c38
       try clear c38b0
       try clear q39
       try clear c40
       try clear c41
       try clear c43
       try clear c46
       try clear c47
       try clear c47b0
       try clear c48
       try clear c48b0
       try clear c49
       try clear p49
       try clear q49
       try clear hx49
       try clear hf49
       try clear c50
       try clear hx50
       try clear hf50
       try clear c52
       try clear c64
       try clear c64b0
       try clear p64
       try clear c65
       try clear c65b0
       try clear c66
       try clear c66b0
       try clear c67
       try clear c67b0
       try clear c68
       try clear c68b0
       try clear c69
       try clear c69b0
       try clear q82
       try clear c83
       try clear c84
       try clear c84b0
       try clear c85
       try clear c88
       try clear c91
       try clear hcz42_0
       try clear hcz42_1
       try clear hcz44_0
       try clear hcz44_1
       try clear hcz45_0
       try clear hcz45_1
       try clear hcz45_2
       try clear hcz45_3
       try clear hcz45_4
       try clear hcz53_0
       try clear hcz53_1
       try clear hcz53_2
       try clear hcz53_3
       try clear hcz53_4
       try clear hcz86_0
       try clear hcz86_1
       try clear hcz87_0
       try clear hcz87_1
       try clear hcz87_2
       try clear hcz87_3
       try clear hcz87_4
       try clear hcz89_0
       try clear hcz89_1
       try clear hcz90_0
       try clear hcz90_1
       try clear hcz90_2
       try clear hcz90_3
       try clear hcz90_4
       try clear hcz92_0
       try clear hcz92_1
       try clear hfz42_0
       try clear hfz42_1
       try clear hfz44_0
       try clear hfz44_1
       try clear hfz45_0
       try clear hfz45_1
       try clear hfz45_2
       try clear hfz45_3
       try clear hfz45_4
       try clear hfz53_0
       try clear hfz53_1
       try clear hfz53_2
       try clear hfz53_3
       try clear hfz53_4
       try clear hfz86_0
       try clear hfz86_1
       try clear hfz87_0
       try clear hfz87_1
       try clear hfz87_2
       try clear hfz87_3
       try clear hfz87_4
       try clear hfz89_0
       try clear hfz89_1
       try clear hfz90_0
       try clear hfz90_1
       try clear hfz90_2
       try clear hfz90_3
       try clear hfz90_4
       try clear hfz92_0
       try clear hfz92_1
       try clear hx195_0
       try clear hx196_0
       try clear hx196_1
       try clear hx196_2
       try clear hx196_3
       try clear hx196_4
       try clear hx197_0
       try clear hx197_1
       try clear hx202_0
       try clear hx203_0
       try clear hx203_1
       try clear hx203_2
       try clear hx203_3
       try clear hx203_4
       try clear hx204_0
       try clear hx204_1
       try clear hx49_0
       try clear hx49_1
       try clear hx50_0
       try clear hx50_1
       try clear p1
       try clear p19
       try clear p195
       try clear p196
       try clear p197
       try clear p2
       try clear p202
       try clear p203
       try clear p204
       try clear p4
       try clear p49
       try clear p6
       try clear q1
       try clear q19
       try clear q195
       try clear q196
       try clear q197
       try clear q202
       try clear q203
       try clear q204
       try clear q3
       try clear q39
       try clear q4
       try clear q49
       obtain ⟨kq,x122_69,rfl,HA,HJ69,HO_13,HO_90,BK205,BK206,HB⟩ := hcut
       cases kq with
       | zero => exact absurd HA.out (by simp [demand_Step.j3])
       | succ kj69 =>
        have H := HA.out
        clear HA
        simp only [demand_Step.j3] at H
        by_cases c93 : x122_69 = true
        ·subst c93
         have H1 : (if 0 ≤ (rd t201 x92_1) then (if (rd t201 x92_1) < (x13_1.length : Int) then (demand_Step.l1 kj69 l0 l1 a3 a4 (x13_1.set ((rd t201 x92_1) : Int).toNat (⟨false,a4⟩ : S51)) (wrap64 (x15_1 + ((rd_T43 l0 (rd t201 x92_1)).f2))) t201 (t191.length : Int) (wrap64 (x92_1 + 1))) else (none)) else (none)) = some (r1,r2) := by rw [if_pos rfl] at H;exact H
         clear H
         have H := H1
         clear H1
         by_cases c94 : 0 ≤ (rd t201 x92_1)
         case neg => rw [if_neg c94] at H;exact absurd H (by simp)
         rw [if_pos c94] at H
         have c94b0 : decide (0 ≤ (rd t201 x92_1)) = true := decide_eq_true c94
         clear c94
         by_cases c95 : (rd t201 x92_1) < (x13_1.length : Int)
         case neg => rw [if_neg c95] at H;exact absurd H (by simp)
         rw [if_pos c95] at H
         have c95b0 : decide ((rd t201 x92_1) < (x13_1.length : Int)) = true := decide_eq_true c95
         (try simp only [hl90_1] at c95b0)
         clear c95
         obtain ⟨y207,hy207⟩ : ∃ y_ : List (S51),y_ = (x13_1.set ((rd t201 x92_1) : Int).toNat (⟨false,a4⟩ : S51)) := ⟨_,rfl⟩
         replace H : (demand_Step.l1 kj69 l0 l1 a3 a4 y207 (wrap64 (x15_1 + ((rd_T43 l0 (rd t201 x92_1)).f2))) t201 (t191.length : Int) (wrap64 (x92_1 + 1))) = some (r1,r2) := by first | (rw [hy207];with_reducible exact H) | (have H2_ := (Option.bind_some _ _).symm.trans H;rw [hy207];with_reducible exact H2_) | (have H2_ := (Option.bind_some _ _).symm.trans H;with_reducible exact H2_) | with_reducible exact H | (rw [hy207];exact H) | exact H
         have Ny207 := Yd hy207
         clear hy207
         have H' := Yd H
         clear H
         have p96 : 0 ≤ ((rd t201 x92_1) : Int) := Y9
         have q96 : ((rd t201 x92_1) : Int) < ((x13_1.length : Int) : Int) := Y9
         obtain ⟨go96,co96,eo96,gb96,gl96,cl96,HG96⟩ := Kd.R_form HO_13.out (by omega)
         (first | cases eo96 | (injection eo96 with ea_ en_ ec_;(first | subst ea_ | (injection ea_ with ea_;subst ea_));subst ec_;clear en_))
         have GB96 := Yd gb96
         have GG96 := Yd HG96
         clear gb96 gl96 HG96
         obtain ⟨ce96,hcl96,hM96,hcc96,hfr96⟩ := Kd.R_elem HO_13.out z51 ((rd t201 x92_1) : Int) p96 q96
         obtain rfl := k51_openM hM96
         have hx96_0 : wc.cell? ⟨go96,((rd t201 x92_1) : Int).toNat * 2,none⟩ = some (.bool ((rd_T51 x13_1 (rd t201 x92_1)).f0)) := hcc96 0 _ rfl
         have hx96_1 : wc.cell? ⟨go96,((rd t201 x92_1) : Int).toNat * 2 + 1,none⟩ = some (.int .i64 ((rd_T51 x13_1 (rd t201 x92_1)).f1)) := hcc96 1 _ rfl
         have hf96_0 : wc.frozen? ⟨go96,((rd t201 x92_1) : Int).toNat * 2,none⟩ = false := hfr96 0
         have hf96_1 : wc.frozen? ⟨go96,((rd t201 x92_1) : Int).toNat * 2 + 1,none⟩ = false := hfr96 1
         clear hcl96 hcc96 hfr96 hM96
         replace p96 := eq_true p96
         replace q96 := eq_true q96
         have HX97 := Yd (show Kd.R k51 51 wc w.heap.size (fun k_ => k_ ≠ gb206) (.slice (some ⟨go96,0,none⟩) x13_1.length co96) x13_1 from (Y5 HO_13.out))
         obtain ⟨ce97,hcl97,hM97,hcc97,hfr97⟩ := Kd.R_elem HX97.out z51 ((rd t201 x92_1) : Int) (Y9) (by have h_ : ((rd t201 x92_1) : Int) < ((x13_1.length : Int) : Int) := Y9;first | exact h_ | (have e_ := (Kd.R_reads' HO_13.out).1;omega) | simpa using h_)
         obtain rfl := k51_openM hM97
         have HP97 := Kd.R_seg HX97.out ((rd t201 x92_1) : Int) (Y9) (by have h_ : ((rd t201 x92_1) : Int) < ((x13_1.length : Int) : Int) := Y9;first | exact h_ | (have e_ := (Kd.R_reads' HO_13.out).1;omega) | simpa using h_) (seg := [.bool false,.int .i64 a4]) (j := 0) hcl97 hcc97 (show 2 ≤ 2 from by decide) (x' := (⟨false,a4⟩ : S51)) (k51_mkM _ _ _ (⟨false,a4⟩ : S51) ) (fun _ hk => hk)
         have hx97_0 := hcc97 0 _ rfl
         (try simp only [show (k51).sz = 2 from rfl,Nat.mul_one,Nat.add_zero] at hx97_0)
         have hf97_0 := hfr97 0
         (try simp only [show (k51).sz = 2 from rfl,Nat.mul_one,Nat.add_zero] at hf97_0)
         have hx97_1 := hcc97 1 _ rfl
         (try simp only [show (k51).sz = 2 from rfl,Nat.mul_one,Nat.add_zero] at hx97_1)
         have hf97_1 := hfr97 1
         (try simp only [show (k51).sz = 2 from rfl,Nat.mul_one,Nat.add_zero] at hf97_1)
         clear hcl97 hcc97 hfr97 hM97
         go_wp2_with (first | ((with_reducible refine gate_store (t := 51) (p := 127) rfl ?_);refine store_event (t := 51) (p := 127) (v := ?vo_w98) (w1 := ((wc.setCell ⟨go96,((rd t201 x92_1) : Int).toNat * 2,none⟩ (.bool false)).setCell ⟨go96,((rd t201 x92_1) : Int).toNat * 2 + 1,none⟩ (.int .i64 a4))) ?hg ?ho ?hn ?hr ?_;(case ho => rfl);(case hg => rfl);(case hn => rfl);(case hr => first | (go_simp;done) | (go_simp;rfl));intro w98 hw;have hg : wc.grownBy w98 (some go96) := (by rw [hw];exact HP97.2);have hp_ : Kd.R k51 51 w98 w.heap.size (fun k_ => k_ ≠ gb206) (.slice (some ⟨go96,0,none⟩) x13_1.length co96) y207 := (by rw [hw,Ny207.out];exact HP97.1);clear HP97;have n0_ := Yd (hp_);have n1_ := Yd (Kd.R_over' (v := (.slice (some ⟨go96,0,none⟩) x13_1.length co96)) (Y5 HO_90.out) (Kd.R_typed HO_13.out) (by decide) hg);have n2_ := Yd (blk_grown (g := gb205) (o := .cells #[.string ((rd_T43 l0 (rd t201 x92_1)).f0),.int .i64 ((rd_T43 l0 (rd t201 x92_1)).f1),.int .i64 ((rd_T43 l0 (rd t201 x92_1)).f2),.int .i64 ((rd_T43 l0 (rd t201 x92_1)).f3),.int .i64 ((rd_T43 l0 (rd t201 x92_1)).f4)] 43 (0,0)) (Y6 BK205.out) hg (Kd.R_ne HO_13.out BK205.out (by decide)));have n3_ := Yd (blk_grown (g := gb206) (o := .cells #[.bool ((rd_T51 l1 (rd t201 x92_1)).f0),.int .i64 ((rd_T51 l1 (rd t201 x92_1)).f1)] 51 (0,0)) (Y6 BK206.out) hg (Kd.R_away HO_13.out (fun _ hk => hk)));have n4_ := Yd ((by rw [hw];exact below_set (below_set (HB.out) GB96.out) GB96.out : Below w.heap.size w w98));clear HO_13;clear HO_90;clear BK205;clear BK206;clear HB;have HO_13 := n0_;have HO_90 := n1_;have BK205 := n2_;have BK206 := n3_;have HB := n4_;clear n0_ n1_ n2_ n3_ n4_;clear hg hw hp_;have hnb99 := NB205_206.out;have hnc99 := NB206_205.out;have hcz100_0 : w98.cell? ⟨gb205,0,none⟩ = some (.string ((rd_T43 l0 (rd t201 x92_1)).f0)) := (blk_cell BK205.out 0).trans rfl;have hcz100_1 : w98.cell? ⟨gb205,1,none⟩ = some (.int .i64 ((rd_T43 l0 (rd t201 x92_1)).f1)) := (blk_cell BK205.out 1).trans rfl;have hcz100_2 : w98.cell? ⟨gb205,2,none⟩ = some (.int .i64 ((rd_T43 l0 (rd t201 x92_1)).f2)) := (blk_cell BK205.out 2).trans rfl;have hcz100_3 : w98.cell? ⟨gb205,3,none⟩ = some (.int .i64 ((rd_T43 l0 (rd t201 x92_1)).f3)) := (blk_cell BK205.out 3).trans rfl;have hcz100_4 : w98.cell? ⟨gb205,4,none⟩ = some (.int .i64 ((rd_T43 l0 (rd t201 x92_1)).f4)) := (blk_cell BK205.out 4).trans rfl;have hfz100_0 := blk_frozen BK205.out 0;have hfz100_1 := blk_frozen BK205.out 1;have hfz100_2 := blk_frozen BK205.out 2;have hfz100_3 := blk_frozen BK205.out 3;have hfz100_4 := blk_frozen BK205.out 4))
         (try simp only [← hl90_1])
         go_roundg kj69
         case measure => have := HK1.out;have := HJ69.out;omega
         case rel => exact ⟨(y207),(wrap64 (x15_1 + ((rd_T43 l0 (rd t201 x92_1)).f2))),(wrap64 (x92_1 + 1)),Y12,Y12,H',⟨by have := HK1.out;have := HJ69.out;omega⟩,⟨by (try simp only [hl90_1]);(with_reducible repeat (first | apply Kd.R_alloc | apply Kd.R_drewN | apply Kd.R_drew));exact Kd.R_mono HO_13.out (fun _ hk => trivial)⟩,⟨by (try simp only [hl90_1]);(with_reducible repeat (first | apply Kd.R_alloc | apply Kd.R_drewN | apply Kd.R_drew));exact HO_90.out⟩,⟨by repeat (first | (with_reducible first | exact HB.out | apply below_alloc | apply Y15 | apply below_drew1 | refine below_set ?_ GE205.out | refine below_set ?_ GE206.out) | exact HB.out)⟩⟩
        ·replace c93 := Bool.eq_false_iff.mpr c93
         subst c93
         have H1 : (demand_Step.l1 kj69 l0 l1 a3 a4 x13_1 x15_1 t201 (t191.length : Int) (wrap64 (x92_1 + 1))) = some (r1,r2) := by rw [if_neg (show ¬ (false = true) by decide)] at H;exact H
         clear H
         have H := H1
         clear H1
         have H' := Yd H
         clear H
         go_wp2
         (try simp only [← hl90_1])
         go_roundg kj69
         case measure => have := HK1.out;have := HJ69.out;omega
         case rel => exact ⟨(x13_1),(x15_1),(wrap64 (x92_1 + 1)),Y12,Y12,H',⟨by have := HK1.out;have := HJ69.out;omega⟩,⟨by (try simp only [hl90_1]);(with_reducible repeat (first | apply Kd.R_alloc | apply Kd.R_drewN | apply Kd.R_drew));exact Kd.R_mono HO_13.out (fun _ hk => trivial)⟩,⟨by (try simp only [hl90_1]);(with_reducible repeat (first | apply Kd.R_alloc | apply Kd.R_drewN | apply Kd.R_drew));exact HO_90.out⟩,⟨by repeat (first | (with_reducible first | exact HB.out | apply below_alloc | apply Y15 | apply below_drew1 | refine below_set ?_ GE205.out | refine below_set ?_ GE206.out) | exact HB.out)⟩⟩
     ·rw [if_neg c64] at H
      have c64b0 : decide (x92_1 < (t191.length : Int)) = false := decide_eq_false c64
      (try simp only [hl90_1] at c64b0)
      clear c64
      simp only [Option.some.injEq,Prod.mk.injEq] at H
      obtain ⟨rfl,rfl⟩ := H
      go_wp2
      go_ret2
      exact ⟨_,by first | rfl | (simp [errW_none,errW_some] <;> rfl) | (simp [*,errW_none,errW_some] <;> rfl),by (with_reducible repeat (first | apply Kd.R_alloc | apply Kd.R_drewN | apply Kd.R_drew));exact HO_13.out,Y3 HB.out⟩
 ·rw [if_neg c7] at H
  have c7b0 : (t187 == 0) = false := beq_eq_false_iff_ne.mpr c7
  have c7b1 : (t187 != 0) = true := bne_iff_ne.mpr c7
  simp only [Option.some.injEq,Prod.mk.injEq] at H
  obtain ⟨rfl,rfl⟩ := H
  go_enter Try.func5,Try.ntmps5
  go_wp2_with (first | ((with_reducible refine gate_dst (N := 29) rfl ?_);refine Kd.R_lit (Kd.int .i64) _ 2 ?hg (N := 29) ?hd (xs := ([a2,a3] : List Int)) (inner := [.int .i64 a2,.int .i64 a3]) (ok := fun _ => True) (okp := fun _ => True) ?hr ?hp (fun _ hk => hk) trivial (Below.refl _ _) (Nat.le_refl _) (by simp) ?_;(case hd => rfl);(case hg => rfl);(case hr => first | (go_simp;done) | (go_simp;rfl));(case hp => exact (Reps.one (show Kd.M (Kd.int .i64) _ _ _ a2 [.int .i64 a2] from rfl) (Reps.one (show Kd.M (Kd.int .i64) _ _ _ a3 [.int .i64 a3] from rfl) (Reps.none _ _))));intro v185 w101 ho102 hb hg_ hnew_;clear hg_ hnew_;(first | rw [← Ny184.out] at ho102 | (simp only [Int.reduceToNat] at ho102;rw [← Ny184.out] at ho102));have n0_ := Yd (Kd.R_lower ho102 (below_size (Y3 HB.out)));have n1_ := Yd (below_step (Y3 HB.out) hb);clear HB;have HO186 := n0_;have HB := n1_;clear n0_ n1_;clear hb ho102;obtain ⟨Ao103,co103,eo103⟩ := Kd.R_slice HO186.out;subst eo103) | ((with_reducible refine gate_callee (f := 22) rfl ?_);refine goesL_ (some 30) rfl rfl Try.func22 (by kernel_rfl) rfl #[.slice A0 l0.length c0,.slice A1 l1.length c1,.int .i64 a4,.slice Ao103 y184.length co103] rfl Y8 ?_;(with_reducible refine (demand_check.calls k _ _ l0 _ _ l1 a4 _ _ y184 t187 _ ?side1 ?side2 ?side3 ?side4 ?side5 ?side6 A6.out).mono ?_);(case side1 => exact Y11 (Kd.C_below HR0.out HB.out));(case side2 => exact HC0.out);(case side3 => exact Y11 (Kd.C_below HR1.out HB.out));(case side4 => exact HC1.out);(case side5 => repeat (first | exact (Kd.R_reads' HO186.out).2.2 | (with_reducible refine Kd.C_alloc ?_ _) | (with_reducible refine Kd.C_drewN ?_ _) | (with_reducible refine Kd.C_drew ?_)));(case side6 => exact (Kd.R_reads' HO186.out).2.1);rintro e w104 ⟨rfl,hb⟩;refine ⟨_,rfl,?_⟩;have n0_ := Yd (Kd.R_below (Y5 HO186.out) hb);have n1_ := Yd (below_step (Y3 HB.out) hb);clear HO186;clear HB;have HO186 := n0_;have HB := n1_;clear n0_ n1_;(try clear hb);(try clear hb2);(try clear hk);(try clear hi)))
  go_ret2
  exact ⟨_,by first | rfl | (simp [errW_none,errW_some] <;> rfl) | (simp [*,errW_none,errW_some] <;> rfl),by first | exact Kd.R_nil _ _ _ _ _ | exact Kd.N_nil _ _ _ _ _ | exact Kd.V_nil _ _ _ _ _ | exact Kd.Q_nil _ _ _ _ _ | exact Kd.S_nil _ _ _ _ _,Y3 HB.out⟩
end Go.Proofs.Ytcdjhdfjkfbgdaa.PD56
namespace Go.Proofs.Ytcdjhdfjkfbgdaa.PD56
open Go.RowKit Go.Proofs.YtcdjhdfjkfbgdaaW.PrintWords Go.Proofs.YtcdjhdfjkfbgdaaW.PrintLast Go.Proofs.YtcdjhdfjkfbgdaaW.PrintMore
attribute [local go_sem] max2_int min2_int max_two min_two max_three min_three max_four min_four
theorem eqA51 (d : Nat) (w : World) (x0 y0 : Bool) (x1 y1 : Int) :
  (Op.equalIn (d + 2) 51 (.agg #[.bool x0,.int .i64 x1]) (.agg #[.bool y0,.int .i64 y1])).run Try.prog w = .ok (x0 == y0 && (x1 == y1)) w := by
 refine eqA_of Try.underlying51 (by kernel_rfl) ?_
 refine eqf_cons (by rfl) (by go_simp;rfl) (by go_simp;rfl) (by go_simp) ?_
 exact eqf_last (by rfl) (by go_simp;rfl) (by go_simp;rfl) (by go_simp)
end Go.Proofs.Ytcdjhdfjkfbgdaa.PD56
