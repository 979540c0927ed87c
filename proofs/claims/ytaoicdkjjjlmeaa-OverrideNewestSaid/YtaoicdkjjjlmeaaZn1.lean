/- Words, contracts and plain laws for this claim, part 1. -/
import Derived.Test.YtaoicdkjjjlmeaaZn0
import Derived.Lib.SliceRun
import Derived.Laws.Strings
import Derived.Test.YtaoicdkjjjlmeaaProg
import Derived.Shelf.Sort.Plain
import Derived.Shelf.Slices.In.SortNone
import Derived.Sort.LotA
import Derived.Sort.Grow
set_option linter.unusedVariables false
set_option linter.unusedSimpArgs false
namespace Go.Proofs.YtaoicdkjjjlmeaaW.PrintWords
open Go.RowKit
namespace Kd
theorem R_clear_run {P : Program} {W : World} {α : Type} (d : Kd α) (base : Nat) (t ty e : TypeId) (z : Value) (zx : α) (ht : P.underlying t = some (.slice e)) (hz : ∀ w : World, (zeroValue e).run P w = .ok z w) (hzs : z.cells.size = d.sz) (hs0 : 0 < d.sz)
  (hzM : ∀ (w : World) (base : Nat) (ok : Nat → Prop), d.M w base ok zx z.cells.toList)
  {n c k c2 : Nat} {A A0 : Option Addr} {xs : List α} {ok : Nat → Prop} (HO : d.R e W base ok (.slice A0 n c) xs) (hk : k ≤ n)
  (hA : A = if c = k then A0 else A0.map (·.add (k * d.sz))) :
  ∃ w1, (Builtin.clear_ #[t] ty #[.slice A (n - k) c2]).run P W = .ok (.tuple #[]) w1 ∧ d.R e w1 base ok (.slice A0 n c) (xs.take k ++ List.replicate (n - k) zx) ∧ W.grownBy w1 (Value.slice A0 n c).ownBlock := by
 have hn : xs.length = n := by
  obtain ⟨A', c', he, _⟩ := R_reads HO
  injection he with _ h2 _
  exact h2.symm
 rcases Nat.eq_zero_or_pos (n - k) with h0 | h0
 ·refine ⟨W, ?_, ?_, World.grownBy.refl _ _⟩
  ·rw [h0]
   cases A <;> simp [Builtin.clear_, run_underlying ht]
  ·rw [h0, List.replicate_zero, List.append_nil, List.take_of_length_le (by omega)]
   exact HO
 ·obtain ⟨hok, inner, ⟨hin, hcase⟩, hr⟩ := HO
  rcases hcase with ⟨hv, h1⟩ | ⟨g, c', cur, hv, hb, hh, hnc, hcm, hcs, htake⟩
  ·omega
  ·injection hv with h1 h2 h3
   subst h1 h3
   rw [hn] at hin hnc htake
   have hck : ¬ c = k := by omega
   rw [if_neg hck, Option.map_some, add_at] at hA
   subst hA
   obtain ⟨zs, hzs'⟩ : ∃ zs, zs = (Builtin.zeroCells z.cells (n - k)).toList := ⟨_, rfl⟩
   have hzl : zs.length = (n - k) * d.sz := by rw [hzs']; simp [Builtin.zeroCells, hzs]
   have hsub : (n - k) * d.sz = n * d.sz - k * d.sz := Nat.sub_mul _ _ _
   have hkn : k * d.sz ≤ n * d.sz := Nat.mul_le_mul_right _ hk
   have hnc' : n * d.sz ≤ c * d.sz := Nat.mul_le_mul_right _ hnc
   have hfit : (0 + k * d.sz) + zs.length ≤ cur.size := by omega
   have hone : ∀ u ∈ zs, u.oneCell' = true := by
    intro u hu
    rw [hzs'] at hu
    simp only [Builtin.zeroCells, Array.toList_map, List.mem_map] at hu
    obtain ⟨i, _, rfl⟩ := hu
    have hi : i % z.cells.size < z.cells.size := Nat.mod_lt _ (by omega)
    rw [getElem!_pos z.cells _ hi]
    exact d.K_one (d.K_of_M (hzM W 0 (fun _ => True))) _ (by simp)
   have hst := run_storeCells_cells (P := P) g (0 + k * d.sz) zs 0 W
    (fun j hj => by rw [cell_of_row W g _ cur e (0, 0) hh]; simp; omega) (fun j _ => blk_frozen hh _) hone
   refine ⟨W.setCells g (0 + k * d.sz) zs, ?_, ?_, ?_⟩
   ·obtain ⟨m, hm⟩ : ∃ m, n - k = m + 1 := ⟨n - k - 1, by omega⟩
    rw [hm] at hzs' ⊢
    simp only [Nat.zero_add, Nat.add_zero] at hst ⊢
    simp [Builtin.clear_, run_underlying ht, hz, ← hzs', hst]
   ·obtain ⟨cur', h3, h4, h5⟩ := setCells_row zs (0 + k * d.sz) W cur hh hfit
    have hfar : ∀ k', k' ≠ g → (W.setCells g (0 + k * d.sz) zs).heap[k']? = W.heap[k']? := fun k' hk' => setCells_far zs _ k' hk'
    have hel : (xs.take k ++ List.replicate (n - k) zx).length = n := by simp; omega
    refine ⟨hok, inner.take (k * d.sz) ++ zs, ⟨by rw [List.length_append, List.length_take, hzl, hel]; omega, .inr ⟨g, c, cur', by rw [hel], hb, h3, by rw [hel]; exact hnc, hcm, by rw [h4]; exact hcs, ?_⟩⟩, ?_⟩
    ·rw [hel, h5, Nat.zero_add]
     have h7 : cur.toList.take (k * d.sz) = inner.take (k * d.sz) := by rw [← htake, List.take_take, Nat.min_eq_left (by omega)]
     rw [h7]
     exact List.take_left' (by rw [List.length_append, List.length_take, hzl]; omega)
    ·have hmv : ∀ p q, d.M W base (fun k' => ok k' ∧ some k' ≠ (Value.slice (some ⟨g, 0, none⟩) n c).ownBlock) p q → d.M (W.setCells g (0 + k * d.sz) zs) base (fun k' => ok k' ∧ some k' ≠ (Value.slice (some ⟨g, 0, none⟩) n c).ownBlock) p q := fun p q hp =>
      d.M_move (fun k' hk' => hfar k' (fun he => hk'.2 (by simp [Value.ownBlock, he]))) hp
     refine reps_append ((reps_take hr (by omega)).imp_ hmv) ?_
     rw [hzs']
     exact reps_zeros hzs hs0 (hzM _ _ _) _
   ·obtain ⟨s1, s2, s3, s4⟩ := setCells_same g zs (0 + k * d.sz) W
    exact ⟨s1, s2, s3, by rw [s4]; exact Nat.le_refl _, fun k' _ hk' => setCells_far zs _ k' (fun he => hk' (by simp [Value.ownBlock, he]))⟩
section
variable {P : Program} {ops : Array Oper} {rest : List Oper} {o : Oper} {a : Act} {Q : Exit → Act → World → Prop} {α : Type}
theorem R_clear (d : Kd α) {w0 W : World} (base : Nat) (hgd : o.guard = none) (s : Operand) (t e : TypeId) (z : Value) (zx : α) (ho : o.op = .call { callee := .builtin .clear, args := #[s], argTypes := #[t] })
  (ht : P.underlying t = some (.slice e)) (hz : ∀ w : World, (zeroValue e).run P w = .ok z w) (hzs : z.cells.size = d.sz) (hs0 : 0 < d.sz) (hzM : ∀ (w : World) (base : Nat) (ok : Nat → Prop), d.M w base ok zx z.cells.toList)
  {n c k m c2 : Nat} {A A0 : Option Addr} {xs : List α} {ok : Nat → Prop} (hs : a.eval s = .slice A m c2) (hA : A = if c = k then A0 else A0.map (·.add (k * d.sz))) (hm : m = n - k)
  (HO : d.R e W base ok (.slice A0 n c) xs) (hk : k ≤ n) (HB : Below base w0 W) (hbase : base ≤ W.heap.size)
  (h : ∀ w1, d.R e w1 base ok (.slice A0 n c) (xs.take k ++ List.replicate (n - k) zx) → Below base w0 w1 → W.grownBy w1 (Value.slice A0 n c).ownBlock → wpList P ops Q rest (a.put o.dst (.tuple #[])) w1) : wpList P ops Q (o :: rest) a W := by
 subst hm
 obtain ⟨w1, hr, h1, h2⟩ := R_clear_run (P := P) (c2 := c2) d base t o.type e z zx ht hz hzs hs0 hzM HO hk hA
 refine wpList_plain hgd fun K hK => ?_
 unfold Oper.wp execOp
 simp only [ho, resolve, invoke, builtin, Sem.run_bind, Sem.run_pure, Result.andThen_ok, List.map_toArray, List.map_cons, List.map_nil, hs, hr]
 exact hK _ _ (h w1 h1 (HB.grown h2 hbase (fun k hk => R_base HO _ hk)) h2)
end
end Kd
end Go.Proofs.YtaoicdkjjjlmeaaW.PrintWords
namespace Go.Proofs.YtaoicdkjjjlmeaaW.PrintWords
theorem bl_total : ∀ (a b : List UInt8), (!(Op.bytesLess a b || a == b)) = Op.bytesLess b a
 | [], [] => by simp [Op.bytesLess]
 | [], _ :: _ => by simp [Op.bytesLess]
 | _ :: _, [] => by simp [Op.bytesLess]
 | a :: al, b :: bl => by
  have ih := bl_total al bl
  simp only [Op.bytesLess]
  by_cases h1 : a < b
  ·have h2 : ¬ b < a := fun h => by
    rw [UInt8.lt_iff_toNat_lt] at h h1
    omega
   have h3 : ¬ b = a := fun h => by subst h; exact h2 h1
   simp [h1, h2, h3]
  ·by_cases h2 : b < a
   ·have h3 : ¬ a = b := fun h => by subst h; exact h1 h2
    simp [h1, h2, h3]
   ·have h3 : a = b := by
     have h4 : ¬ a.toNat < b.toNat := fun h => h1 (UInt8.lt_iff_toNat_lt.2 h)
     have h5 : ¬ b.toNat < a.toNat := fun h => h2 (UInt8.lt_iff_toNat_lt.2 h)
     exact UInt8.toNat_inj.1 (by omega)
    subst h3
    simp only [h1, decide_false, beq_self_eq_true, Bool.false_or, Bool.true_and] at ih ⊢
    rw [← ih]
    simp
theorem str_geq (t : TypeId) (a b : ByteArray) : binOp .geq t (.string a) (.string b) = pure (.bool !(Op.bytesLess a.toList b.toList)) := by simp [binOp, Op.stringOp]
theorem str_gtr (t : TypeId) (a b : ByteArray) : binOp .gtr t (.string a) (.string b) = pure (.bool (Op.bytesLess b.toList a.toList)) := by
 rw [← bl_total a.toList b.toList]
 simp [binOp, Op.stringOp]
theorem str_leq (t : TypeId) (a b : ByteArray) : binOp .leq t (.string a) (.string b) = pure (.bool !(Op.bytesLess b.toList a.toList)) := by
 rw [← bl_total a.toList b.toList]
 simp [binOp, Op.stringOp]
end Go.Proofs.YtaoicdkjjjlmeaaW.PrintWords
namespace Go.Proofs.Ytaoicdkjjjlmeaa.PD34
open Go.RowKit Go.Proofs.YtaoicdkjjjlmeaaW.PrintWords Go.Proofs.YtaoicdkjjjlmeaaW.PrintLast Go.Proofs.YtaoicdkjjjlmeaaW.PrintMore
attribute [local go_sem] max2_int min2_int max_two min_two max_three min_three max_four min_four   -- for this text's walks alone
def errW : Option Int → Value
 | none => .nilIface
 | some c => .iface 0 (.int .i64 c)
theorem errW_none : errW none = .nilIface := rfl
theorem errW_some (c : Int) : errW (some c) = .iface 0 (.int .i64 c) := rfl
theorem info3 : (Try.prog.info? 3).map (fun i => (i.zero,i.size,i.bytes)) = some (some (.int .i64 0),1,8) := by kernel_rfl
theorem info26 : (Try.prog.info? 26).map (fun i => (i.zero,i.size,i.bytes)) = some (some (.agg #[(.string ⟨#[]⟩),(.int .i64 0),(.int .i64 0),(.int .i64 0),(.int .i64 0),(.int .i64 0)]),6,56) := by kernel_rfl
theorem info49 : (Try.prog.info? 49).map (fun i => (i.zero,i.size,i.bytes)) = some (some (.agg #[(.int .i64 0),(.int .i64 0),(.int .i64 0)]),3,24) := by kernel_rfl
-- the values' own types
structure S24 where
 f0 : Int
 f1 : Int
def z24 : S24 := ⟨(0 : Int),(0 : Int)⟩
def k24 : Kd S24 := Kd.iso (Kd.pair (Kd.int .i64) (Kd.int .i64)) (fun x : S24 => (x.f0,x.f1))
theorem k24_open {w : World} {x : S24} {cs : List Value} (h : k24.K w x cs) : cs = [.int .i64 x.f0,.int .i64 x.f1] := by
 obtain ⟨_,_,rfl,rfl,rfl⟩ := h
 exact rfl
theorem k24_openM {w : World} {base : Nat} {ok : Nat → Prop} {x : S24} {cs : List Value} (h : k24.M w base ok x cs) : cs = [.int .i64 x.f0,.int .i64 x.f1] := by
 obtain ⟨_,_,rfl,rfl,rfl⟩ := h
 exact rfl
theorem k24_mk (w : World) (x : S24)  : k24.K w x [.int .i64 x.f0,.int .i64 x.f1] := ⟨[.int .i64 x.f0],[.int .i64 x.f1],rfl,rfl,rfl⟩
theorem k24_mkM (w : World) (base : Nat) (ok : Nat → Prop) (x : S24)  : k24.M w base ok x [.int .i64 x.f0,.int .i64 x.f1] := ⟨[.int .i64 x.f0],[.int .i64 x.f1],rfl,rfl,rfl⟩
def rd_T24 (xs : List S24) (i : Int) : S24 := xs.getD i.toNat z24
theorem at_T24 {w : World} {A : Option Addr} {n : Nat} {xs : List S24} (h : Kd.C k24 w A n xs) (i : Int) (h0 : 0 ≤ i) (h1 : i < n) : ∃ ad ,A = some ad ∧ w.cell? (ad.add (i.toNat * 2)) = some (.int .i64 (rd_T24 xs i).f0) ∧ w.cell? ⟨(ad.add (i.toNat * 2)).block,(ad.add (i.toNat * 2)).off + 1,none⟩ = some (.int .i64 (rd_T24 xs i).f1) := by
 obtain ⟨ad,c,e,_,hK,hc0⟩ := Kd.C_get h z24 i h0 h1
 have hc : ∀ j u,c[j]? = some u → w.cell? (ad.add (i.toNat * 2 + j)) = some u := hc0
 obtain rfl := k24_open hK
 exact ⟨ad,e,hc 0 _ rfl,by rw [← add_field _ _ 1 (by omega)];exact hc 1 _ rfl⟩
structure S26 where
 f0 : ByteArray
 f1 : Int
 f2 : Int
 f3 : S24
 f4 : Int
def z26 : S26 := ⟨(⟨#[]⟩ : ByteArray),(0 : Int),(0 : Int),z24,(0 : Int)⟩
def k26 : Kd S26 := Kd.iso (Kd.pair Kd.string (Kd.pair (Kd.int .i64) (Kd.pair (Kd.int .i64) (Kd.pair k24 (Kd.int .i64))))) (fun x : S26 => (x.f0,x.f1,x.f2,x.f3,x.f4))
theorem k26_open {w : World} {x : S26} {cs : List Value} (h : k26.K w x cs) : cs = [.string x.f0,.int .i64 x.f1,.int .i64 x.f2,.int .i64 x.f3.f0,.int .i64 x.f3.f1,.int .i64 x.f4] := by
 obtain ⟨_,_,rfl,rfl,⟨_,_,rfl,rfl,⟨_,_,rfl,rfl,⟨_,_,rfl,s3,rfl⟩⟩⟩⟩ := h
 obtain rfl := k24_open s3
 exact rfl
theorem k26_openM {w : World} {base : Nat} {ok : Nat → Prop} {x : S26} {cs : List Value} (h : k26.M w base ok x cs) : cs = [.string x.f0,.int .i64 x.f1,.int .i64 x.f2,.int .i64 x.f3.f0,.int .i64 x.f3.f1,.int .i64 x.f4] := by
 obtain ⟨_,_,rfl,rfl,⟨_,_,rfl,rfl,⟨_,_,rfl,rfl,⟨_,_,rfl,s3,rfl⟩⟩⟩⟩ := h
 obtain rfl := k24_openM s3
 exact rfl
theorem k26_mk (w : World) (x : S26)  : k26.K w x [.string x.f0,.int .i64 x.f1,.int .i64 x.f2,.int .i64 x.f3.f0,.int .i64 x.f3.f1,.int .i64 x.f4] := ⟨[.string x.f0],[.int .i64 x.f1,.int .i64 x.f2,.int .i64 x.f3.f0,.int .i64 x.f3.f1,.int .i64 x.f4],rfl,rfl,⟨[.int .i64 x.f1],[.int .i64 x.f2,.int .i64 x.f3.f0,.int .i64 x.f3.f1,.int .i64 x.f4],rfl,rfl,⟨[.int .i64 x.f2],[.int .i64 x.f3.f0,.int .i64 x.f3.f1,.int .i64 x.f4],rfl,rfl,⟨[.int .i64 x.f3.f0,.int .i64 x.f3.f1],[.int .i64 x.f4],rfl,(k24_mk w x.f3 ),rfl⟩⟩⟩⟩
theorem k26_mkM (w : World) (base : Nat) (ok : Nat → Prop) (x : S26)  : k26.M w base ok x [.string x.f0,.int .i64 x.f1,.int .i64 x.f2,.int .i64 x.f3.f0,.int .i64 x.f3.f1,.int .i64 x.f4] := ⟨[.string x.f0],[.int .i64 x.f1,.int .i64 x.f2,.int .i64 x.f3.f0,.int .i64 x.f3.f1,.int .i64 x.f4],rfl,rfl,⟨[.int .i64 x.f1],[.int .i64 x.f2,.int .i64 x.f3.f0,.int .i64 x.f3.f1,.int .i64 x.f4],rfl,rfl,⟨[.int .i64 x.f2],[.int .i64 x.f3.f0,.int .i64 x.f3.f1,.int .i64 x.f4],rfl,rfl,⟨[.int .i64 x.f3.f0,.int .i64 x.f3.f1],[.int .i64 x.f4],rfl,(k24_mkM w base ok x.f3 ),rfl⟩⟩⟩⟩
def rd_T26 (xs : List S26) (i : Int) : S26 := xs.getD i.toNat z26
theorem at_T26 {w : World} {A : Option Addr} {n : Nat} {xs : List S26} (h : Kd.C k26 w A n xs) (i : Int) (h0 : 0 ≤ i) (h1 : i < n) : ∃ ad ,A = some ad ∧ w.cell? (ad.add (i.toNat * 6)) = some (.string (rd_T26 xs i).f0) ∧ w.cell? ⟨(ad.add (i.toNat * 6)).block,(ad.add (i.toNat * 6)).off + 1,none⟩ = some (.int .i64 (rd_T26 xs i).f1) ∧ w.cell? ⟨(ad.add (i.toNat * 6)).block,(ad.add (i.toNat * 6)).off + 2,none⟩ = some (.int .i64 (rd_T26 xs i).f2) ∧ w.cell? ⟨(ad.add (i.toNat * 6)).block,(ad.add (i.toNat * 6)).off + 3,none⟩ = some (.int .i64 (rd_T26 xs i).f3.f0) ∧ w.cell? ⟨(ad.add (i.toNat * 6)).block,(ad.add (i.toNat * 6)).off + 4,none⟩ = some (.int .i64 (rd_T26 xs i).f3.f1) ∧ w.cell? ⟨(ad.add (i.toNat * 6)).block,(ad.add (i.toNat * 6)).off + 5,none⟩ = some (.int .i64 (rd_T26 xs i).f4) := by
 obtain ⟨ad,c,e,_,hK,hc0⟩ := Kd.C_get h z26 i h0 h1
 have hc : ∀ j u,c[j]? = some u → w.cell? (ad.add (i.toNat * 6 + j)) = some u := hc0
 obtain rfl := k26_open hK
 exact ⟨ad,e,hc 0 _ rfl,by rw [← add_field _ _ 1 (by omega)];exact hc 1 _ rfl,by rw [← add_field _ _ 2 (by omega)];exact hc 2 _ rfl,by rw [← add_field _ _ 3 (by omega)];exact hc 3 _ rfl,by rw [← add_field _ _ 4 (by omega)];exact hc 4 _ rfl,by rw [← add_field _ _ 5 (by omega)];exact hc 5 _ rfl⟩
def rd_L4 (xs : List (List Int)) (i : Int) : (List Int) := xs.getD i.toNat ([] : List Int)
theorem at_L4 {w : World} {A : Option Addr} {n : Nat} {xs : List (List Int)} (h : Kd.C (Kd.slice 3 (Kd.int .i64)) w A n xs) (i : Int) (h0 : 0 ≤ i) (h1 : i < n) : ∃ ad A0 c0,A = some ad ∧ w.cell? (ad.add i.toNat) = some (.slice A0 (rd_L4 xs i).length c0) ∧ (rd_L4 xs i).length ≤ c0 ∧ (Kd.int .i64).C w A0 (rd_L4 xs i).length (rd_L4 xs i) := by
 obtain ⟨ad,c,e,_,hK,hc0⟩ := Kd.C_get h ([] : List Int) i h0 h1
 have hc : ∀ j u,c[j]? = some u → w.cell? (ad.add (i.toNat * 1 + j)) = some u := hc0
 obtain ⟨A0,c0,rfl,l0,g0⟩ := hK
 exact ⟨ad,A0,c0,e,by have hq := hc 0 _ rfl;rwa [Nat.mul_one,Nat.add_zero] at hq,l0,g0⟩
structure S49 where
 f0 : Int
 f1 : Int
 f2 : Int
def z49 : S49 := ⟨(0 : Int),(0 : Int),(0 : Int)⟩
def k49 : Kd S49 := Kd.iso (Kd.pair (Kd.int .i64) (Kd.pair (Kd.int .i64) (Kd.int .i64))) (fun x : S49 => (x.f0,x.f1,x.f2))
theorem k49_open {w : World} {x : S49} {cs : List Value} (h : k49.K w x cs) : cs = [.int .i64 x.f0,.int .i64 x.f1,.int .i64 x.f2] := by
 obtain ⟨_,_,rfl,rfl,⟨_,_,rfl,rfl,rfl⟩⟩ := h
 exact rfl
theorem k49_openM {w : World} {base : Nat} {ok : Nat → Prop} {x : S49} {cs : List Value} (h : k49.M w base ok x cs) : cs = [.int .i64 x.f0,.int .i64 x.f1,.int .i64 x.f2] := by
 obtain ⟨_,_,rfl,rfl,⟨_,_,rfl,rfl,rfl⟩⟩ := h
 exact rfl
theorem k49_mk (w : World) (x : S49)  : k49.K w x [.int .i64 x.f0,.int .i64 x.f1,.int .i64 x.f2] := ⟨[.int .i64 x.f0],[.int .i64 x.f1,.int .i64 x.f2],rfl,rfl,⟨[.int .i64 x.f1],[.int .i64 x.f2],rfl,rfl,rfl⟩⟩
theorem k49_mkM (w : World) (base : Nat) (ok : Nat → Prop) (x : S49)  : k49.M w base ok x [.int .i64 x.f0,.int .i64 x.f1,.int .i64 x.f2] := ⟨[.int .i64 x.f0],[.int .i64 x.f1,.int .i64 x.f2],rfl,rfl,⟨[.int .i64 x.f1],[.int .i64 x.f2],rfl,rfl,rfl⟩⟩
def rd_T49 (xs : List S49) (i : Int) : S49 := xs.getD i.toNat z49
theorem at_T49 {w : World} {A : Option Addr} {n : Nat} {xs : List S49} (h : Kd.C k49 w A n xs) (i : Int) (h0 : 0 ≤ i) (h1 : i < n) : ∃ ad ,A = some ad ∧ w.cell? (ad.add (i.toNat * 3)) = some (.int .i64 (rd_T49 xs i).f0) ∧ w.cell? ⟨(ad.add (i.toNat * 3)).block,(ad.add (i.toNat * 3)).off + 1,none⟩ = some (.int .i64 (rd_T49 xs i).f1) ∧ w.cell? ⟨(ad.add (i.toNat * 3)).block,(ad.add (i.toNat * 3)).off + 2,none⟩ = some (.int .i64 (rd_T49 xs i).f2) := by
 obtain ⟨ad,c,e,_,hK,hc0⟩ := Kd.C_get h z49 i h0 h1
 have hc : ∀ j u,c[j]? = some u → w.cell? (ad.add (i.toNat * 3 + j)) = some u := hc0
 obtain rfl := k49_open hK
 exact ⟨ad,e,hc 0 _ rfl,by rw [← add_field _ _ 1 (by omega)];exact hc 1 _ rfl,by rw [← add_field _ _ 2 (by omega)];exact hc 2 _ rfl⟩
def rd_L6 (xs : List (List S26)) (i : Int) : (List S26) := xs.getD i.toNat ([] : List S26)
theorem at_L6 {w : World} {A : Option Addr} {n : Nat} {xs : List (List S26)} (h : Kd.C (Kd.slice 26 k26) w A n xs) (i : Int) (h0 : 0 ≤ i) (h1 : i < n) : ∃ ad A0 c0,A = some ad ∧ w.cell? (ad.add i.toNat) = some (.slice A0 (rd_L6 xs i).length c0) ∧ (rd_L6 xs i).length ≤ c0 ∧ k26.C w A0 (rd_L6 xs i).length (rd_L6 xs i) := by
 obtain ⟨ad,c,e,_,hK,hc0⟩ := Kd.C_get h ([] : List S26) i h0 h1
 have hc : ∀ j u,c[j]? = some u → w.cell? (ad.add (i.toNat * 1 + j)) = some u := hc0
 obtain ⟨A0,c0,rfl,l0,g0⟩ := hK
 exact ⟨ad,A0,c0,e,by have hq := hc 0 _ rfl;rwa [Nat.mul_one,Nat.add_zero] at hq,l0,g0⟩
end Go.Proofs.Ytaoicdkjjjlmeaa.PD34
namespace Go.Proofs.Ytaoicdkjjjlmeaa.PD34
open Go.RowKit Go.Proofs.YtaoicdkjjjlmeaaW.PrintWords Go.Proofs.YtaoicdkjjjlmeaaW.PrintLast Go.Proofs.YtaoicdkjjjlmeaaW.PrintMore
attribute [local go_sem] max2_int min2_int max_two min_two max_three min_three max_four min_four
theorem eqA24 (d : Nat) (w : World) (x0 y0 : Int) (x1 y1 : Int) :
  (Op.equalIn (d + 2) 24 (.agg #[.int .i64 x0,.int .i64 x1]) (.agg #[.int .i64 y0,.int .i64 y1])).run Try.prog w = .ok (x0 == y0 && (x1 == y1)) w := by
 refine eqA_of Try.underlying24 (by kernel_rfl) ?_
 refine eqf_cons (by rfl) (by go_simp;rfl) (by go_simp;rfl) (by go_simp) ?_
 exact eqf_last (by rfl) (by go_simp;rfl) (by go_simp;rfl) (by go_simp)
end Go.Proofs.Ytaoicdkjjjlmeaa.PD34
namespace Go.Proofs.Ytaoicdkjjjlmeaa.PD34
open Go.RowKit Go.Proofs.YtaoicdkjjjlmeaaW.PrintWords Go.Proofs.YtaoicdkjjjlmeaaW.PrintLast Go.Proofs.YtaoicdkjjjlmeaaW.PrintMore
attribute [local go_sem] max2_int min2_int max_two min_two max_three min_three max_four min_four   -- for this text's walks alone
-- NOT PRINTED: function 39 (api_Hold_39)
-- NOT PRINTED: function 30 (api_Hold_30)
mutual
def override_name.j0 : Nat → ByteArray → Bool → Option (Bool)
 | 0,_,_ => none
 | k + 1,x0,x21 => if x21 = true then (some false) else (override_name.l0 k x0 (x0.size : Int) 0)
def override_name.l0 : Nat → ByteArray → Int → Int → Option (Bool)
 | 0,_,_,_ => none
 | k + 1,x0,x23,x24 => if x24 < x23 then (if 0 ≤ x24 then (if x24 < (x0.size : Int) then (if (bt x0 x24) < 97 then (if (bt x0 x24) < 48 then (override_name.j2 k x0 x23 x24 ((bt x0 x24) != 95)) else (if (bt x0 x24) > 57 then (override_name.j2 k x0 x23 x24 ((bt x0 x24) != 95)) else (override_name.j2 k x0 x23 x24 false))) else (if (bt x0 x24) > 122 then (if (bt x0 x24) < 48 then (override_name.j2 k x0 x23 x24 ((bt x0 x24) != 95)) else (if (bt x0 x24) > 57 then (override_name.j2 k x0 x23 x24 ((bt x0 x24) != 95)) else (override_name.j2 k x0 x23 x24 false))) else (override_name.j2 k x0 x23 x24 false))) else (none)) else (none)) else (some true)
def override_name.j2 : Nat → ByteArray → Int → Int → Bool → Option (Bool)
 | 0,_,_,_,_ => none
 | k + 1,x0,x23,x24,x47 => if x47 = true then (some false) else (override_name.l0 k x0 x23 (wrap64 (x24 + 1)))
end
def override_name.f (k : Nat) (a0 : ByteArray) : Option (Bool) := if a0.toList = ([] : List UInt8) then (override_name.j0 k a0 true) else (if (a0.size : Int) > 24 then (override_name.j0 k a0 true) else (if 0 < (a0.size : Int) then (if (bt a0 0) < 97 then (override_name.j0 k a0 true) else (override_name.j0 k a0 (decide ((bt a0 0) > 122)))) else (none)))
theorem override_name.mono_l : ∀ k,(∀ y0 y1,LeO (override_name.j0 k y0 y1) (override_name.j0 (k + 1) y0 y1)) ∧ (∀ y0 y1 y2,LeO (override_name.l0 k y0 y1 y2) (override_name.l0 (k + 1) y0 y1 y2)) ∧ (∀ y0 y1 y2 y3,LeO (override_name.j2 k y0 y1 y2 y3) (override_name.j2 (k + 1) y0 y1 y2 y3))
 | 0 => ⟨fun _ _ r h => by simp [override_name.j0] at h,fun _ _ _ r h => by simp [override_name.l0] at h,fun _ _ _ _ r h => by simp [override_name.j2] at h⟩
 | k + 1 => by
  obtain ⟨ih0,ih1,ih2⟩ := override_name.mono_l k
  refine ⟨?_,?_,?_⟩
  ·intro y0 y1
   unfold override_name.j0
   repeat' first
   | (with_reducible exact ih0 _ _)
   | (with_reducible exact ih1 _ _ _)
   | (with_reducible exact ih2 _ _ _ _)
   | (with_reducible exact LeO.refl _)
   | (with_reducible exact LeO.none _)
   | (with_reducible refine LeO.ite ?_ ?_)
   | (with_reducible refine LeO.bind ?_ (fun _ => ?_))
   | exact ih0 _ _
   | exact ih1 _ _ _
   | exact ih2 _ _ _ _
   | exact LeO.none _
   | refine LeO.ite ?_ ?_
   | refine LeO.bind ?_ (fun _ => ?_)
  ·intro y0 y1 y2
   unfold override_name.l0
   repeat' first
   | (with_reducible exact ih0 _ _)
   | (with_reducible exact ih1 _ _ _)
   | (with_reducible exact ih2 _ _ _ _)
   | (with_reducible exact LeO.refl _)
   | (with_reducible exact LeO.none _)
   | (with_reducible refine LeO.ite ?_ ?_)
   | (with_reducible refine LeO.bind ?_ (fun _ => ?_))
   | exact ih0 _ _
   | exact ih1 _ _ _
   | exact ih2 _ _ _ _
   | exact LeO.none _
   | refine LeO.ite ?_ ?_
   | refine LeO.bind ?_ (fun _ => ?_)
  ·intro y0 y1 y2 y3
   unfold override_name.j2
   repeat' first
   | (with_reducible exact ih0 _ _)
   | (with_reducible exact ih1 _ _ _)
   | (with_reducible exact ih2 _ _ _ _)
   | (with_reducible exact LeO.refl _)
   | (with_reducible exact LeO.none _)
   | (with_reducible refine LeO.ite ?_ ?_)
   | (with_reducible refine LeO.bind ?_ (fun _ => ?_))
   | exact ih0 _ _
   | exact ih1 _ _ _
   | exact ih2 _ _ _ _
   | exact LeO.none _
   | refine LeO.ite ?_ ?_
   | refine LeO.bind ?_ (fun _ => ?_)
theorem override_name.mono : ∀ a0 k,LeO (override_name.f k a0) (override_name.f (k + 1) a0) := by
 intro a0 k
 obtain ⟨ih0,ih1,ih2⟩ := override_name.mono_l k
 unfold override_name.f
 repeat' first
   | (with_reducible exact ih0 _ _)
   | (with_reducible exact ih1 _ _ _)
   | (with_reducible exact ih2 _ _ _ _)
   | (with_reducible exact LeO.refl _)
   | (with_reducible exact LeO.none _)
   | (with_reducible refine LeO.ite ?_ ?_)
   | (with_reducible refine LeO.bind ?_ (fun _ => ?_))
   | exact ih0 _ _
   | exact ih1 _ _ _
   | exact ih2 _ _ _ _
   | exact LeO.none _
   | refine LeO.ite ?_ ?_
   | refine LeO.bind ?_ (fun _ => ?_)
set_option maxHeartbeats 100000000 in
set_option maxRecDepth 100000 in
theorem override_name.calls (k : Nat) (a0 : ByteArray) (r : Bool) (w : World) (h : override_name.f k a0 = some r) :
  Calls Try.prog 33 #[.string a0] w fun e w' => e = .returned (.bool r) ∧ Drawn0 w w' := by
 have H : (if a0.toList = ([] : List UInt8) then (override_name.j0 k a0 true) else (if (a0.size : Int) > 24 then (override_name.j0 k a0 true) else (if 0 < (a0.size : Int) then (if (bt a0 0) < 97 then (override_name.j0 k a0 true) else (override_name.j0 k a0 (decide ((bt a0 0) > 122)))) else (none)))) = some r := h
 clear h
 have HC2 := Yd H
 clear H
 go_enter Try.func33,Try.ntmps33
 go_upto_region 1 with (fail)
 go_cut [21] (fun v21 wc => ∃ (kq : Nat) (x21_1 : Bool),v21 = .bool x21_1 ∧ Aside0 (override_name.j0 kq a0 x21_1 = some r) ∧ Aside0 (kq ≤ k) ∧ Drawn0 w wc)
 case first =>
  have H := HC2.out
  clear HC2
  by_cases c3 : a0.toList = ([] : List UInt8)
  ·rw [if_pos c3] at H
   have c3b0 : (a0.toList == ([] : List UInt8)) = true := beq_iff_eq.mpr c3
   have c3b1 : (a0.toList != ([] : List UInt8)) = false := bne_eq_false_iff_eq.mpr c3
   clear c3
   (first | rw [c3b0] | (simp only [i64_w,i32_w];rw [c3b0]) | skip)
   have H' := Yd H
   clear H
   go_wp2
   go_meet
   case rel => exact ⟨_,(true),Y12,H',⟨by first | omega | exact Nat.le_refl _⟩,by repeat (first | exact Drawn0.refl _ | apply Drawn0.step)⟩
  ·rw [if_neg c3] at H
   have c3b0 : (a0.toList == ([] : List UInt8)) = false := beq_eq_false_iff_ne.mpr c3
   have c3b1 : (a0.toList != ([] : List UInt8)) = true := bne_iff_ne.mpr c3
   (first | rw [c3b0] | (simp only [i64_w,i32_w];rw [c3b0]) | skip)
   by_cases c4 : (a0.size : Int) > 24
   ·rw [if_pos c4] at H
    have c4b0 : decide (24 < (a0.size : Int)) = true := decide_eq_true c4
    have c4b1 : decide (24 < a0.size) = true := decide_eq_true (by omega)
    clear c4
    have H' := Yd H
    clear H
    go_wp2
    go_meet
    case rel => exact ⟨_,(true),Y12,H',⟨by first | omega | exact Nat.le_refl _⟩,by repeat (first | exact Drawn0.refl _ | apply Drawn0.step)⟩
   ·rw [if_neg c4] at H
    have c4b0 : decide (24 < (a0.size : Int)) = false := decide_eq_false c4
    have c4b1 : decide (24 < a0.size) = false := decide_eq_false (by omega)
    clear c4
    by_cases c5 : 0 < (a0.size : Int)
    case neg => rw [if_neg c5] at H;exact absurd H (by simp)
    rw [if_pos c5] at H
    have c5b0 : decide (0 < (a0.size : Int)) = true := decide_eq_true c5
    have c5b1 : decide (0 < a0.size) = true := decide_eq_true (by omega)
    clear c5
    by_cases c7 : (bt a0 0) < 97
    ·rw [if_pos c7] at H
     have c7b0 : decide ((bt a0 0) < 97) = true := decide_eq_true c7
     clear c7
     have H' := Yd H
     clear H
     have p6 : 0 ≤ (0 : Int) := (by omega)
     have q6 : 0 < a0.size := (by have : (0 : Int) < (a0.size : Int) := Y9;omega)
     have hx6 : ∀ h : 0 < a0.size,((a0[0]'h).toNat : Int) = bt a0 0 := bt_at a0 0
     clear p6
     have qi6 : (0 < (a0.size : Int)) = True := eq_true (Y9)
     replace q6 := eq_true q6
     go_wp2
     go_meet
     case rel => exact ⟨_,(true),Y12,H',⟨by first | omega | exact Nat.le_refl _⟩,by repeat (first | exact Drawn0.refl _ | apply Drawn0.step)⟩
    ·rw [if_neg c7] at H
     have c7b0 : decide ((bt a0 0) < 97) = false := decide_eq_false c7
     clear c7
     have H' := Yd H
     clear H
     have p6 : 0 ≤ (0 : Int) := (by omega)
     have q6 : 0 < a0.size := (by have : (0 : Int) < (a0.size : Int) := Y9;omega)
     have hx6 : ∀ h : 0 < a0.size,((a0[0]'h).toNat : Int) = bt a0 0 := bt_at a0 0
     clear p6
     have qi6 : (0 < (a0.size : Int)) = True := eq_true (Y9)
     replace q6 := eq_true q6
     have p8 : 0 ≤ (0 : Int) := (by omega)
     have q8 : 0 < a0.size := (by have : (0 : Int) < (a0.size : Int) := Y9;omega)
     have hx8 : ∀ h : 0 < a0.size,((a0[0]'h).toNat : Int) = bt a0 0 := bt_at a0 0
     clear p8
     have qi8 : (0 < (a0.size : Int)) = True := eq_true (Y9)
     replace q8 := eq_true q8
     go_wp2
     go_meet
     case rel => exact ⟨_,(decide ((bt a0 0) > 122)),Y12,H',⟨by first | omega | exact Nat.le_refl _⟩,by repeat (first | exact Drawn0.refl _ | apply Drawn0.step)⟩
 case rest =>
  clear HC2
  try clear p2
  try clear c3
  try clear c3b0
  try clear c3b1
  try clear c4
  try clear c4b0
  try clear c4b1
  try clear c5
  try clear c5b0
  try clear c5b1
  try clear p6
  try clear q6
  try clear hx6
  try clear qi6
  try clear c7
  try clear c7b0
  try clear p8
  try clear q8
  try clear hx8
  try clear qi8
  try clear p6
  try clear p8
  try clear q6
  try clear q8
  obtain ⟨kq,x21_1,rfl,HA,HJ1,⟨mc1,rfl⟩⟩ := hcut
  cases kq with
  | zero => exact absurd HA.out (by simp [override_name.j0])
  | succ kj1 =>
   have H := HA.out
   clear HA
   simp only [override_name.j0] at H
   by_cases c9 : x21_1 = true
   ·subst c9
    have H1 : (some false) = some r := by rw [if_pos rfl] at H;exact H
    clear H
    have H := H1
    clear H1
    obtain rfl := Option.some.inj H
    go_wp2
    go_ret
    exact ⟨by first | rfl | (simp;done) | (simp [*];done),by repeat (first | exact Drawn0.refl _ | apply Drawn0.step)⟩
   ·replace c9 := Bool.eq_false_iff.mpr c9
    subst c9
    have H1 : (override_name.l0 kj1 a0 (a0.size : Int) 0) = some r := by rw [if_neg (show ¬ (false = true) by decide)] at H;exact H
    clear H
    have H := H1
    clear H1
    have H' := Yd H
    clear H
    go_wp2
    go_loopg [24] kj1 (fun kq v24 w' => ∃ (x24_2 : Int),v24 = .int .i64 x24_2 ∧ Aside0 (override_name.l0 kq a0 (a0.size : Int) x24_2 = some r) ∧ Aside0 (kq ≤ kj1) ∧ Drawn0 w w')
    case atStart => exact ⟨(0),Y12,H',⟨Nat.le_refl _⟩,by repeat (first | exact Drawn0.refl _ | apply Drawn0.step)⟩
    case round =>
     clear H'
     try clear c1
     try clear p2
     try clear c3
     try clear c3b0
     try clear c3b1
     try clear c4
     try clear c4b0
     try clear c4b1
     try clear c5
     try clear c5b0
     try clear c5b1
     try clear p6
     try clear q6
     try clear hx6
     try clear qi6
     try clear c7
     try clear c7b0
     try clear p8
     try clear q8
     try clear hx8
     try clear qi8
     try clear c9
     try clear p2
     try clear p6
     try clear p8
     try clear q6
     try clear q8
     obtain ⟨x24_2,rfl,HA,HK2,⟨m2,rfl⟩⟩ := hrel
     cases gk with
     | zero => exact absurd HA.out (by simp [override_name.l0])
     | succ k2 =>
      have H := HA.out
      clear HA
      simp only [override_name.l0] at H
      by_cases c10 : x24_2 < (a0.size : Int)
      ·rw [if_pos c10] at H
       have c10b0 : decide (x24_2 < (a0.size : Int)) = true := decide_eq_true c10
       clear c10
       by_cases c11 : 0 ≤ x24_2
       case neg => rw [if_neg c11] at H;exact absurd H (by simp)
       rw [if_pos c11] at H
       have c11b0 : decide (0 ≤ x24_2) = true := decide_eq_true c11
       clear c11
       by_cases c12 : x24_2 < (a0.size : Int)
       case neg => rw [if_neg c12] at H;exact absurd H (by simp)
       rw [if_pos c12] at H
       have c12b0 : decide (x24_2 < (a0.size : Int)) = true := decide_eq_true c12
       clear c12
       have HC14 := Yd H
       clear H
       have p13 : 0 ≤ (x24_2 : Int) := Y9
       have q13 : x24_2 < (a0.size : Int) := Y9
       have hx13 := bt_at a0 x24_2
       replace p13 := eq_true p13
       replace q13 := eq_true q13
       go_upto_region 7 with (fail)
       go_cut [47] (fun v47 wc => ∃ (kq : Nat) (x47_13 : Bool),v47 = .bool x47_13 ∧ Aside0 (override_name.j2 kq a0 (a0.size : Int) x24_2 x47_13 = some r) ∧ Aside0 (kq ≤ k2) ∧ Drawn0 w wc)
       case first =>
        have H := HC14.out
        clear HC14
        by_cases c15 : (bt a0 x24_2) < 97
        ·rw [if_pos c15] at H
         have c15b0 : decide ((bt a0 x24_2) < 97) = true := decide_eq_true c15
         clear c15
         (first | rw [c15b0] | (simp only [i64_w,i32_w];rw [c15b0]) | skip)
         by_cases c16 : (bt a0 x24_2) < 48
         ·rw [if_pos c16] at H
          have c16b0 : decide ((bt a0 x24_2) < 48) = true := decide_eq_true c16
          clear c16
          have H' := Yd H
          clear H
          go_wp2
          go_meet
          case rel => exact ⟨_,(((bt a0 x24_2) != 95)),Y12,H',⟨by have := HJ1.out;have := HK2.out;first | omega | exact Nat.le_refl _⟩,by repeat (first | exact Drawn0.refl _ | apply Drawn0.step)⟩
         ·rw [if_neg c16] at H
          have c16b0 : decide ((bt a0 x24_2) < 48) = false := decide_eq_false c16
          clear c16
          by_cases c17 : (bt a0 x24_2) > 57
          ·rw [if_pos c17] at H
           have c17b0 : decide (57 < (bt a0 x24_2)) = true := decide_eq_true c17
           clear c17
           have H' := Yd H
           clear H
           go_wp2
           go_meet
           case rel => exact ⟨_,(((bt a0 x24_2) != 95)),Y12,H',⟨by have := HJ1.out;have := HK2.out;first | omega | exact Nat.le_refl _⟩,by repeat (first | exact Drawn0.refl _ | apply Drawn0.step)⟩
          ·rw [if_neg c17] at H
           have c17b0 : decide (57 < (bt a0 x24_2)) = false := decide_eq_false c17
           clear c17
           have H' := Yd H
           clear H
           go_wp2
           go_meet
           case rel => exact ⟨_,(false),Y12,H',⟨by have := HJ1.out;have := HK2.out;first | omega | exact Nat.le_refl _⟩,by repeat (first | exact Drawn0.refl _ | apply Drawn0.step)⟩
        ·rw [if_neg c15] at H
         have c15b0 : decide ((bt a0 x24_2) < 97) = false := decide_eq_false c15
         clear c15
         (first | rw [c15b0] | (simp only [i64_w,i32_w];rw [c15b0]) | skip)
         by_cases c18 : (bt a0 x24_2) > 122
         ·rw [if_pos c18] at H
          have c18b0 : decide (122 < (bt a0 x24_2)) = true := decide_eq_true c18
          clear c18
          by_cases c19 : (bt a0 x24_2) < 48
          ·rw [if_pos c19] at H
           have c19b0 : decide ((bt a0 x24_2) < 48) = true := decide_eq_true c19
           clear c19
           have H' := Yd H
           clear H
           go_wp2
           go_meet
           case rel => exact ⟨_,(((bt a0 x24_2) != 95)),Y12,H',⟨by have := HJ1.out;have := HK2.out;first | omega | exact Nat.le_refl _⟩,by repeat (first | exact Drawn0.refl _ | apply Drawn0.step)⟩
          ·rw [if_neg c19] at H
           have c19b0 : decide ((bt a0 x24_2) < 48) = false := decide_eq_false c19
           clear c19
           by_cases c20 : (bt a0 x24_2) > 57
           ·rw [if_pos c20] at H
            have c20b0 : decide (57 < (bt a0 x24_2)) = true := decide_eq_true c20
            clear c20
            have H' := Yd H
            clear H
            go_wp2
            go_meet
            case rel => exact ⟨_,(((bt a0 x24_2) != 95)),Y12,H',⟨by have := HJ1.out;have := HK2.out;first | omega | exact Nat.le_refl _⟩,by repeat (first | exact Drawn0.refl _ | apply Drawn0.step)⟩
           ·rw [if_neg c20] at H
            have c20b0 : decide (57 < (bt a0 x24_2)) = false := decide_eq_false c20
            clear c20
            have H' := Yd H
            clear H
            go_wp2
            go_meet
            case rel => exact ⟨_,(false),Y12,H',⟨by have := HJ1.out;have := HK2.out;first | omega | exact Nat.le_refl _⟩,by repeat (first | exact Drawn0.refl _ | apply Drawn0.step)⟩
         ·rw [if_neg c18] at H
          have c18b0 : decide (122 < (bt a0 x24_2)) = false := decide_eq_false c18
          clear c18
          have H' := Yd H
          clear H
          go_wp2
          go_meet
          case rel => exact ⟨_,(false),Y12,H',⟨by have := HJ1.out;have := HK2.out;first | omega | exact Nat.le_refl _⟩,by repeat (first | exact Drawn0.refl _ | apply Drawn0.step)⟩
       case rest =>
        clear HC14
        try clear c1
        try clear p1
        try clear q1
        try clear hx1
        try clear c2
        try clear p2
        try clear c3
        try clear c3b0
        try clear c3b1
        try clear c4
        try clear c4b0
        try clear c4b1
        try clear c5
        try clear c5b0
        try clear c5b1
        try clear p6
        try clear q6
        try clear hx6
        try clear qi6
        try clear c7
        try clear c7b0
        try clear p8
        try clear q8
        try clear hx8
        try clear qi8
        try clear c9
        try clear c10
        try clear c10b0
        try clear c11
        try clear c11b0
        try clear c12
        try clear c12b0
        try clear p13
        try clear q13
        try clear hx13
        try clear c15
        try clear c15b0
        try clear c16
        try clear c16b0
        try clear c17
        try clear c17b0
        try clear c18
        try clear c18b0
        try clear c19
        try clear c19b0
        try clear c20
        try clear c20b0
        try clear p13
        try clear p2
        try clear p6
        try clear p8
        try clear q13
        try clear q6
        try clear q8
        obtain ⟨kq,x47_13,rfl,HA,HJ13,⟨mc13,rfl⟩⟩ := hcut
        cases kq with
        | zero => exact absurd HA.out (by simp [override_name.j2])
        | succ kj13 =>
         have H := HA.out
         clear HA
         simp only [override_name.j2] at H
         by_cases c21 : x47_13 = true
         ·subst c21
          have H1 : (some false) = some r := by rw [if_pos rfl] at H;exact H
          clear H
          have H := H1
          clear H1
          obtain rfl := Option.some.inj H
          go_wp2
          go_ret
          exact ⟨by first | rfl | (simp;done) | (simp [*];done),by repeat (first | exact Drawn0.refl _ | apply Drawn0.step)⟩
         ·replace c21 := Bool.eq_false_iff.mpr c21
          subst c21
          have H1 : (override_name.l0 kj13 a0 (a0.size : Int) (wrap64 (x24_2 + 1))) = some r := by rw [if_neg (show ¬ (false = true) by decide)] at H;exact H
          clear H
          have H := H1
          clear H1
          have H' := Yd H
          clear H
          go_wp2
          go_roundg kj13
          case measure => have := HJ1.out;have := HK2.out;have := HJ13.out;omega
          case rel => exact ⟨(wrap64 (x24_2 + 1)),Y12,H',⟨by have := HJ1.out;have := HK2.out;have := HJ13.out;omega⟩,by repeat (first | exact Drawn0.refl _ | apply Drawn0.step)⟩
      ·rw [if_neg c10] at H
       have c10b0 : decide (x24_2 < (a0.size : Int)) = false := decide_eq_false c10
       clear c10
       obtain rfl := Option.some.inj H
       go_wp2
       go_ret
       exact ⟨by first | rfl | (simp;done) | (simp [*];done),by repeat (first | exact Drawn0.refl _ | apply Drawn0.step)⟩
def override_Check_2.f (k : Nat) (a0_0 : ByteArray) (a0_1 : Int) (a0_2 : Int) (a0_3 : Int) (a0_4 : Int) (a0_5 : Int) : Option (Bool) := (override_name.f k a0_0).bind fun t102 => (some t102)
theorem override_Check_2.mono : ∀ a0 a1 a2 a3 a4 a5 k,LeO (override_Check_2.f k a0 a1 a2 a3 a4 a5) (override_Check_2.f (k + 1) a0 a1 a2 a3 a4 a5) := by
 intro a0 a1 a2 a3 a4 a5 k
 unfold override_Check_2.f
 repeat' first
   | (with_reducible exact override_name.mono _ _)
   | (with_reducible exact LeO.refl _)
   | (with_reducible exact LeO.none _)
   | (with_reducible refine LeO.ite ?_ ?_)
   | (with_reducible refine LeO.bind ?_ (fun _ => ?_))
   | exact override_name.mono _ _
   | exact LeO.none _
   | refine LeO.ite ?_ ?_
   | refine LeO.bind ?_ (fun _ => ?_)
set_option maxHeartbeats 100000000 in
set_option maxRecDepth 100000 in
theorem override_Check_2.calls (k : Nat) (a0_0 : ByteArray) (a0_1 : Int) (a0_2 : Int) (a0_3 : Int) (a0_4 : Int) (a0_5 : Int) (r : Bool) (w : World) (h : override_Check_2.f k a0_0 a0_1 a0_2 a0_3 a0_4 a0_5 = some r) :
  Calls Try.prog 32 #[.agg #[.string a0_0,.int .i64 a0_1,.int .i64 a0_2,.int .i64 a0_3,.int .i64 a0_4,.int .i64 a0_5]] w fun e w' => e = .returned (.bool r) ∧ Below w.heap.size w w' := by
 have hu26 := Try.underlying26
 have HB := Yd (Below.refl w.heap.size w)
 have H : ((override_name.f k a0_0).bind fun t102 => (some t102)) = some r := h
 clear h
 replace H := Option.bind_eq_some_iff.mp H
 obtain ⟨t102,A20,H⟩ := H
 replace H : (some t102) = some r := H
 have A2 := Yd A20
 clear A20
 obtain rfl := Option.some.inj H
 go_enter Try.func32,Try.ntmps32
 go_wp2_with (first | ((with_reducible refine gate_dst (N := 1) rfl ?_);refine box_event ?hg (N := 1) ?hd (cs := #[.string a0_0,.int .i64 a0_1,.int .i64 a0_2,.int .i64 a0_3,.int .i64 a0_4,.int .i64 a0_5]) (t := 26) ?hr ?_;(case hd => rfl);(case hg => rfl);(case hr => first | (go_simp;done) | (go_simp;rfl));intro gb101 hg w3 hbox hb;have n0_ := Yd (below_step (Y3 HB.out) hb);have n1_ := Yd (hbox);have n2_ := Yd ((by rw [hg];exact (below_size (Y3 HB.out)) : w.heap.size ≤ gb101));have n3_ := Yd ((by rw [hg];exact (below_size (Y3 HB.out)) : w.heap.size ≤ gb101));clear HB;have HB := n0_;have BK101 := n1_;have GW101 := n2_;have GE101 := n3_;clear n0_ n1_ n2_ n3_;clear hb hbox hg;have hcz4_0 : w3.cell? ⟨gb101,0,none⟩ = some (.string a0_0) := (blk_cell BK101.out 0).trans rfl;have hcz4_1 : w3.cell? ⟨gb101,1,none⟩ = some (.int .i64 a0_1) := (blk_cell BK101.out 1).trans rfl;have hcz4_2 : w3.cell? ⟨gb101,2,none⟩ = some (.int .i64 a0_2) := (blk_cell BK101.out 2).trans rfl;have hcz4_3 : w3.cell? ⟨gb101,3,none⟩ = some (.int .i64 a0_3) := (blk_cell BK101.out 3).trans rfl;have hcz4_4 : w3.cell? ⟨gb101,4,none⟩ = some (.int .i64 a0_4) := (blk_cell BK101.out 4).trans rfl;have hcz4_5 : w3.cell? ⟨gb101,5,none⟩ = some (.int .i64 a0_5) := (blk_cell BK101.out 5).trans rfl;have hfz4_0 := blk_frozen BK101.out 0;have hfz4_1 := blk_frozen BK101.out 1;have hfz4_2 := blk_frozen BK101.out 2;have hfz4_3 := blk_frozen BK101.out 3;have hfz4_4 := blk_frozen BK101.out 4;have hfz4_5 := blk_frozen BK101.out 5) | ((with_reducible refine gate_callee (f := 33) rfl ?_);refine goesL_ (some 5) rfl rfl Try.func33 (by kernel_rfl) rfl #[.string a0_0] rfl Y8 ?_;(with_reducible refine (override_name.calls k a0_0 t102 _ A2.out).mono ?_);rintro e w' ⟨rfl,⟨nd,rfl⟩⟩;refine ⟨_,rfl,?_⟩))
 go_ret
 exact ⟨by first | rfl | (simp [errW_none,errW_some] <;> rfl) | (simp [*,errW_none,errW_some] <;> rfl),by repeat (first | (with_reducible first | exact HB.out | apply below_alloc | apply Y15 | apply below_drew1 | refine below_set ?_ GE101.out) | exact HB.out)⟩
def override_Check_3.f (a0_0 : ByteArray) (a0_1 : Int) (a0_2 : Int) (a0_3 : Int) (a0_4 : Int) (a0_5 : Int) : Option (Bool) := if a0_1 ≥ 0 then (if a0_1 < a0_2 then (if a0_2 ≤ 6311433600 then (if a0_5 ≥ 0 then (some (decide (a0_5 ≤ 1000000000))) else (some false)) else (some false)) else (some false)) else (some false)
set_option maxHeartbeats 100000000 in
set_option maxRecDepth 100000 in
theorem override_Check_3.calls (a0_0 : ByteArray) (a0_1 : Int) (a0_2 : Int) (a0_3 : Int) (a0_4 : Int) (a0_5 : Int) (r : Bool) (w : World) (h : override_Check_3.f a0_0 a0_1 a0_2 a0_3 a0_4 a0_5 = some r) :
  Calls Try.prog 34 #[.agg #[.string a0_0,.int .i64 a0_1,.int .i64 a0_2,.int .i64 a0_3,.int .i64 a0_4,.int .i64 a0_5]] w fun e w' => e = .returned (.bool r) ∧ Below w.heap.size w w' := by
 have hu26 := Try.underlying26
 have HB := Yd (Below.refl w.heap.size w)
 have H : (if a0_1 ≥ 0 then (if a0_1 < a0_2 then (if a0_2 ≤ 6311433600 then (if a0_5 ≥ 0 then (some (decide (a0_5 ≤ 1000000000))) else (some false)) else (some false)) else (some false)) else (some false)) = some r := h
 clear h
 by_cases c2 : a0_1 ≥ 0
 ·rw [if_pos c2] at H
  have c2b0 : decide (0 ≤ a0_1) = true := decide_eq_true c2
  clear c2
  by_cases c3 : a0_1 < a0_2
  ·rw [if_pos c3] at H
   have c3b0 : decide (a0_1 < a0_2) = true := decide_eq_true c3
   clear c3
   by_cases c4 : a0_2 ≤ 6311433600
   ·rw [if_pos c4] at H
    have c4b0 : decide (a0_2 ≤ 6311433600) = true := decide_eq_true c4
    clear c4
    by_cases c5 : a0_5 ≥ 0
    ·rw [if_pos c5] at H
     have c5b0 : decide (0 ≤ a0_5) = true := decide_eq_true c5
     clear c5
     obtain rfl := Option.some.inj H
     go_enter Try.func34,Try.ntmps34
     go_wp2_with (first | ((with_reducible refine gate_dst (N := 1) rfl ?_);refine box_event ?hg (N := 1) ?hd (cs := #[.string a0_0,.int .i64 a0_1,.int .i64 a0_2,.int .i64 a0_3,.int .i64 a0_4,.int .i64 a0_5]) (t := 26) ?hr ?_;(case hd => rfl);(case hg => rfl);(case hr => first | (go_simp;done) | (go_simp;rfl));intro gb103 hg w6 hbox hb;have n0_ := Yd (below_step (Y3 HB.out) hb);have n1_ := Yd (hbox);have n2_ := Yd ((by rw [hg];exact (below_size (Y3 HB.out)) : w.heap.size ≤ gb103));have n3_ := Yd ((by rw [hg];exact (below_size (Y3 HB.out)) : w.heap.size ≤ gb103));clear HB;have HB := n0_;have BK103 := n1_;have GW103 := n2_;have GE103 := n3_;clear n0_ n1_ n2_ n3_;clear hb hbox hg;have hcz7_0 : w6.cell? ⟨gb103,0,none⟩ = some (.string a0_0) := (blk_cell BK103.out 0).trans rfl;have hcz7_1 : w6.cell? ⟨gb103,1,none⟩ = some (.int .i64 a0_1) := (blk_cell BK103.out 1).trans rfl;have hcz7_2 : w6.cell? ⟨gb103,2,none⟩ = some (.int .i64 a0_2) := (blk_cell BK103.out 2).trans rfl;have hcz7_3 : w6.cell? ⟨gb103,3,none⟩ = some (.int .i64 a0_3) := (blk_cell BK103.out 3).trans rfl;have hcz7_4 : w6.cell? ⟨gb103,4,none⟩ = some (.int .i64 a0_4) := (blk_cell BK103.out 4).trans rfl;have hcz7_5 : w6.cell? ⟨gb103,5,none⟩ = some (.int .i64 a0_5) := (blk_cell BK103.out 5).trans rfl;have hfz7_0 := blk_frozen BK103.out 0;have hfz7_1 := blk_frozen BK103.out 1;have hfz7_2 := blk_frozen BK103.out 2;have hfz7_3 := blk_frozen BK103.out 3;have hfz7_4 := blk_frozen BK103.out 4;have hfz7_5 := blk_frozen BK103.out 5))
     go_ret
     exact ⟨by first | rfl | (simp [errW_none,errW_some] <;> rfl) | (simp [*,errW_none,errW_some] <;> rfl),by repeat (first | (with_reducible first | exact HB.out | apply below_alloc | apply Y15 | apply below_drew1 | refine below_set ?_ GE103.out) | exact HB.out)⟩
    ·rw [if_neg c5] at H
     have c5b0 : decide (0 ≤ a0_5) = false := decide_eq_false c5
     clear c5
     obtain rfl := Option.some.inj H
     go_enter Try.func34,Try.ntmps34
     go_wp2_with (first | ((with_reducible refine gate_dst (N := 1) rfl ?_);refine box_event ?hg (N := 1) ?hd (cs := #[.string a0_0,.int .i64 a0_1,.int .i64 a0_2,.int .i64 a0_3,.int .i64 a0_4,.int .i64 a0_5]) (t := 26) ?hr ?_;(case hd => rfl);(case hg => rfl);(case hr => first | (go_simp;done) | (go_simp;rfl));intro gb103 hg w8 hbox hb;have n0_ := Yd (below_step (Y3 HB.out) hb);have n1_ := Yd (hbox);have n2_ := Yd ((by rw [hg];exact (below_size (Y3 HB.out)) : w.heap.size ≤ gb103));have n3_ := Yd ((by rw [hg];exact (below_size (Y3 HB.out)) : w.heap.size ≤ gb103));clear HB;have HB := n0_;have BK103 := n1_;have GW103 := n2_;have GE103 := n3_;clear n0_ n1_ n2_ n3_;clear hb hbox hg;have hcz9_0 : w8.cell? ⟨gb103,0,none⟩ = some (.string a0_0) := (blk_cell BK103.out 0).trans rfl;have hcz9_1 : w8.cell? ⟨gb103,1,none⟩ = some (.int .i64 a0_1) := (blk_cell BK103.out 1).trans rfl;have hcz9_2 : w8.cell? ⟨gb103,2,none⟩ = some (.int .i64 a0_2) := (blk_cell BK103.out 2).trans rfl;have hcz9_3 : w8.cell? ⟨gb103,3,none⟩ = some (.int .i64 a0_3) := (blk_cell BK103.out 3).trans rfl;have hcz9_4 : w8.cell? ⟨gb103,4,none⟩ = some (.int .i64 a0_4) := (blk_cell BK103.out 4).trans rfl;have hcz9_5 : w8.cell? ⟨gb103,5,none⟩ = some (.int .i64 a0_5) := (blk_cell BK103.out 5).trans rfl;have hfz9_0 := blk_frozen BK103.out 0;have hfz9_1 := blk_frozen BK103.out 1;have hfz9_2 := blk_frozen BK103.out 2;have hfz9_3 := blk_frozen BK103.out 3;have hfz9_4 := blk_frozen BK103.out 4;have hfz9_5 := blk_frozen BK103.out 5))
     go_ret
     exact ⟨by first | rfl | (simp [errW_none,errW_some] <;> rfl) | (simp [*,errW_none,errW_some] <;> rfl),by repeat (first | (with_reducible first | exact HB.out | apply below_alloc | apply Y15 | apply below_drew1 | refine below_set ?_ GE103.out) | exact HB.out)⟩
   ·rw [if_neg c4] at H
    have c4b0 : decide (a0_2 ≤ 6311433600) = false := decide_eq_false c4
    clear c4
    obtain rfl := Option.some.inj H
    go_enter Try.func34,Try.ntmps34
    go_wp2_with (first | ((with_reducible refine gate_dst (N := 1) rfl ?_);refine box_event ?hg (N := 1) ?hd (cs := #[.string a0_0,.int .i64 a0_1,.int .i64 a0_2,.int .i64 a0_3,.int .i64 a0_4,.int .i64 a0_5]) (t := 26) ?hr ?_;(case hd => rfl);(case hg => rfl);(case hr => first | (go_simp;done) | (go_simp;rfl));intro gb103 hg w10 hbox hb;have n0_ := Yd (below_step (Y3 HB.out) hb);have n1_ := Yd (hbox);have n2_ := Yd ((by rw [hg];exact (below_size (Y3 HB.out)) : w.heap.size ≤ gb103));have n3_ := Yd ((by rw [hg];exact (below_size (Y3 HB.out)) : w.heap.size ≤ gb103));clear HB;have HB := n0_;have BK103 := n1_;have GW103 := n2_;have GE103 := n3_;clear n0_ n1_ n2_ n3_;clear hb hbox hg;have hcz11_0 : w10.cell? ⟨gb103,0,none⟩ = some (.string a0_0) := (blk_cell BK103.out 0).trans rfl;have hcz11_1 : w10.cell? ⟨gb103,1,none⟩ = some (.int .i64 a0_1) := (blk_cell BK103.out 1).trans rfl;have hcz11_2 : w10.cell? ⟨gb103,2,none⟩ = some (.int .i64 a0_2) := (blk_cell BK103.out 2).trans rfl;have hcz11_3 : w10.cell? ⟨gb103,3,none⟩ = some (.int .i64 a0_3) := (blk_cell BK103.out 3).trans rfl;have hcz11_4 : w10.cell? ⟨gb103,4,none⟩ = some (.int .i64 a0_4) := (blk_cell BK103.out 4).trans rfl;have hcz11_5 : w10.cell? ⟨gb103,5,none⟩ = some (.int .i64 a0_5) := (blk_cell BK103.out 5).trans rfl;have hfz11_0 := blk_frozen BK103.out 0;have hfz11_1 := blk_frozen BK103.out 1;have hfz11_2 := blk_frozen BK103.out 2;have hfz11_3 := blk_frozen BK103.out 3;have hfz11_4 := blk_frozen BK103.out 4;have hfz11_5 := blk_frozen BK103.out 5))
    go_ret
    exact ⟨by first | rfl | (simp [errW_none,errW_some] <;> rfl) | (simp [*,errW_none,errW_some] <;> rfl),by repeat (first | (with_reducible first | exact HB.out | apply below_alloc | apply Y15 | apply below_drew1 | refine below_set ?_ GE103.out) | exact HB.out)⟩
  ·rw [if_neg c3] at H
   have c3b0 : decide (a0_1 < a0_2) = false := decide_eq_false c3
   clear c3
   obtain rfl := Option.some.inj H
   go_enter Try.func34,Try.ntmps34
   go_wp2_with (first | ((with_reducible refine gate_dst (N := 1) rfl ?_);refine box_event ?hg (N := 1) ?hd (cs := #[.string a0_0,.int .i64 a0_1,.int .i64 a0_2,.int .i64 a0_3,.int .i64 a0_4,.int .i64 a0_5]) (t := 26) ?hr ?_;(case hd => rfl);(case hg => rfl);(case hr => first | (go_simp;done) | (go_simp;rfl));intro gb103 hg w12 hbox hb;have n0_ := Yd (below_step (Y3 HB.out) hb);have n1_ := Yd (hbox);have n2_ := Yd ((by rw [hg];exact (below_size (Y3 HB.out)) : w.heap.size ≤ gb103));have n3_ := Yd ((by rw [hg];exact (below_size (Y3 HB.out)) : w.heap.size ≤ gb103));clear HB;have HB := n0_;have BK103 := n1_;have GW103 := n2_;have GE103 := n3_;clear n0_ n1_ n2_ n3_;clear hb hbox hg;have hcz13_0 : w12.cell? ⟨gb103,0,none⟩ = some (.string a0_0) := (blk_cell BK103.out 0).trans rfl;have hcz13_1 : w12.cell? ⟨gb103,1,none⟩ = some (.int .i64 a0_1) := (blk_cell BK103.out 1).trans rfl;have hcz13_2 : w12.cell? ⟨gb103,2,none⟩ = some (.int .i64 a0_2) := (blk_cell BK103.out 2).trans rfl;have hcz13_3 : w12.cell? ⟨gb103,3,none⟩ = some (.int .i64 a0_3) := (blk_cell BK103.out 3).trans rfl;have hcz13_4 : w12.cell? ⟨gb103,4,none⟩ = some (.int .i64 a0_4) := (blk_cell BK103.out 4).trans rfl;have hcz13_5 : w12.cell? ⟨gb103,5,none⟩ = some (.int .i64 a0_5) := (blk_cell BK103.out 5).trans rfl;have hfz13_0 := blk_frozen BK103.out 0;have hfz13_1 := blk_frozen BK103.out 1;have hfz13_2 := blk_frozen BK103.out 2;have hfz13_3 := blk_frozen BK103.out 3;have hfz13_4 := blk_frozen BK103.out 4;have hfz13_5 := blk_frozen BK103.out 5))
   go_ret
   exact ⟨by first | rfl | (simp [errW_none,errW_some] <;> rfl) | (simp [*,errW_none,errW_some] <;> rfl),by repeat (first | (with_reducible first | exact HB.out | apply below_alloc | apply Y15 | apply below_drew1 | refine below_set ?_ GE103.out) | exact HB.out)⟩
 ·rw [if_neg c2] at H
  have c2b0 : decide (0 ≤ a0_1) = false := decide_eq_false c2
  clear c2
  obtain rfl := Option.some.inj H
  go_enter Try.func34,Try.ntmps34
  go_wp2_with (first | ((with_reducible refine gate_dst (N := 1) rfl ?_);refine box_event ?hg (N := 1) ?hd (cs := #[.string a0_0,.int .i64 a0_1,.int .i64 a0_2,.int .i64 a0_3,.int .i64 a0_4,.int .i64 a0_5]) (t := 26) ?hr ?_;(case hd => rfl);(case hg => rfl);(case hr => first | (go_simp;done) | (go_simp;rfl));intro gb103 hg w14 hbox hb;have n0_ := Yd (below_step (Y3 HB.out) hb);have n1_ := Yd (hbox);have n2_ := Yd ((by rw [hg];exact (below_size (Y3 HB.out)) : w.heap.size ≤ gb103));have n3_ := Yd ((by rw [hg];exact (below_size (Y3 HB.out)) : w.heap.size ≤ gb103));clear HB;have HB := n0_;have BK103 := n1_;have GW103 := n2_;have GE103 := n3_;clear n0_ n1_ n2_ n3_;clear hb hbox hg;have hcz15_0 : w14.cell? ⟨gb103,0,none⟩ = some (.string a0_0) := (blk_cell BK103.out 0).trans rfl;have hcz15_1 : w14.cell? ⟨gb103,1,none⟩ = some (.int .i64 a0_1) := (blk_cell BK103.out 1).trans rfl;have hcz15_2 : w14.cell? ⟨gb103,2,none⟩ = some (.int .i64 a0_2) := (blk_cell BK103.out 2).trans rfl;have hcz15_3 : w14.cell? ⟨gb103,3,none⟩ = some (.int .i64 a0_3) := (blk_cell BK103.out 3).trans rfl;have hcz15_4 : w14.cell? ⟨gb103,4,none⟩ = some (.int .i64 a0_4) := (blk_cell BK103.out 4).trans rfl;have hcz15_5 : w14.cell? ⟨gb103,5,none⟩ = some (.int .i64 a0_5) := (blk_cell BK103.out 5).trans rfl;have hfz15_0 := blk_frozen BK103.out 0;have hfz15_1 := blk_frozen BK103.out 1;have hfz15_2 := blk_frozen BK103.out 2;have hfz15_3 := blk_frozen BK103.out 3;have hfz15_4 := blk_frozen BK103.out 4;have hfz15_5 := blk_frozen BK103.out 5))
  go_ret
  exact ⟨by first | rfl | (simp [errW_none,errW_some] <;> rfl) | (simp [*,errW_none,errW_some] <;> rfl),by repeat (first | (with_reducible first | exact HB.out | apply below_alloc | apply Y15 | apply below_drew1 | refine below_set ?_ GE103.out) | exact HB.out)⟩
def override_Check_4.f (a0_0 : ByteArray) (a0_1 : Int) (a0_2 : Int) (a0_3 : Int) (a0_4 : Int) (a0_5 : Int) : Option (Bool) := if a0_3 ≥ 1 then (some (decide (a0_3 ≤ 3))) else (some false)
set_option maxHeartbeats 100000000 in
set_option maxRecDepth 100000 in
theorem override_Check_4.calls (a0_0 : ByteArray) (a0_1 : Int) (a0_2 : Int) (a0_3 : Int) (a0_4 : Int) (a0_5 : Int) (r : Bool) (w : World) (h : override_Check_4.f a0_0 a0_1 a0_2 a0_3 a0_4 a0_5 = some r) :
  Calls Try.prog 35 #[.agg #[.string a0_0,.int .i64 a0_1,.int .i64 a0_2,.int .i64 a0_3,.int .i64 a0_4,.int .i64 a0_5]] w fun e w' => e = .returned (.bool r) ∧ Below w.heap.size w w' := by
 have hu26 := Try.underlying26
 have HB := Yd (Below.refl w.heap.size w)
 have H : (if a0_3 ≥ 1 then (some (decide (a0_3 ≤ 3))) else (some false)) = some r := h
 clear h
 by_cases c2 : a0_3 ≥ 1
 ·rw [if_pos c2] at H
  have c2b0 : decide (1 ≤ a0_3) = true := decide_eq_true c2
  clear c2
  obtain rfl := Option.some.inj H
  go_enter Try.func35,Try.ntmps35
  go_wp2_with (first | ((with_reducible refine gate_dst (N := 1) rfl ?_);refine box_event ?hg (N := 1) ?hd (cs := #[.string a0_0,.int .i64 a0_1,.int .i64 a0_2,.int .i64 a0_3,.int .i64 a0_4,.int .i64 a0_5]) (t := 26) ?hr ?_;(case hd => rfl);(case hg => rfl);(case hr => first | (go_simp;done) | (go_simp;rfl));intro gb104 hg w3 hbox hb;have n0_ := Yd (below_step (Y3 HB.out) hb);have n1_ := Yd (hbox);have n2_ := Yd ((by rw [hg];exact (below_size (Y3 HB.out)) : w.heap.size ≤ gb104));have n3_ := Yd ((by rw [hg];exact (below_size (Y3 HB.out)) : w.heap.size ≤ gb104));clear HB;have HB := n0_;have BK104 := n1_;have GW104 := n2_;have GE104 := n3_;clear n0_ n1_ n2_ n3_;clear hb hbox hg;have hcz4_0 : w3.cell? ⟨gb104,0,none⟩ = some (.string a0_0) := (blk_cell BK104.out 0).trans rfl;have hcz4_1 : w3.cell? ⟨gb104,1,none⟩ = some (.int .i64 a0_1) := (blk_cell BK104.out 1).trans rfl;have hcz4_2 : w3.cell? ⟨gb104,2,none⟩ = some (.int .i64 a0_2) := (blk_cell BK104.out 2).trans rfl;have hcz4_3 : w3.cell? ⟨gb104,3,none⟩ = some (.int .i64 a0_3) := (blk_cell BK104.out 3).trans rfl;have hcz4_4 : w3.cell? ⟨gb104,4,none⟩ = some (.int .i64 a0_4) := (blk_cell BK104.out 4).trans rfl;have hcz4_5 : w3.cell? ⟨gb104,5,none⟩ = some (.int .i64 a0_5) := (blk_cell BK104.out 5).trans rfl;have hfz4_0 := blk_frozen BK104.out 0;have hfz4_1 := blk_frozen BK104.out 1;have hfz4_2 := blk_frozen BK104.out 2;have hfz4_3 := blk_frozen BK104.out 3;have hfz4_4 := blk_frozen BK104.out 4;have hfz4_5 := blk_frozen BK104.out 5))
  go_ret
  exact ⟨by first | rfl | (simp [errW_none,errW_some] <;> rfl) | (simp [*,errW_none,errW_some] <;> rfl),by repeat (first | (with_reducible first | exact HB.out | apply below_alloc | apply Y15 | apply below_drew1 | refine below_set ?_ GE104.out) | exact HB.out)⟩
 ·rw [if_neg c2] at H
  have c2b0 : decide (1 ≤ a0_3) = false := decide_eq_false c2
  clear c2
  obtain rfl := Option.some.inj H
  go_enter Try.func35,Try.ntmps35
  go_wp2_with (first | ((with_reducible refine gate_dst (N := 1) rfl ?_);refine box_event ?hg (N := 1) ?hd (cs := #[.string a0_0,.int .i64 a0_1,.int .i64 a0_2,.int .i64 a0_3,.int .i64 a0_4,.int .i64 a0_5]) (t := 26) ?hr ?_;(case hd => rfl);(case hg => rfl);(case hr => first | (go_simp;done) | (go_simp;rfl));intro gb104 hg w5 hbox hb;have n0_ := Yd (below_step (Y3 HB.out) hb);have n1_ := Yd (hbox);have n2_ := Yd ((by rw [hg];exact (below_size (Y3 HB.out)) : w.heap.size ≤ gb104));have n3_ := Yd ((by rw [hg];exact (below_size (Y3 HB.out)) : w.heap.size ≤ gb104));clear HB;have HB := n0_;have BK104 := n1_;have GW104 := n2_;have GE104 := n3_;clear n0_ n1_ n2_ n3_;clear hb hbox hg;have hcz6_0 : w5.cell? ⟨gb104,0,none⟩ = some (.string a0_0) := (blk_cell BK104.out 0).trans rfl;have hcz6_1 : w5.cell? ⟨gb104,1,none⟩ = some (.int .i64 a0_1) := (blk_cell BK104.out 1).trans rfl;have hcz6_2 : w5.cell? ⟨gb104,2,none⟩ = some (.int .i64 a0_2) := (blk_cell BK104.out 2).trans rfl;have hcz6_3 : w5.cell? ⟨gb104,3,none⟩ = some (.int .i64 a0_3) := (blk_cell BK104.out 3).trans rfl;have hcz6_4 : w5.cell? ⟨gb104,4,none⟩ = some (.int .i64 a0_4) := (blk_cell BK104.out 4).trans rfl;have hcz6_5 : w5.cell? ⟨gb104,5,none⟩ = some (.int .i64 a0_5) := (blk_cell BK104.out 5).trans rfl;have hfz6_0 := blk_frozen BK104.out 0;have hfz6_1 := blk_frozen BK104.out 1;have hfz6_2 := blk_frozen BK104.out 2;have hfz6_3 := blk_frozen BK104.out 3;have hfz6_4 := blk_frozen BK104.out 4;have hfz6_5 := blk_frozen BK104.out 5))
  go_ret
  exact ⟨by first | rfl | (simp [errW_none,errW_some] <;> rfl) | (simp [*,errW_none,errW_some] <;> rfl),by repeat (first | (with_reducible first | exact HB.out | apply below_alloc | apply Y15 | apply below_drew1 | refine below_set ?_ GE104.out) | exact HB.out)⟩
def override_Check_1_1__b52c32.f (k : Nat) (a0_0 : ByteArray) (a0_1 : Int) (a0_2 : Int) (a0_3 : Int) (a0_4 : Int) (a0_5 : Int)  : Option (Bool) := (override_Check_2.f k a0_0 a0_1 a0_2 a0_3 a0_4 a0_5).bind fun t107 => (some (!t107))
theorem override_Check_1_1__b52c32.mono : ∀ a0 a1 a2 a3 a4 a5 k,LeO (override_Check_1_1__b52c32.f k a0 a1 a2 a3 a4 a5) (override_Check_1_1__b52c32.f (k + 1) a0 a1 a2 a3 a4 a5) := by
 intro a0 a1 a2 a3 a4 a5 k
 unfold override_Check_1_1__b52c32.f
 repeat' first
   | (with_reducible exact override_Check_2.mono _ _ _ _ _ _ _)
   | (with_reducible exact LeO.refl _)
   | (with_reducible exact LeO.none _)
   | (with_reducible refine LeO.ite ?_ ?_)
   | (with_reducible refine LeO.bind ?_ (fun _ => ?_))
   | exact override_Check_2.mono _ _ _ _ _ _ _
   | exact LeO.none _
   | refine LeO.ite ?_ ?_
   | refine LeO.bind ?_ (fun _ => ?_)
set_option maxHeartbeats 100000000 in
set_option maxRecDepth 100000 in
theorem override_Check_1_1__b52c32.calls (k : Nat) (a0_0 : ByteArray) (a0_1 : Int) (a0_2 : Int) (a0_3 : Int) (a0_4 : Int) (a0_5 : Int) (B1_0_ : Nat)  (r : Bool) (w : World) (hx1_0_ : w.heap[B1_0_]? = some (.cells #[.func (.func 32) #[] #[]] 52 (0,0))) (h : override_Check_1_1__b52c32.f k a0_0 a0_1 a0_2 a0_3 a0_4 a0_5 = some r) :
  Calls Try.prog 31 #[.agg #[.string a0_0,.int .i64 a0_1,.int .i64 a0_2,.int .i64 a0_3,.int .i64 a0_4,.int .i64 a0_5],.pointer (some ⟨B1_0_,0,none⟩)] w fun e w' => e = .returned (.bool r) ∧ Below w.heap.size w w' := by
 have hu26 := Try.underlying26
 have BK105 := Yd hx1_0_
 clear hx1_0_
 have HB := Yd (Below.refl w.heap.size w)
 have H : ((override_Check_2.f k a0_0 a0_1 a0_2 a0_3 a0_4 a0_5).bind fun t107 => (some (!t107))) = some r := h
 clear h
 replace H := Option.bind_eq_some_iff.mp H
 obtain ⟨t107,A30,H⟩ := H
 replace H : (some (!t107)) = some r := H
 have A3 := Yd A30
 clear A30
 obtain rfl := Option.some.inj H
 go_enter Try.func31,Try.ntmps31
 go_wp2_with (first | ((with_reducible refine gate_dst (N := 2) rfl ?_);refine box_event ?hg (N := 2) ?hd (cs := #[.string a0_0,.int .i64 a0_1,.int .i64 a0_2,.int .i64 a0_3,.int .i64 a0_4,.int .i64 a0_5]) (t := 26) ?hr ?_;(case hd => rfl);(case hg => rfl);(case hr => first | (go_simp;done) | (go_simp;rfl));intro gb106 hg w4 hbox hb;have n0_ := Yd (blk_below (g := B1_0_) (o := .cells #[.func (.func 32) #[] #[]] 52 (0,0)) (Y6 BK105.out) hb);have n1_ := Yd (below_step (by first | exact Y4 HB.out GE105.out | exact Y3 HB.out) hb);have n2_ := Yd (hbox);have n3_ := Yd ((by rw [hg];exact (below_size (by first | exact Y4 HB.out GE105.out | exact Y3 HB.out)) : w.heap.size ≤ gb106));have n4_ := Yd ((by rw [hg];exact (below_size (by first | exact Y4 HB.out GE105.out | exact Y3 HB.out)) : w.heap.size ≤ gb106));have n5_ := Yd ((by rw [hg];exact Nat.ne_of_lt (blk_lt (g := B1_0_) (o := .cells #[.func (.func 32) #[] #[]] 52 (0,0)) (Y6 BK105.out)) : B1_0_ ≠ gb106));have n6_ := Yd ((by rw [hg];exact Nat.ne_of_gt (blk_lt (g := B1_0_) (o := .cells #[.func (.func 32) #[] #[]] 52 (0,0)) (Y6 BK105.out)) : gb106 ≠ B1_0_));clear BK105;clear HB;have BK105 := n0_;have HB := n1_;have BK106 := n2_;have GW106 := n3_;have GE106 := n4_;have NB105_106 := n5_;have NB106_105 := n6_;clear n0_ n1_ n2_ n3_ n4_ n5_ n6_;clear hb hbox hg;have hnb5 := NB105_106.out;have hnc5 := NB106_105.out;have hcz6_0 : w4.cell? ⟨B1_0_,0,none⟩ = some (.func (.func 32) #[] #[]) := (blk_cell BK105.out 0).trans rfl;have hfz6_0 := blk_frozen BK105.out 0;have hcz7_0 : w4.cell? ⟨gb106,0,none⟩ = some (.string a0_0) := (blk_cell BK106.out 0).trans rfl;have hcz7_1 : w4.cell? ⟨gb106,1,none⟩ = some (.int .i64 a0_1) := (blk_cell BK106.out 1).trans rfl;have hcz7_2 : w4.cell? ⟨gb106,2,none⟩ = some (.int .i64 a0_2) := (blk_cell BK106.out 2).trans rfl;have hcz7_3 : w4.cell? ⟨gb106,3,none⟩ = some (.int .i64 a0_3) := (blk_cell BK106.out 3).trans rfl;have hcz7_4 : w4.cell? ⟨gb106,4,none⟩ = some (.int .i64 a0_4) := (blk_cell BK106.out 4).trans rfl;have hcz7_5 : w4.cell? ⟨gb106,5,none⟩ = some (.int .i64 a0_5) := (blk_cell BK106.out 5).trans rfl;have hfz7_0 := blk_frozen BK106.out 0;have hfz7_1 := blk_frozen BK106.out 1;have hfz7_2 := blk_frozen BK106.out 2;have hfz7_3 := blk_frozen BK106.out 3;have hfz7_4 := blk_frozen BK106.out 4;have hfz7_5 := blk_frozen BK106.out 5) | (go_at_call 32;(with_reducible refine (override_Check_2.calls k a0_0 a0_1 a0_2 a0_3 a0_4 a0_5 t107 _ A3.out).mono ?_);rintro e w8 ⟨rfl,hb⟩;have n0_ := Yd (blk_below (g := B1_0_) (o := .cells #[.func (.func 32) #[] #[]] 52 (0,0)) (Y6 BK105.out) hb);have n1_ := Yd (blk_below (g := gb106) (o := .cells #[.string a0_0,.int .i64 a0_1,.int .i64 a0_2,.int .i64 a0_3,.int .i64 a0_4,.int .i64 a0_5] 26 (0,0)) (Y6 BK106.out) hb);have n2_ := Yd (below_step (by repeat (first | (with_reducible first | exact HB.out | apply below_alloc | apply Y15 | apply below_drew1 | refine below_set ?_ GE105.out | refine below_set ?_ GE106.out) | exact HB.out)) hb);clear BK105;clear BK106;clear HB;have BK105 := n0_;have BK106 := n1_;have HB := n2_;clear n0_ n1_ n2_;(try clear hb);(try clear hb2);(try clear hk);(try clear hi)))
 go_ret
 exact ⟨by first | rfl | (simp [errW_none,errW_some] <;> rfl) | (simp [*,errW_none,errW_some] <;> rfl),by repeat (first | (with_reducible first | exact HB.out | apply below_alloc | apply Y15 | apply below_drew1 | refine below_set ?_ GE105.out | refine below_set ?_ GE106.out) | exact HB.out)⟩
def api_Hold__c31_.l0 : Nat → List (S26) → Int → Int → Option (Int)
 | 0,_,_,_ => none
 | k + 1,x0,x7,x8 => if x8 < x7 then (if 0 ≤ x8 then (if x8 < (x0.length : Int) then ((override_Check_1_1__b52c32.f k ((rd_T26 x0 x8).f0) ((rd_T26 x0 x8).f1) ((rd_T26 x0 x8).f2) ((rd_T26 x0 x8).f3.f0) ((rd_T26 x0 x8).f3.f1) ((rd_T26 x0 x8).f4)).bind fun t110 => (if t110 = true then (some x8) else (api_Hold__c31_.l0 k x0 x7 (wrap64 (x8 + 1))))) else (none)) else (none)) else (some (-1))
def api_Hold__c31_.f (k : Nat) (l0 : List (S26))  : Option (Int) := api_Hold__c31_.l0 k l0 (l0.length : Int) 0
theorem api_Hold__c31_.mono_l : ∀ k,(∀ y0 y1 y2,LeO (api_Hold__c31_.l0 k y0 y1 y2) (api_Hold__c31_.l0 (k + 1) y0 y1 y2))
 | 0 => fun _ _ _ r h => by simp [api_Hold__c31_.l0] at h
 | k + 1 => by
  have ih0 := api_Hold__c31_.mono_l k
  ·intro y0 y1 y2
   unfold api_Hold__c31_.l0
   repeat' first
   | (with_reducible exact ih0 _ _ _)
   | (with_reducible exact override_Check_1_1__b52c32.mono _ _ _ _ _ _ _)
   | (with_reducible exact LeO.refl _)
   | (with_reducible exact LeO.none _)
   | (with_reducible refine LeO.ite ?_ ?_)
   | (with_reducible refine LeO.bind ?_ (fun _ => ?_))
   | exact ih0 _ _ _
   | exact override_Check_1_1__b52c32.mono _ _ _ _ _ _ _
   | exact LeO.none _
   | refine LeO.ite ?_ ?_
   | refine LeO.bind ?_ (fun _ => ?_)
theorem api_Hold__c31_.mono : ∀ a0 k,LeO (api_Hold__c31_.f k a0) (api_Hold__c31_.f (k + 1) a0) := by
 intro a0 k
 have ih0 := api_Hold__c31_.mono_l k
 unfold api_Hold__c31_.f
 repeat' first
   | (with_reducible exact ih0 _ _ _)
   | (with_reducible exact override_Check_1_1__b52c32.mono _ _ _ _ _ _ _)
   | (with_reducible exact LeO.refl _)
   | (with_reducible exact LeO.none _)
   | (with_reducible refine LeO.ite ?_ ?_)
   | (with_reducible refine LeO.bind ?_ (fun _ => ?_))
   | exact ih0 _ _ _
   | exact override_Check_1_1__b52c32.mono _ _ _ _ _ _ _
   | exact LeO.none _
   | refine LeO.ite ?_ ?_
   | refine LeO.bind ?_ (fun _ => ?_)
set_option maxHeartbeats 100000000 in
set_option maxRecDepth 100000 in
theorem api_Hold__c31_.calls (k : Nat) (A0 : Option Addr) (c0 : Nat) (l0 : List (S26)) (B1_0_ : Nat)  (r : Int) (w : World) (hr0 : Kd.C k26 w A0 l0.length l0) (hc0 : l0.length ≤ c0) (hx1_0_ : w.heap[B1_0_]? = some (.cells #[.func (.func 32) #[] #[]] 52 (0,0))) (h : api_Hold__c31_.f k l0 = some r) :
  Calls Try.prog 39 #[.slice A0 l0.length c0,.func (.func 31) #[] #[.pointer (some ⟨B1_0_,0,none⟩)]] w fun e w' => e = .returned (.int .i64 r) ∧ Below w.heap.size w w' := by
 have hu26 := Try.underlying26
 have HR0 := Yd hr0
 have HC0 := Yd hc0
 clear hr0 hc0
 have BK108 := Yd hx1_0_
 clear hx1_0_
 have HB := Yd (Below.refl w.heap.size w)
 have H : (api_Hold__c31_.l0 k l0 (l0.length : Int) 0) = some r := h
 clear h
 have H' := Yd H
 clear H
 go_enter Try.func39,Try.ntmps39
 go_wp2
 go_loopg [8] k (fun kq v8 w' => ∃ (x8_1 : Int),v8 = .int .i64 x8_1 ∧ Aside0 (api_Hold__c31_.l0 kq l0 (l0.length : Int) x8_1 = some r) ∧ Aside0 (kq ≤ k) ∧ Aside0 (w'.heap[B1_0_]? = some (.cells #[.func (.func 32) #[] #[]] 52 (0,0))) ∧ Aside0 (Below w.heap.size w w'))
 case atStart => exact ⟨(0),Y12,H',⟨Nat.le_refl _⟩,⟨Y6 BK108.out⟩,⟨by repeat (first | (with_reducible first | exact HB.out | apply below_alloc | apply Y15 | apply below_drew1 | refine below_set ?_ GE108.out) | exact HB.out)⟩⟩
 case round =>
  clear H'
  try clear hx1
  try clear p2
  obtain ⟨x8_1,rfl,HA,HK1,BK108,HB⟩ := hrel
  cases gk with
  | zero => exact absurd HA.out (by simp [api_Hold__c31_.l0])
  | succ k1 =>
   have H := HA.out
   clear HA
   simp only [api_Hold__c31_.l0] at H
   by_cases c3 : x8_1 < (l0.length : Int)
   ·rw [if_pos c3] at H
    have c3b0 : decide (x8_1 < (l0.length : Int)) = true := decide_eq_true c3
    clear c3
    by_cases c4 : 0 ≤ x8_1
    case neg => rw [if_neg c4] at H;exact absurd H (by simp)
    rw [if_pos c4] at H
    have c4b0 : decide (0 ≤ x8_1) = true := decide_eq_true c4
    clear c4
    by_cases c5 : x8_1 < (l0.length : Int)
    case neg => rw [if_neg c5] at H;exact absurd H (by simp)
    rw [if_pos c5] at H
    have c5b0 : decide (x8_1 < (l0.length : Int)) = true := decide_eq_true c5
    clear c5
    replace H := Option.bind_eq_some_iff.mp H
    obtain ⟨t110,A60,H⟩ := H
    replace H : (if t110 = true then (some x8_1) else (api_Hold__c31_.l0 k1 l0 (l0.length : Int) (wrap64 (x8_1 + 1)))) = some r := H
    have A6 := Yd A60
    clear A60
    by_cases c7 : t110 = true
    ·subst c7
     have H1 : (some x8_1) = some r := by rw [if_pos rfl] at H;exact H
     clear H
     have H := H1
     clear H1
     obtain rfl := Option.some.inj H
     have p109 : 0 ≤ (x8_1 : Int) := Y9
     have q109 : x8_1 < (l0.length : Int) := Y9
     obtain ⟨ad109,e109,hx109_0,hx109_1,hx109_2,hx109_3,hx109_4,hx109_5⟩ := at_T26 HR0.out x8_1 p109 q109
     cases e109
     replace hx109_0 := Y10 HB.out hx109_0
     replace hx109_1 := Y10 HB.out hx109_1
     replace hx109_2 := Y10 HB.out hx109_2
     replace hx109_3 := Y10 HB.out hx109_3
     replace hx109_4 := Y10 HB.out hx109_4
     replace hx109_5 := Y10 HB.out hx109_5
     replace p109 := eq_true p109
     replace q109 := eq_true q109
     go_wp2_with (first | (go_at_call 31;(with_reducible refine (override_Check_1_1__b52c32.calls k1 ((rd_T26 l0 x8_1).f0) ((rd_T26 l0 x8_1).f1) ((rd_T26 l0 x8_1).f2) ((rd_T26 l0 x8_1).f3.f0) ((rd_T26 l0 x8_1).f3.f1) ((rd_T26 l0 x8_1).f4) B1_0_ true _ ?side1 A6.out).mono ?_);(case side1 => exact (Y6 BK108.out));rintro e w8 ⟨rfl,hb⟩;have n0_ := Yd (blk_below (g := B1_0_) (o := .cells #[.func (.func 32) #[] #[]] 52 (0,0)) (Y6 BK108.out) hb);have n1_ := Yd (below_step (by first | exact Y4 HB.out GE108.out | exact Y3 HB.out) hb);clear BK108;clear HB;have BK108 := n0_;have HB := n1_;clear n0_ n1_;(try clear hb);(try clear hb2);(try clear hk);(try clear hi)))
     go_ret
     exact ⟨by first | rfl | (simp [errW_none,errW_some] <;> rfl) | (simp [*,errW_none,errW_some] <;> rfl),by repeat (first | (with_reducible first | exact HB.out | apply below_alloc | apply Y15 | apply below_drew1 | refine below_set ?_ GE108.out) | exact HB.out)⟩
    ·replace c7 := Bool.eq_false_iff.mpr c7
     subst c7
     have H1 : (api_Hold__c31_.l0 k1 l0 (l0.length : Int) (wrap64 (x8_1 + 1))) = some r := by rw [if_neg (show ¬ (false = true) by decide)] at H;exact H
     clear H
     have H := H1
     clear H1
     have H' := Yd H
     clear H
     have p109 : 0 ≤ (x8_1 : Int) := Y9
     have q109 : x8_1 < (l0.length : Int) := Y9
     obtain ⟨ad109,e109,hx109_0,hx109_1,hx109_2,hx109_3,hx109_4,hx109_5⟩ := at_T26 HR0.out x8_1 p109 q109
     cases e109
     replace hx109_0 := Y10 HB.out hx109_0
     replace hx109_1 := Y10 HB.out hx109_1
     replace hx109_2 := Y10 HB.out hx109_2
     replace hx109_3 := Y10 HB.out hx109_3
     replace hx109_4 := Y10 HB.out hx109_4
     replace hx109_5 := Y10 HB.out hx109_5
     replace p109 := eq_true p109
     replace q109 := eq_true q109
     go_wp2_with (first | (go_at_call 31;(with_reducible refine (override_Check_1_1__b52c32.calls k1 ((rd_T26 l0 x8_1).f0) ((rd_T26 l0 x8_1).f1) ((rd_T26 l0 x8_1).f2) ((rd_T26 l0 x8_1).f3.f0) ((rd_T26 l0 x8_1).f3.f1) ((rd_T26 l0 x8_1).f4) B1_0_ false _ ?side1 A6.out).mono ?_);(case side1 => exact (Y6 BK108.out));rintro e w9 ⟨rfl,hb⟩;have n0_ := Yd (blk_below (g := B1_0_) (o := .cells #[.func (.func 32) #[] #[]] 52 (0,0)) (Y6 BK108.out) hb);have n1_ := Yd (below_step (by first | exact Y4 HB.out GE108.out | exact Y3 HB.out) hb);clear BK108;clear HB;have BK108 := n0_;have HB := n1_;clear n0_ n1_;(try clear hb);(try clear hb2);(try clear hk);(try clear hi)))
     go_roundg k1
     case measure => have := HK1.out;omega
     case rel => exact ⟨(wrap64 (x8_1 + 1)),Y12,H',⟨by have := HK1.out;omega⟩,⟨Y6 BK108.out⟩,⟨by repeat (first | (with_reducible first | exact HB.out | apply below_alloc | apply Y15 | apply below_drew1 | refine below_set ?_ GE108.out) | exact HB.out)⟩⟩
   ·rw [if_neg c3] at H
    have c3b0 : decide (x8_1 < (l0.length : Int)) = false := decide_eq_false c3
    clear c3
    obtain rfl := Option.some.inj H
    go_wp2
    go_ret
    exact ⟨by first | rfl | (simp [errW_none,errW_some] <;> rfl) | (simp [*,errW_none,errW_some] <;> rfl),by repeat (first | (with_reducible first | exact HB.out | apply below_alloc | apply Y15 | apply below_drew1 | refine below_set ?_ GE108.out) | exact HB.out)⟩
def api_Hold__c31.f (k : Nat) (l0 : List (S26))  : Option (Bool) := (api_Hold__c31_.f k l0).bind fun t112 => (some (decide (t112 ≥ 0)))
theorem api_Hold__c31.mono : ∀ a0 k,LeO (api_Hold__c31.f k a0) (api_Hold__c31.f (k + 1) a0) := by
 intro a0 k
 unfold api_Hold__c31.f
 repeat' first
   | (with_reducible exact api_Hold__c31_.mono _ _)
   | (with_reducible exact LeO.refl _)
   | (with_reducible exact LeO.none _)
   | (with_reducible refine LeO.ite ?_ ?_)
   | (with_reducible refine LeO.bind ?_ (fun _ => ?_))
   | exact api_Hold__c31_.mono _ _
   | exact LeO.none _
   | refine LeO.ite ?_ ?_
   | refine LeO.bind ?_ (fun _ => ?_)
set_option maxHeartbeats 100000000 in
set_option maxRecDepth 100000 in
theorem api_Hold__c31.calls (k : Nat) (A0 : Option Addr) (c0 : Nat) (l0 : List (S26)) (B1_0_ : Nat)  (r : Bool) (w : World) (hr0 : Kd.C k26 w A0 l0.length l0) (hc0 : l0.length ≤ c0) (hx1_0_ : w.heap[B1_0_]? = some (.cells #[.func (.func 32) #[] #[]] 52 (0,0))) (h : api_Hold__c31.f k l0 = some r) :
  Calls Try.prog 30 #[.slice A0 l0.length c0,.func (.func 31) #[] #[.pointer (some ⟨B1_0_,0,none⟩)]] w fun e w' => e = .returned (.bool r) ∧ Below w.heap.size w w' := by
 have HR0 := Yd hr0
 have HC0 := Yd hc0
 clear hr0 hc0
 have BK111 := Yd hx1_0_
 clear hx1_0_
 have HB := Yd (Below.refl w.heap.size w)
 have H : ((api_Hold__c31_.f k l0).bind fun t112 => (some (decide (t112 ≥ 0)))) = some r := h
 clear h
 replace H := Option.bind_eq_some_iff.mp H
 obtain ⟨t112,A30,H⟩ := H
 replace H : (some (decide (t112 ≥ 0))) = some r := H
 have A3 := Yd A30
 clear A30
 obtain rfl := Option.some.inj H
 go_enter Try.func30,Try.ntmps30
 go_wp2_with (first | ((with_reducible refine gate_callee (f := 39) rfl ?_);refine goesL_ (some 7) rfl rfl Try.func39 (by kernel_rfl) rfl #[.slice A0 l0.length c0,.func (.func 31) #[] #[.pointer (some ⟨B1_0_,0,none⟩)]] rfl Y8 ?_;(with_reducible refine (api_Hold__c31_.calls k _ _ l0 B1_0_ t112 _ ?side1 ?side2 ?side3 A3.out).mono ?_);(case side1 => repeat (first | exact HR0.out | (with_reducible refine Kd.C_alloc ?_ _) | (with_reducible refine Kd.C_drewN ?_ _) | (with_reducible refine Kd.C_drew ?_)));(case side2 => exact HC0.out);(case side3 => exact (Y6 BK111.out));rintro e w4 ⟨rfl,hb⟩;refine ⟨_,rfl,?_⟩;have n0_ := Yd (blk_below (g := B1_0_) (o := .cells #[.func (.func 32) #[] #[]] 52 (0,0)) (Y6 BK111.out) hb);have n1_ := Yd (below_step (by first | exact Y4 HB.out GE111.out | exact Y3 HB.out) hb);clear BK111;clear HB;have BK111 := n0_;have HB := n1_;clear n0_ n1_;(try clear hb);(try clear hb2);(try clear hk);(try clear hi)))
 go_ret
 exact ⟨by first | rfl | (simp [errW_none,errW_some] <;> rfl) | (simp [*,errW_none,errW_some] <;> rfl),by repeat (first | (with_reducible first | exact HB.out | apply below_alloc | apply Y15 | apply below_drew1 | refine below_set ?_ GE111.out) | exact HB.out)⟩
def override_Check_1__c32.f (k : Nat)  (l1_0 : List (S26)) : Option (Bool) := (api_Hold__c31.f k l1_0).bind fun t115 => (some (!t115))
theorem override_Check_1__c32.mono : ∀ a0 k,LeO (override_Check_1__c32.f k a0) (override_Check_1__c32.f (k + 1) a0) := by
 intro a0 k
 unfold override_Check_1__c32.f
 repeat' first
   | (with_reducible exact api_Hold__c31.mono _ _)
   | (with_reducible exact LeO.refl _)
   | (with_reducible exact LeO.none _)
   | (with_reducible refine LeO.ite ?_ ?_)
   | (with_reducible refine LeO.bind ?_ (fun _ => ?_))
   | exact api_Hold__c31.mono _ _
   | exact LeO.none _
   | refine LeO.ite ?_ ?_
   | refine LeO.bind ?_ (fun _ => ?_)
set_option maxHeartbeats 100000000 in
set_option maxRecDepth 100000 in
theorem override_Check_1__c32.calls (k : Nat)  (B1_0_ : Nat) (A1_0 : Option Addr) (c1_0 : Nat) (l1_0 : List (S26)) (r : Bool) (w : World) (hr1_0 : Kd.C k26 w A1_0 l1_0.length l1_0) (hc1_0 : l1_0.length ≤ c1_0) (hx1_0_ : w.heap[B1_0_]? = some (.cells #[.slice A1_0 l1_0.length c1_0] 22 (0,0))) (h : override_Check_1__c32.f k l1_0 = some r) :
  Calls Try.prog 29 #[.func (.func 32) #[] #[],.pointer (some ⟨B1_0_,0,none⟩)] w fun e w' => e = .returned (.bool r) ∧ Below w.heap.size w w' := by
 have HR1_0 := Yd hr1_0
 have HC1_0 := Yd hc1_0
 clear hr1_0 hc1_0
 have BK113 := Yd hx1_0_
 clear hx1_0_
 have HB := Yd (Below.refl w.heap.size w)
 have H : ((api_Hold__c31.f k l1_0).bind fun t115 => (some (!t115))) = some r := h
 clear h
 replace H := Option.bind_eq_some_iff.mp H
 obtain ⟨t115,A30,H⟩ := H
 replace H : (some (!t115)) = some r := H
 have A3 := Yd A30
 clear A30
 obtain rfl := Option.some.inj H
 go_enter Try.func29,Try.ntmps29
 go_wp2_with (first | ((with_reducible refine gate_dst (N := 2) rfl ?_);refine box_event ?hg (N := 2) ?hd (cs := #[.func (.func 32) #[] #[]]) (t := 52) ?hr ?_;(case hd => rfl);(case hg => rfl);(case hr => first | (go_simp;done) | (go_simp;rfl));intro gb114 hg w4 hbox hb;have n0_ := Yd (blk_below (g := B1_0_) (o := .cells #[.slice A1_0 l1_0.length c1_0] 22 (0,0)) (Y6 BK113.out) hb);have n1_ := Yd (below_step (by first | exact Y4 HB.out GE113.out | exact Y3 HB.out) hb);have n2_ := Yd (hbox);have n3_ := Yd ((by rw [hg];exact (below_size (by first | exact Y4 HB.out GE113.out | exact Y3 HB.out)) : w.heap.size ≤ gb114));have n4_ := Yd ((by rw [hg];exact (below_size (by first | exact Y4 HB.out GE113.out | exact Y3 HB.out)) : w.heap.size ≤ gb114));have n5_ := Yd ((by rw [hg];exact Nat.ne_of_lt (blk_lt (g := B1_0_) (o := .cells #[.slice A1_0 l1_0.length c1_0] 22 (0,0)) (Y6 BK113.out)) : B1_0_ ≠ gb114));have n6_ := Yd ((by rw [hg];exact Nat.ne_of_gt (blk_lt (g := B1_0_) (o := .cells #[.slice A1_0 l1_0.length c1_0] 22 (0,0)) (Y6 BK113.out)) : gb114 ≠ B1_0_));clear BK113;clear HB;have BK113 := n0_;have HB := n1_;have BK114 := n2_;have GW114 := n3_;have GE114 := n4_;have NB113_114 := n5_;have NB114_113 := n6_;clear n0_ n1_ n2_ n3_ n4_ n5_ n6_;clear hb hbox hg;have hnb5 := NB113_114.out;have hnc5 := NB114_113.out;have hcz6_0 : w4.cell? ⟨B1_0_,0,none⟩ = some (.slice A1_0 l1_0.length c1_0) := (blk_cell BK113.out 0).trans rfl;have hfz6_0 := blk_frozen BK113.out 0) | ((with_reducible refine gate_callee (f := 30) rfl ?_);refine goesL_ (some 6) rfl rfl Try.func30 (by kernel_rfl) rfl #[.slice A1_0 l1_0.length c1_0,.func (.func 31) #[] #[.pointer (some ⟨gb114,0,none⟩)]] rfl Y8 ?_;(with_reducible refine (api_Hold__c31.calls k _ _ l1_0 gb114 t115 _ ?side1 ?side2 ?side3 A3.out).mono ?_);(case side1 => exact Y11 (Kd.C_below HR1_0.out HB.out));(case side2 => exact HC1_0.out);(case side3 => exact (Y6 BK114.out));rintro e w7 ⟨rfl,hb⟩;refine ⟨_,rfl,?_⟩;have n0_ := Yd (blk_below (g := B1_0_) (o := .cells #[.slice A1_0 l1_0.length c1_0] 22 (0,0)) (Y6 BK113.out) hb);have n1_ := Yd (blk_below (g := gb114) (o := .cells #[.func (.func 32) #[] #[]] 52 (0,0)) (Y6 BK114.out) hb);have n2_ := Yd (below_step (by repeat (first | (with_reducible first | exact HB.out | apply below_alloc | apply Y15 | apply below_drew1 | refine below_set ?_ GE113.out | refine below_set ?_ GE114.out) | exact HB.out)) hb);clear BK113;clear BK114;clear HB;have BK113 := n0_;have BK114 := n1_;have HB := n2_;clear n0_ n1_ n2_;(try clear hb);(try clear hb2);(try clear hk);(try clear hi)))
 go_ret
 exact ⟨by first | rfl | (simp [errW_none,errW_some] <;> rfl) | (simp [*,errW_none,errW_some] <;> rfl),by repeat (first | (with_reducible first | exact HB.out | apply below_alloc | apply Y15 | apply below_drew1 | refine below_set ?_ GE113.out | refine below_set ?_ GE114.out) | exact HB.out)⟩
def override_Check_1_1__b52c34.f (a0_0 : ByteArray) (a0_1 : Int) (a0_2 : Int) (a0_3 : Int) (a0_4 : Int) (a0_5 : Int)  : Option (Bool) := (override_Check_3.f a0_0 a0_1 a0_2 a0_3 a0_4 a0_5).bind fun t118 => (some (!t118))
set_option maxHeartbeats 100000000 in
set_option maxRecDepth 100000 in
theorem override_Check_1_1__b52c34.calls (a0_0 : ByteArray) (a0_1 : Int) (a0_2 : Int) (a0_3 : Int) (a0_4 : Int) (a0_5 : Int) (B1_0_ : Nat)  (r : Bool) (w : World) (hx1_0_ : w.heap[B1_0_]? = some (.cells #[.func (.func 34) #[] #[]] 52 (0,0))) (h : override_Check_1_1__b52c34.f a0_0 a0_1 a0_2 a0_3 a0_4 a0_5 = some r) :
  Calls Try.prog 31 #[.agg #[.string a0_0,.int .i64 a0_1,.int .i64 a0_2,.int .i64 a0_3,.int .i64 a0_4,.int .i64 a0_5],.pointer (some ⟨B1_0_,0,none⟩)] w fun e w' => e = .returned (.bool r) ∧ Below w.heap.size w w' := by
 have hu26 := Try.underlying26
 have BK116 := Yd hx1_0_
 clear hx1_0_
 have HB := Yd (Below.refl w.heap.size w)
 have H : ((override_Check_3.f a0_0 a0_1 a0_2 a0_3 a0_4 a0_5).bind fun t118 => (some (!t118))) = some r := h
 clear h
 replace H := Option.bind_eq_some_iff.mp H
 obtain ⟨t118,A30,H⟩ := H
 replace H : (some (!t118)) = some r := H
 have A3 := Yd A30
 clear A30
 obtain rfl := Option.some.inj H
 go_enter Try.func31,Try.ntmps31
 go_wp2_with (first | ((with_reducible refine gate_dst (N := 2) rfl ?_);refine box_event ?hg (N := 2) ?hd (cs := #[.string a0_0,.int .i64 a0_1,.int .i64 a0_2,.int .i64 a0_3,.int .i64 a0_4,.int .i64 a0_5]) (t := 26) ?hr ?_;(case hd => rfl);(case hg => rfl);(case hr => first | (go_simp;done) | (go_simp;rfl));intro gb117 hg w4 hbox hb;have n0_ := Yd (blk_below (g := B1_0_) (o := .cells #[.func (.func 34) #[] #[]] 52 (0,0)) (Y6 BK116.out) hb);have n1_ := Yd (below_step (by first | exact Y4 HB.out GE116.out | exact Y3 HB.out) hb);have n2_ := Yd (hbox);have n3_ := Yd ((by rw [hg];exact (below_size (by first | exact Y4 HB.out GE116.out | exact Y3 HB.out)) : w.heap.size ≤ gb117));have n4_ := Yd ((by rw [hg];exact (below_size (by first | exact Y4 HB.out GE116.out | exact Y3 HB.out)) : w.heap.size ≤ gb117));have n5_ := Yd ((by rw [hg];exact Nat.ne_of_lt (blk_lt (g := B1_0_) (o := .cells #[.func (.func 34) #[] #[]] 52 (0,0)) (Y6 BK116.out)) : B1_0_ ≠ gb117));have n6_ := Yd ((by rw [hg];exact Nat.ne_of_gt (blk_lt (g := B1_0_) (o := .cells #[.func (.func 34) #[] #[]] 52 (0,0)) (Y6 BK116.out)) : gb117 ≠ B1_0_));clear BK116;clear HB;have BK116 := n0_;have HB := n1_;have BK117 := n2_;have GW117 := n3_;have GE117 := n4_;have NB116_117 := n5_;have NB117_116 := n6_;clear n0_ n1_ n2_ n3_ n4_ n5_ n6_;clear hb hbox hg;have hnb5 := NB116_117.out;have hnc5 := NB117_116.out;have hcz6_0 : w4.cell? ⟨B1_0_,0,none⟩ = some (.func (.func 34) #[] #[]) := (blk_cell BK116.out 0).trans rfl;have hfz6_0 := blk_frozen BK116.out 0;have hcz7_0 : w4.cell? ⟨gb117,0,none⟩ = some (.string a0_0) := (blk_cell BK117.out 0).trans rfl;have hcz7_1 : w4.cell? ⟨gb117,1,none⟩ = some (.int .i64 a0_1) := (blk_cell BK117.out 1).trans rfl;have hcz7_2 : w4.cell? ⟨gb117,2,none⟩ = some (.int .i64 a0_2) := (blk_cell BK117.out 2).trans rfl;have hcz7_3 : w4.cell? ⟨gb117,3,none⟩ = some (.int .i64 a0_3) := (blk_cell BK117.out 3).trans rfl;have hcz7_4 : w4.cell? ⟨gb117,4,none⟩ = some (.int .i64 a0_4) := (blk_cell BK117.out 4).trans rfl;have hcz7_5 : w4.cell? ⟨gb117,5,none⟩ = some (.int .i64 a0_5) := (blk_cell BK117.out 5).trans rfl;have hfz7_0 := blk_frozen BK117.out 0;have hfz7_1 := blk_frozen BK117.out 1;have hfz7_2 := blk_frozen BK117.out 2;have hfz7_3 := blk_frozen BK117.out 3;have hfz7_4 := blk_frozen BK117.out 4;have hfz7_5 := blk_frozen BK117.out 5) | (go_at_call 34;(with_reducible refine (override_Check_3.calls a0_0 a0_1 a0_2 a0_3 a0_4 a0_5 t118 _ A3.out).mono ?_);rintro e w8 ⟨rfl,hb⟩;have n0_ := Yd (blk_below (g := B1_0_) (o := .cells #[.func (.func 34) #[] #[]] 52 (0,0)) (Y6 BK116.out) hb);have n1_ := Yd (blk_below (g := gb117) (o := .cells #[.string a0_0,.int .i64 a0_1,.int .i64 a0_2,.int .i64 a0_3,.int .i64 a0_4,.int .i64 a0_5] 26 (0,0)) (Y6 BK117.out) hb);have n2_ := Yd (below_step (by repeat (first | (with_reducible first | exact HB.out | apply below_alloc | apply Y15 | apply below_drew1 | refine below_set ?_ GE116.out | refine below_set ?_ GE117.out) | exact HB.out)) hb);clear BK116;clear BK117;clear HB;have BK116 := n0_;have BK117 := n1_;have HB := n2_;clear n0_ n1_ n2_;(try clear hb);(try clear hb2);(try clear hk);(try clear hi)))
 go_ret
 exact ⟨by first | rfl | (simp [errW_none,errW_some] <;> rfl) | (simp [*,errW_none,errW_some] <;> rfl),by repeat (first | (with_reducible first | exact HB.out | apply below_alloc | apply Y15 | apply below_drew1 | refine below_set ?_ GE116.out | refine below_set ?_ GE117.out) | exact HB.out)⟩
end Go.Proofs.Ytaoicdkjjjlmeaa.PD34
namespace Go.Proofs.Ytaoicdkjjjlmeaa.PD34
open Go.RowKit Go.Proofs.YtaoicdkjjjlmeaaW.PrintWords Go.Proofs.YtaoicdkjjjlmeaaW.PrintLast Go.Proofs.YtaoicdkjjjlmeaaW.PrintMore
attribute [local go_sem] max2_int min2_int max_two min_two max_three min_three max_four min_four
def api_Hold__c31___.l0 : Nat → List (S26) → Int → Int → Option (Int)
 | 0,_,_,_ => none
 | k + 1,x0,x7,x8 => if x8 < x7 then (if 0 ≤ x8 then (if x8 < (x0.length : Int) then ((override_Check_1_1__b52c34.f ((rd_T26 x0 x8).f0) ((rd_T26 x0 x8).f1) ((rd_T26 x0 x8).f2) ((rd_T26 x0 x8).f3.f0) ((rd_T26 x0 x8).f3.f1) ((rd_T26 x0 x8).f4)).bind fun t121 => (if t121 = true then (some x8) else (api_Hold__c31___.l0 k x0 x7 (wrap64 (x8 + 1))))) else (none)) else (none)) else (some (-1))
def api_Hold__c31___.f (k : Nat) (l0 : List (S26))  : Option (Int) := api_Hold__c31___.l0 k l0 (l0.length : Int) 0
theorem api_Hold__c31___.mono_l : ∀ k,(∀ y0 y1 y2,LeO (api_Hold__c31___.l0 k y0 y1 y2) (api_Hold__c31___.l0 (k + 1) y0 y1 y2))
 | 0 => fun _ _ _ r h => by simp [api_Hold__c31___.l0] at h
 | k + 1 => by
  have ih0 := api_Hold__c31___.mono_l k
  ·intro y0 y1 y2
   unfold api_Hold__c31___.l0
   repeat' first
   | (with_reducible exact ih0 _ _ _)
   | (with_reducible exact LeO.refl _)
   | (with_reducible exact LeO.none _)
   | (with_reducible refine LeO.ite ?_ ?_)
   | (with_reducible refine LeO.bind ?_ (fun _ => ?_))
   | exact ih0 _ _ _
   | exact LeO.none _
   | refine LeO.ite ?_ ?_
   | refine LeO.bind ?_ (fun _ => ?_)
theorem api_Hold__c31___.mono : ∀ a0 k,LeO (api_Hold__c31___.f k a0) (api_Hold__c31___.f (k + 1) a0) := by
 intro a0 k
 have ih0 := api_Hold__c31___.mono_l k
 unfold api_Hold__c31___.f
 repeat' first
   | (with_reducible exact ih0 _ _ _)
   | (with_reducible exact LeO.refl _)
   | (with_reducible exact LeO.none _)
   | (with_reducible refine LeO.ite ?_ ?_)
   | (with_reducible refine LeO.bind ?_ (fun _ => ?_))
   | exact ih0 _ _ _
   | exact LeO.none _
   | refine LeO.ite ?_ ?_
   | refine LeO.bind ?_ (fun _ => ?_)
set_option maxHeartbeats 100000000 in
set_option maxRecDepth 100000 in
theorem api_Hold__c31___.calls (k : Nat) (A0 : Option Addr) (c0 : Nat) (l0 : List (S26)) (B1_0_ : Nat)  (r : Int) (w : World) (hr0 : Kd.C k26 w A0 l0.length l0) (hc0 : l0.length ≤ c0) (hx1_0_ : w.heap[B1_0_]? = some (.cells #[.func (.func 34) #[] #[]] 52 (0,0))) (h : api_Hold__c31___.f k l0 = some r) :
  Calls Try.prog 39 #[.slice A0 l0.length c0,.func (.func 31) #[] #[.pointer (some ⟨B1_0_,0,none⟩)]] w fun e w' => e = .returned (.int .i64 r) ∧ Below w.heap.size w w' := by
 have hu26 := Try.underlying26
 have HR0 := Yd hr0
 have HC0 := Yd hc0
 clear hr0 hc0
 have BK119 := Yd hx1_0_
 clear hx1_0_
 have HB := Yd (Below.refl w.heap.size w)
 have H : (api_Hold__c31___.l0 k l0 (l0.length : Int) 0) = some r := h
 clear h
 have H' := Yd H
 clear H
 go_enter Try.func39,Try.ntmps39
 go_wp2
 go_loopg [8] k (fun kq v8 w' => ∃ (x8_1 : Int),v8 = .int .i64 x8_1 ∧ Aside0 (api_Hold__c31___.l0 kq l0 (l0.length : Int) x8_1 = some r) ∧ Aside0 (kq ≤ k) ∧ Aside0 (w'.heap[B1_0_]? = some (.cells #[.func (.func 34) #[] #[]] 52 (0,0))) ∧ Aside0 (Below w.heap.size w w'))
 case atStart => exact ⟨(0),Y12,H',⟨Nat.le_refl _⟩,⟨Y6 BK119.out⟩,⟨by repeat (first | (with_reducible first | exact HB.out | apply below_alloc | apply Y15 | apply below_drew1 | refine below_set ?_ GE119.out) | exact HB.out)⟩⟩
 case round =>
  clear H'
  try clear hx1
  try clear p2
  obtain ⟨x8_1,rfl,HA,HK1,BK119,HB⟩ := hrel
  cases gk with
  | zero => exact absurd HA.out (by simp [api_Hold__c31___.l0])
  | succ k1 =>
   have H := HA.out
   clear HA
   simp only [api_Hold__c31___.l0] at H
   by_cases c3 : x8_1 < (l0.length : Int)
   ·rw [if_pos c3] at H
    have c3b0 : decide (x8_1 < (l0.length : Int)) = true := decide_eq_true c3
    clear c3
    by_cases c4 : 0 ≤ x8_1
    case neg => rw [if_neg c4] at H;exact absurd H (by simp)
    rw [if_pos c4] at H
    have c4b0 : decide (0 ≤ x8_1) = true := decide_eq_true c4
    clear c4
    by_cases c5 : x8_1 < (l0.length : Int)
    case neg => rw [if_neg c5] at H;exact absurd H (by simp)
    rw [if_pos c5] at H
    have c5b0 : decide (x8_1 < (l0.length : Int)) = true := decide_eq_true c5
    clear c5
    replace H := Option.bind_eq_some_iff.mp H
    obtain ⟨t121,A60,H⟩ := H
    replace H : (if t121 = true then (some x8_1) else (api_Hold__c31___.l0 k1 l0 (l0.length : Int) (wrap64 (x8_1 + 1)))) = some r := H
    have A6 := Yd A60
    clear A60
    by_cases c7 : t121 = true
    ·subst c7
     have H1 : (some x8_1) = some r := by rw [if_pos rfl] at H;exact H
     clear H
     have H := H1
     clear H1
     obtain rfl := Option.some.inj H
     have p120 : 0 ≤ (x8_1 : Int) := Y9
     have q120 : x8_1 < (l0.length : Int) := Y9
     obtain ⟨ad120,e120,hx120_0,hx120_1,hx120_2,hx120_3,hx120_4,hx120_5⟩ := at_T26 HR0.out x8_1 p120 q120
     cases e120
     replace hx120_0 := Y10 HB.out hx120_0
     replace hx120_1 := Y10 HB.out hx120_1
     replace hx120_2 := Y10 HB.out hx120_2
     replace hx120_3 := Y10 HB.out hx120_3
     replace hx120_4 := Y10 HB.out hx120_4
     replace hx120_5 := Y10 HB.out hx120_5
     replace p120 := eq_true p120
     replace q120 := eq_true q120
     go_wp2_with (first | (go_at_call 31;(with_reducible refine (override_Check_1_1__b52c34.calls ((rd_T26 l0 x8_1).f0) ((rd_T26 l0 x8_1).f1) ((rd_T26 l0 x8_1).f2) ((rd_T26 l0 x8_1).f3.f0) ((rd_T26 l0 x8_1).f3.f1) ((rd_T26 l0 x8_1).f4) B1_0_ true _ ?side1 A6.out).mono ?_);(case side1 => exact (Y6 BK119.out));rintro e w8 ⟨rfl,hb⟩;have n0_ := Yd (blk_below (g := B1_0_) (o := .cells #[.func (.func 34) #[] #[]] 52 (0,0)) (Y6 BK119.out) hb);have n1_ := Yd (below_step (by first | exact Y4 HB.out GE119.out | exact Y3 HB.out) hb);clear BK119;clear HB;have BK119 := n0_;have HB := n1_;clear n0_ n1_;(try clear hb);(try clear hb2);(try clear hk);(try clear hi)))
     go_ret
     exact ⟨by first | rfl | (simp [errW_none,errW_some] <;> rfl) | (simp [*,errW_none,errW_some] <;> rfl),by repeat (first | (with_reducible first | exact HB.out | apply below_alloc | apply Y15 | apply below_drew1 | refine below_set ?_ GE119.out) | exact HB.out)⟩
    ·replace c7 := Bool.eq_false_iff.mpr c7
     subst c7
     have H1 : (api_Hold__c31___.l0 k1 l0 (l0.length : Int) (wrap64 (x8_1 + 1))) = some r := by rw [if_neg (show ¬ (false = true) by decide)] at H;exact H
     clear H
     have H := H1
     clear H1
     have H' := Yd H
     clear H
     have p120 : 0 ≤ (x8_1 : Int) := Y9
     have q120 : x8_1 < (l0.length : Int) := Y9
     obtain ⟨ad120,e120,hx120_0,hx120_1,hx120_2,hx120_3,hx120_4,hx120_5⟩ := at_T26 HR0.out x8_1 p120 q120
     cases e120
     replace hx120_0 := Y10 HB.out hx120_0
     replace hx120_1 := Y10 HB.out hx120_1
     replace hx120_2 := Y10 HB.out hx120_2
     replace hx120_3 := Y10 HB.out hx120_3
     replace hx120_4 := Y10 HB.out hx120_4
     replace hx120_5 := Y10 HB.out hx120_5
     replace p120 := eq_true p120
     replace q120 := eq_true q120
     go_wp2_with (first | (go_at_call 31;(with_reducible refine (override_Check_1_1__b52c34.calls ((rd_T26 l0 x8_1).f0) ((rd_T26 l0 x8_1).f1) ((rd_T26 l0 x8_1).f2) ((rd_T26 l0 x8_1).f3.f0) ((rd_T26 l0 x8_1).f3.f1) ((rd_T26 l0 x8_1).f4) B1_0_ false _ ?side1 A6.out).mono ?_);(case side1 => exact (Y6 BK119.out));rintro e w9 ⟨rfl,hb⟩;have n0_ := Yd (blk_below (g := B1_0_) (o := .cells #[.func (.func 34) #[] #[]] 52 (0,0)) (Y6 BK119.out) hb);have n1_ := Yd (below_step (by first | exact Y4 HB.out GE119.out | exact Y3 HB.out) hb);clear BK119;clear HB;have BK119 := n0_;have HB := n1_;clear n0_ n1_;(try clear hb);(try clear hb2);(try clear hk);(try clear hi)))
     go_roundg k1
     case measure => have := HK1.out;omega
     case rel => exact ⟨(wrap64 (x8_1 + 1)),Y12,H',⟨by have := HK1.out;omega⟩,⟨Y6 BK119.out⟩,⟨by repeat (first | (with_reducible first | exact HB.out | apply below_alloc | apply Y15 | apply below_drew1 | refine below_set ?_ GE119.out) | exact HB.out)⟩⟩
   ·rw [if_neg c3] at H
    have c3b0 : decide (x8_1 < (l0.length : Int)) = false := decide_eq_false c3
    clear c3
    obtain rfl := Option.some.inj H
    go_wp2
    go_ret
    exact ⟨by first | rfl | (simp [errW_none,errW_some] <;> rfl) | (simp [*,errW_none,errW_some] <;> rfl),by repeat (first | (with_reducible first | exact HB.out | apply below_alloc | apply Y15 | apply below_drew1 | refine below_set ?_ GE119.out) | exact HB.out)⟩
def api_Hold__c31__.f (k : Nat) (l0 : List (S26))  : Option (Bool) := (api_Hold__c31___.f k l0).bind fun t123 => (some (decide (t123 ≥ 0)))
theorem api_Hold__c31__.mono : ∀ a0 k,LeO (api_Hold__c31__.f k a0) (api_Hold__c31__.f (k + 1) a0) := by
 intro a0 k
 unfold api_Hold__c31__.f
 repeat' first
   | (with_reducible exact api_Hold__c31___.mono _ _)
   | (with_reducible exact LeO.refl _)
   | (with_reducible exact LeO.none _)
   | (with_reducible refine LeO.ite ?_ ?_)
   | (with_reducible refine LeO.bind ?_ (fun _ => ?_))
   | exact api_Hold__c31___.mono _ _
   | exact LeO.none _
   | refine LeO.ite ?_ ?_
   | refine LeO.bind ?_ (fun _ => ?_)
set_option maxHeartbeats 100000000 in
set_option maxRecDepth 100000 in
theorem api_Hold__c31__.calls (k : Nat) (A0 : Option Addr) (c0 : Nat) (l0 : List (S26)) (B1_0_ : Nat)  (r : Bool) (w : World) (hr0 : Kd.C k26 w A0 l0.length l0) (hc0 : l0.length ≤ c0) (hx1_0_ : w.heap[B1_0_]? = some (.cells #[.func (.func 34) #[] #[]] 52 (0,0))) (h : api_Hold__c31__.f k l0 = some r) :
  Calls Try.prog 30 #[.slice A0 l0.length c0,.func (.func 31) #[] #[.pointer (some ⟨B1_0_,0,none⟩)]] w fun e w' => e = .returned (.bool r) ∧ Below w.heap.size w w' := by
 have HR0 := Yd hr0
 have HC0 := Yd hc0
 clear hr0 hc0
 have BK122 := Yd hx1_0_
 clear hx1_0_
 have HB := Yd (Below.refl w.heap.size w)
 have H : ((api_Hold__c31___.f k l0).bind fun t123 => (some (decide (t123 ≥ 0)))) = some r := h
 clear h
 replace H := Option.bind_eq_some_iff.mp H
 obtain ⟨t123,A30,H⟩ := H
 replace H : (some (decide (t123 ≥ 0))) = some r := H
 have A3 := Yd A30
 clear A30
 obtain rfl := Option.some.inj H
 go_enter Try.func30,Try.ntmps30
 go_wp2_with (first | ((with_reducible refine gate_callee (f := 39) rfl ?_);refine goesL_ (some 7) rfl rfl Try.func39 (by kernel_rfl) rfl #[.slice A0 l0.length c0,.func (.func 31) #[] #[.pointer (some ⟨B1_0_,0,none⟩)]] rfl Y8 ?_;(with_reducible refine (api_Hold__c31___.calls k _ _ l0 B1_0_ t123 _ ?side1 ?side2 ?side3 A3.out).mono ?_);(case side1 => repeat (first | exact HR0.out | (with_reducible refine Kd.C_alloc ?_ _) | (with_reducible refine Kd.C_drewN ?_ _) | (with_reducible refine Kd.C_drew ?_)));(case side2 => exact HC0.out);(case side3 => exact (Y6 BK122.out));rintro e w4 ⟨rfl,hb⟩;refine ⟨_,rfl,?_⟩;have n0_ := Yd (blk_below (g := B1_0_) (o := .cells #[.func (.func 34) #[] #[]] 52 (0,0)) (Y6 BK122.out) hb);have n1_ := Yd (below_step (by first | exact Y4 HB.out GE122.out | exact Y3 HB.out) hb);clear BK122;clear HB;have BK122 := n0_;have HB := n1_;clear n0_ n1_;(try clear hb);(try clear hb2);(try clear hk);(try clear hi)))
 go_ret
 exact ⟨by first | rfl | (simp [errW_none,errW_some] <;> rfl) | (simp [*,errW_none,errW_some] <;> rfl),by repeat (first | (with_reducible first | exact HB.out | apply below_alloc | apply Y15 | apply below_drew1 | refine below_set ?_ GE122.out) | exact HB.out)⟩
def override_Check_1__c34.f (k : Nat)  (l1_0 : List (S26)) : Option (Bool) := (api_Hold__c31__.f k l1_0).bind fun t126 => (some (!t126))
theorem override_Check_1__c34.mono : ∀ a0 k,LeO (override_Check_1__c34.f k a0) (override_Check_1__c34.f (k + 1) a0) := by
 intro a0 k
 unfold override_Check_1__c34.f
 repeat' first
   | (with_reducible exact api_Hold__c31__.mono _ _)
   | (with_reducible exact LeO.refl _)
   | (with_reducible exact LeO.none _)
   | (with_reducible refine LeO.ite ?_ ?_)
   | (with_reducible refine LeO.bind ?_ (fun _ => ?_))
   | exact api_Hold__c31__.mono _ _
   | exact LeO.none _
   | refine LeO.ite ?_ ?_
   | refine LeO.bind ?_ (fun _ => ?_)
set_option maxHeartbeats 100000000 in
set_option maxRecDepth 100000 in
theorem override_Check_1__c34.calls (k : Nat)  (B1_0_ : Nat) (A1_0 : Option Addr) (c1_0 : Nat) (l1_0 : List (S26)) (r : Bool) (w : World) (hr1_0 : Kd.C k26 w A1_0 l1_0.length l1_0) (hc1_0 : l1_0.length ≤ c1_0) (hx1_0_ : w.heap[B1_0_]? = some (.cells #[.slice A1_0 l1_0.length c1_0] 22 (0,0))) (h : override_Check_1__c34.f k l1_0 = some r) :
  Calls Try.prog 29 #[.func (.func 34) #[] #[],.pointer (some ⟨B1_0_,0,none⟩)] w fun e w' => e = .returned (.bool r) ∧ Below w.heap.size w w' := by
 have HR1_0 := Yd hr1_0
 have HC1_0 := Yd hc1_0
 clear hr1_0 hc1_0
 have BK124 := Yd hx1_0_
 clear hx1_0_
 have HB := Yd (Below.refl w.heap.size w)
 have H : ((api_Hold__c31__.f k l1_0).bind fun t126 => (some (!t126))) = some r := h
 clear h
 replace H := Option.bind_eq_some_iff.mp H
 obtain ⟨t126,A30,H⟩ := H
 replace H : (some (!t126)) = some r := H
 have A3 := Yd A30
 clear A30
 obtain rfl := Option.some.inj H
 go_enter Try.func29,Try.ntmps29
 go_wp2_with (first | ((with_reducible refine gate_dst (N := 2) rfl ?_);refine box_event ?hg (N := 2) ?hd (cs := #[.func (.func 34) #[] #[]]) (t := 52) ?hr ?_;(case hd => rfl);(case hg => rfl);(case hr => first | (go_simp;done) | (go_simp;rfl));intro gb125 hg w4 hbox hb;have n0_ := Yd (blk_below (g := B1_0_) (o := .cells #[.slice A1_0 l1_0.length c1_0] 22 (0,0)) (Y6 BK124.out) hb);have n1_ := Yd (below_step (by first | exact Y4 HB.out GE124.out | exact Y3 HB.out) hb);have n2_ := Yd (hbox);have n3_ := Yd ((by rw [hg];exact (below_size (by first | exact Y4 HB.out GE124.out | exact Y3 HB.out)) : w.heap.size ≤ gb125));have n4_ := Yd ((by rw [hg];exact (below_size (by first | exact Y4 HB.out GE124.out | exact Y3 HB.out)) : w.heap.size ≤ gb125));have n5_ := Yd ((by rw [hg];exact Nat.ne_of_lt (blk_lt (g := B1_0_) (o := .cells #[.slice A1_0 l1_0.length c1_0] 22 (0,0)) (Y6 BK124.out)) : B1_0_ ≠ gb125));have n6_ := Yd ((by rw [hg];exact Nat.ne_of_gt (blk_lt (g := B1_0_) (o := .cells #[.slice A1_0 l1_0.length c1_0] 22 (0,0)) (Y6 BK124.out)) : gb125 ≠ B1_0_));clear BK124;clear HB;have BK124 := n0_;have HB := n1_;have BK125 := n2_;have GW125 := n3_;have GE125 := n4_;have NB124_125 := n5_;have NB125_124 := n6_;clear n0_ n1_ n2_ n3_ n4_ n5_ n6_;clear hb hbox hg;have hnb5 := NB124_125.out;have hnc5 := NB125_124.out;have hcz6_0 : w4.cell? ⟨B1_0_,0,none⟩ = some (.slice A1_0 l1_0.length c1_0) := (blk_cell BK124.out 0).trans rfl;have hfz6_0 := blk_frozen BK124.out 0) | ((with_reducible refine gate_callee (f := 30) rfl ?_);refine goesL_ (some 6) rfl rfl Try.func30 (by kernel_rfl) rfl #[.slice A1_0 l1_0.length c1_0,.func (.func 31) #[] #[.pointer (some ⟨gb125,0,none⟩)]] rfl Y8 ?_;(with_reducible refine (api_Hold__c31__.calls k _ _ l1_0 gb125 t126 _ ?side1 ?side2 ?side3 A3.out).mono ?_);(case side1 => exact Y11 (Kd.C_below HR1_0.out HB.out));(case side2 => exact HC1_0.out);(case side3 => exact (Y6 BK125.out));rintro e w7 ⟨rfl,hb⟩;refine ⟨_,rfl,?_⟩;have n0_ := Yd (blk_below (g := B1_0_) (o := .cells #[.slice A1_0 l1_0.length c1_0] 22 (0,0)) (Y6 BK124.out) hb);have n1_ := Yd (blk_below (g := gb125) (o := .cells #[.func (.func 34) #[] #[]] 52 (0,0)) (Y6 BK125.out) hb);have n2_ := Yd (below_step (by repeat (first | (with_reducible first | exact HB.out | apply below_alloc | apply Y15 | apply below_drew1 | refine below_set ?_ GE124.out | refine below_set ?_ GE125.out) | exact HB.out)) hb);clear BK124;clear BK125;clear HB;have BK124 := n0_;have BK125 := n1_;have HB := n2_;clear n0_ n1_ n2_;(try clear hb);(try clear hb2);(try clear hk);(try clear hi)))
 go_ret
 exact ⟨by first | rfl | (simp [errW_none,errW_some] <;> rfl) | (simp [*,errW_none,errW_some] <;> rfl),by repeat (first | (with_reducible first | exact HB.out | apply below_alloc | apply Y15 | apply below_drew1 | refine below_set ?_ GE124.out | refine below_set ?_ GE125.out) | exact HB.out)⟩
def override_Check_1_1__b52c35.f (a0_0 : ByteArray) (a0_1 : Int) (a0_2 : Int) (a0_3 : Int) (a0_4 : Int) (a0_5 : Int)  : Option (Bool) := (override_Check_4.f a0_0 a0_1 a0_2 a0_3 a0_4 a0_5).bind fun t129 => (some (!t129))
set_option maxHeartbeats 100000000 in
set_option maxRecDepth 100000 in
theorem override_Check_1_1__b52c35.calls (a0_0 : ByteArray) (a0_1 : Int) (a0_2 : Int) (a0_3 : Int) (a0_4 : Int) (a0_5 : Int) (B1_0_ : Nat)  (r : Bool) (w : World) (hx1_0_ : w.heap[B1_0_]? = some (.cells #[.func (.func 35) #[] #[]] 52 (0,0))) (h : override_Check_1_1__b52c35.f a0_0 a0_1 a0_2 a0_3 a0_4 a0_5 = some r) :
  Calls Try.prog 31 #[.agg #[.string a0_0,.int .i64 a0_1,.int .i64 a0_2,.int .i64 a0_3,.int .i64 a0_4,.int .i64 a0_5],.pointer (some ⟨B1_0_,0,none⟩)] w fun e w' => e = .returned (.bool r) ∧ Below w.heap.size w w' := by
 have hu26 := Try.underlying26
 have BK127 := Yd hx1_0_
 clear hx1_0_
 have HB := Yd (Below.refl w.heap.size w)
 have H : ((override_Check_4.f a0_0 a0_1 a0_2 a0_3 a0_4 a0_5).bind fun t129 => (some (!t129))) = some r := h
 clear h
 replace H := Option.bind_eq_some_iff.mp H
 obtain ⟨t129,A30,H⟩ := H
 replace H : (some (!t129)) = some r := H
 have A3 := Yd A30
 clear A30
 obtain rfl := Option.some.inj H
 go_enter Try.func31,Try.ntmps31
 go_wp2_with (first | ((with_reducible refine gate_dst (N := 2) rfl ?_);refine box_event ?hg (N := 2) ?hd (cs := #[.string a0_0,.int .i64 a0_1,.int .i64 a0_2,.int .i64 a0_3,.int .i64 a0_4,.int .i64 a0_5]) (t := 26) ?hr ?_;(case hd => rfl);(case hg => rfl);(case hr => first | (go_simp;done) | (go_simp;rfl));intro gb128 hg w4 hbox hb;have n0_ := Yd (blk_below (g := B1_0_) (o := .cells #[.func (.func 35) #[] #[]] 52 (0,0)) (Y6 BK127.out) hb);have n1_ := Yd (below_step (by first | exact Y4 HB.out GE127.out | exact Y3 HB.out) hb);have n2_ := Yd (hbox);have n3_ := Yd ((by rw [hg];exact (below_size (by first | exact Y4 HB.out GE127.out | exact Y3 HB.out)) : w.heap.size ≤ gb128));have n4_ := Yd ((by rw [hg];exact (below_size (by first | exact Y4 HB.out GE127.out | exact Y3 HB.out)) : w.heap.size ≤ gb128));have n5_ := Yd ((by rw [hg];exact Nat.ne_of_lt (blk_lt (g := B1_0_) (o := .cells #[.func (.func 35) #[] #[]] 52 (0,0)) (Y6 BK127.out)) : B1_0_ ≠ gb128));have n6_ := Yd ((by rw [hg];exact Nat.ne_of_gt (blk_lt (g := B1_0_) (o := .cells #[.func (.func 35) #[] #[]] 52 (0,0)) (Y6 BK127.out)) : gb128 ≠ B1_0_));clear BK127;clear HB;have BK127 := n0_;have HB := n1_;have BK128 := n2_;have GW128 := n3_;have GE128 := n4_;have NB127_128 := n5_;have NB128_127 := n6_;clear n0_ n1_ n2_ n3_ n4_ n5_ n6_;clear hb hbox hg;have hnb5 := NB127_128.out;have hnc5 := NB128_127.out;have hcz6_0 : w4.cell? ⟨B1_0_,0,none⟩ = some (.func (.func 35) #[] #[]) := (blk_cell BK127.out 0).trans rfl;have hfz6_0 := blk_frozen BK127.out 0;have hcz7_0 : w4.cell? ⟨gb128,0,none⟩ = some (.string a0_0) := (blk_cell BK128.out 0).trans rfl;have hcz7_1 : w4.cell? ⟨gb128,1,none⟩ = some (.int .i64 a0_1) := (blk_cell BK128.out 1).trans rfl;have hcz7_2 : w4.cell? ⟨gb128,2,none⟩ = some (.int .i64 a0_2) := (blk_cell BK128.out 2).trans rfl;have hcz7_3 : w4.cell? ⟨gb128,3,none⟩ = some (.int .i64 a0_3) := (blk_cell BK128.out 3).trans rfl;have hcz7_4 : w4.cell? ⟨gb128,4,none⟩ = some (.int .i64 a0_4) := (blk_cell BK128.out 4).trans rfl;have hcz7_5 : w4.cell? ⟨gb128,5,none⟩ = some (.int .i64 a0_5) := (blk_cell BK128.out 5).trans rfl;have hfz7_0 := blk_frozen BK128.out 0;have hfz7_1 := blk_frozen BK128.out 1;have hfz7_2 := blk_frozen BK128.out 2;have hfz7_3 := blk_frozen BK128.out 3;have hfz7_4 := blk_frozen BK128.out 4;have hfz7_5 := blk_frozen BK128.out 5) | (go_at_call 35;(with_reducible refine (override_Check_4.calls a0_0 a0_1 a0_2 a0_3 a0_4 a0_5 t129 _ A3.out).mono ?_);rintro e w8 ⟨rfl,hb⟩;have n0_ := Yd (blk_below (g := B1_0_) (o := .cells #[.func (.func 35) #[] #[]] 52 (0,0)) (Y6 BK127.out) hb);have n1_ := Yd (blk_below (g := gb128) (o := .cells #[.string a0_0,.int .i64 a0_1,.int .i64 a0_2,.int .i64 a0_3,.int .i64 a0_4,.int .i64 a0_5] 26 (0,0)) (Y6 BK128.out) hb);have n2_ := Yd (below_step (by repeat (first | (with_reducible first | exact HB.out | apply below_alloc | apply Y15 | apply below_drew1 | refine below_set ?_ GE127.out | refine below_set ?_ GE128.out) | exact HB.out)) hb);clear BK127;clear BK128;clear HB;have BK127 := n0_;have BK128 := n1_;have HB := n2_;clear n0_ n1_ n2_;(try clear hb);(try clear hb2);(try clear hk);(try clear hi)))
 go_ret
 exact ⟨by first | rfl | (simp [errW_none,errW_some] <;> rfl) | (simp [*,errW_none,errW_some] <;> rfl),by repeat (first | (with_reducible first | exact HB.out | apply below_alloc | apply Y15 | apply below_drew1 | refine below_set ?_ GE127.out | refine below_set ?_ GE128.out) | exact HB.out)⟩
def api_Hold__c31_____.l0 : Nat → List (S26) → Int → Int → Option (Int)
 | 0,_,_,_ => none
 | k + 1,x0,x7,x8 => if x8 < x7 then (if 0 ≤ x8 then (if x8 < (x0.length : Int) then ((override_Check_1_1__b52c35.f ((rd_T26 x0 x8).f0) ((rd_T26 x0 x8).f1) ((rd_T26 x0 x8).f2) ((rd_T26 x0 x8).f3.f0) ((rd_T26 x0 x8).f3.f1) ((rd_T26 x0 x8).f4)).bind fun t132 => (if t132 = true then (some x8) else (api_Hold__c31_____.l0 k x0 x7 (wrap64 (x8 + 1))))) else (none)) else (none)) else (some (-1))
def api_Hold__c31_____.f (k : Nat) (l0 : List (S26))  : Option (Int) := api_Hold__c31_____.l0 k l0 (l0.length : Int) 0
theorem api_Hold__c31_____.mono_l : ∀ k,(∀ y0 y1 y2,LeO (api_Hold__c31_____.l0 k y0 y1 y2) (api_Hold__c31_____.l0 (k + 1) y0 y1 y2))
 | 0 => fun _ _ _ r h => by simp [api_Hold__c31_____.l0] at h
 | k + 1 => by
  have ih0 := api_Hold__c31_____.mono_l k
  ·intro y0 y1 y2
   unfold api_Hold__c31_____.l0
   repeat' first
   | (with_reducible exact ih0 _ _ _)
   | (with_reducible exact LeO.refl _)
   | (with_reducible exact LeO.none _)
   | (with_reducible refine LeO.ite ?_ ?_)
   | (with_reducible refine LeO.bind ?_ (fun _ => ?_))
   | exact ih0 _ _ _
   | exact LeO.none _
   | refine LeO.ite ?_ ?_
   | refine LeO.bind ?_ (fun _ => ?_)
theorem api_Hold__c31_____.mono : ∀ a0 k,LeO (api_Hold__c31_____.f k a0) (api_Hold__c31_____.f (k + 1) a0) := by
 intro a0 k
 have ih0 := api_Hold__c31_____.mono_l k
 unfold api_Hold__c31_____.f
 repeat' first
   | (with_reducible exact ih0 _ _ _)
   | (with_reducible exact LeO.refl _)
   | (with_reducible exact LeO.none _)
   | (with_reducible refine LeO.ite ?_ ?_)
   | (with_reducible refine LeO.bind ?_ (fun _ => ?_))
   | exact ih0 _ _ _
   | exact LeO.none _
   | refine LeO.ite ?_ ?_
   | refine LeO.bind ?_ (fun _ => ?_)
set_option maxHeartbeats 100000000 in
set_option maxRecDepth 100000 in
theorem api_Hold__c31_____.calls (k : Nat) (A0 : Option Addr) (c0 : Nat) (l0 : List (S26)) (B1_0_ : Nat)  (r : Int) (w : World) (hr0 : Kd.C k26 w A0 l0.length l0) (hc0 : l0.length ≤ c0) (hx1_0_ : w.heap[B1_0_]? = some (.cells #[.func (.func 35) #[] #[]] 52 (0,0))) (h : api_Hold__c31_____.f k l0 = some r) :
  Calls Try.prog 39 #[.slice A0 l0.length c0,.func (.func 31) #[] #[.pointer (some ⟨B1_0_,0,none⟩)]] w fun e w' => e = .returned (.int .i64 r) ∧ Below w.heap.size w w' := by
 have hu26 := Try.underlying26
 have HR0 := Yd hr0
 have HC0 := Yd hc0
 clear hr0 hc0
 have BK130 := Yd hx1_0_
 clear hx1_0_
 have HB := Yd (Below.refl w.heap.size w)
 have H : (api_Hold__c31_____.l0 k l0 (l0.length : Int) 0) = some r := h
 clear h
 have H' := Yd H
 clear H
 go_enter Try.func39,Try.ntmps39
 go_wp2
 go_loopg [8] k (fun kq v8 w' => ∃ (x8_1 : Int),v8 = .int .i64 x8_1 ∧ Aside0 (api_Hold__c31_____.l0 kq l0 (l0.length : Int) x8_1 = some r) ∧ Aside0 (kq ≤ k) ∧ Aside0 (w'.heap[B1_0_]? = some (.cells #[.func (.func 35) #[] #[]] 52 (0,0))) ∧ Aside0 (Below w.heap.size w w'))
 case atStart => exact ⟨(0),Y12,H',⟨Nat.le_refl _⟩,⟨Y6 BK130.out⟩,⟨by repeat (first | (with_reducible first | exact HB.out | apply below_alloc | apply Y15 | apply below_drew1 | refine below_set ?_ GE130.out) | exact HB.out)⟩⟩
 case round =>
  clear H'
  try clear hx1
  try clear p2
  obtain ⟨x8_1,rfl,HA,HK1,BK130,HB⟩ := hrel
  cases gk with
  | zero => exact absurd HA.out (by simp [api_Hold__c31_____.l0])
  | succ k1 =>
   have H := HA.out
   clear HA
   simp only [api_Hold__c31_____.l0] at H
   by_cases c3 : x8_1 < (l0.length : Int)
   ·rw [if_pos c3] at H
    have c3b0 : decide (x8_1 < (l0.length : Int)) = true := decide_eq_true c3
    clear c3
    by_cases c4 : 0 ≤ x8_1
    case neg => rw [if_neg c4] at H;exact absurd H (by simp)
    rw [if_pos c4] at H
    have c4b0 : decide (0 ≤ x8_1) = true := decide_eq_true c4
    clear c4
    by_cases c5 : x8_1 < (l0.length : Int)
    case neg => rw [if_neg c5] at H;exact absurd H (by simp)
    rw [if_pos c5] at H
    have c5b0 : decide (x8_1 < (l0.length : Int)) = true := decide_eq_true c5
    clear c5
    replace H := Option.bind_eq_some_iff.mp H
    obtain ⟨t132,A60,H⟩ := H
    replace H : (if t132 = true then (some x8_1) else (api_Hold__c31_____.l0 k1 l0 (l0.length : Int) (wrap64 (x8_1 + 1)))) = some r := H
    have A6 := Yd A60
    clear A60
    by_cases c7 : t132 = true
    ·subst c7
     have H1 : (some x8_1) = some r := by rw [if_pos rfl] at H;exact H
     clear H
     have H := H1
     clear H1
     obtain rfl := Option.some.inj H
     have p131 : 0 ≤ (x8_1 : Int) := Y9
     have q131 : x8_1 < (l0.length : Int) := Y9
     obtain ⟨ad131,e131,hx131_0,hx131_1,hx131_2,hx131_3,hx131_4,hx131_5⟩ := at_T26 HR0.out x8_1 p131 q131
     cases e131
     replace hx131_0 := Y10 HB.out hx131_0
     replace hx131_1 := Y10 HB.out hx131_1
     replace hx131_2 := Y10 HB.out hx131_2
     replace hx131_3 := Y10 HB.out hx131_3
     replace hx131_4 := Y10 HB.out hx131_4
     replace hx131_5 := Y10 HB.out hx131_5
     replace p131 := eq_true p131
     replace q131 := eq_true q131
     go_wp2_with (first | (go_at_call 31;(with_reducible refine (override_Check_1_1__b52c35.calls ((rd_T26 l0 x8_1).f0) ((rd_T26 l0 x8_1).f1) ((rd_T26 l0 x8_1).f2) ((rd_T26 l0 x8_1).f3.f0) ((rd_T26 l0 x8_1).f3.f1) ((rd_T26 l0 x8_1).f4) B1_0_ true _ ?side1 A6.out).mono ?_);(case side1 => exact (Y6 BK130.out));rintro e w8 ⟨rfl,hb⟩;have n0_ := Yd (blk_below (g := B1_0_) (o := .cells #[.func (.func 35) #[] #[]] 52 (0,0)) (Y6 BK130.out) hb);have n1_ := Yd (below_step (by first | exact Y4 HB.out GE130.out | exact Y3 HB.out) hb);clear BK130;clear HB;have BK130 := n0_;have HB := n1_;clear n0_ n1_;(try clear hb);(try clear hb2);(try clear hk);(try clear hi)))
     go_ret
     exact ⟨by first | rfl | (simp [errW_none,errW_some] <;> rfl) | (simp [*,errW_none,errW_some] <;> rfl),by repeat (first | (with_reducible first | exact HB.out | apply below_alloc | apply Y15 | apply below_drew1 | refine below_set ?_ GE130.out) | exact HB.out)⟩
    ·replace c7 := Bool.eq_false_iff.mpr c7
     subst c7
     have H1 : (api_Hold__c31_____.l0 k1 l0 (l0.length : Int) (wrap64 (x8_1 + 1))) = some r := by rw [if_neg (show ¬ (false = true) by decide)] at H;exact H
     clear H
     have H := H1
     clear H1
     have H' := Yd H
     clear H
     have p131 : 0 ≤ (x8_1 : Int) := Y9
     have q131 : x8_1 < (l0.length : Int) := Y9
     obtain ⟨ad131,e131,hx131_0,hx131_1,hx131_2,hx131_3,hx131_4,hx131_5⟩ := at_T26 HR0.out x8_1 p131 q131
     cases e131
     replace hx131_0 := Y10 HB.out hx131_0
     replace hx131_1 := Y10 HB.out hx131_1
     replace hx131_2 := Y10 HB.out hx131_2
     replace hx131_3 := Y10 HB.out hx131_3
     replace hx131_4 := Y10 HB.out hx131_4
     replace hx131_5 := Y10 HB.out hx131_5
     replace p131 := eq_true p131
     replace q131 := eq_true q131
     go_wp2_with (first | (go_at_call 31;(with_reducible refine (override_Check_1_1__b52c35.calls ((rd_T26 l0 x8_1).f0) ((rd_T26 l0 x8_1).f1) ((rd_T26 l0 x8_1).f2) ((rd_T26 l0 x8_1).f3.f0) ((rd_T26 l0 x8_1).f3.f1) ((rd_T26 l0 x8_1).f4) B1_0_ false _ ?side1 A6.out).mono ?_);(case side1 => exact (Y6 BK130.out));rintro e w9 ⟨rfl,hb⟩;have n0_ := Yd (blk_below (g := B1_0_) (o := .cells #[.func (.func 35) #[] #[]] 52 (0,0)) (Y6 BK130.out) hb);have n1_ := Yd (below_step (by first | exact Y4 HB.out GE130.out | exact Y3 HB.out) hb);clear BK130;clear HB;have BK130 := n0_;have HB := n1_;clear n0_ n1_;(try clear hb);(try clear hb2);(try clear hk);(try clear hi)))
     go_roundg k1
     case measure => have := HK1.out;omega
     case rel => exact ⟨(wrap64 (x8_1 + 1)),Y12,H',⟨by have := HK1.out;omega⟩,⟨Y6 BK130.out⟩,⟨by repeat (first | (with_reducible first | exact HB.out | apply below_alloc | apply Y15 | apply below_drew1 | refine below_set ?_ GE130.out) | exact HB.out)⟩⟩
   ·rw [if_neg c3] at H
    have c3b0 : decide (x8_1 < (l0.length : Int)) = false := decide_eq_false c3
    clear c3
    obtain rfl := Option.some.inj H
    go_wp2
    go_ret
    exact ⟨by first | rfl | (simp [errW_none,errW_some] <;> rfl) | (simp [*,errW_none,errW_some] <;> rfl),by repeat (first | (with_reducible first | exact HB.out | apply below_alloc | apply Y15 | apply below_drew1 | refine below_set ?_ GE130.out) | exact HB.out)⟩
def api_Hold__c31____.f (k : Nat) (l0 : List (S26))  : Option (Bool) := (api_Hold__c31_____.f k l0).bind fun t134 => (some (decide (t134 ≥ 0)))
theorem api_Hold__c31____.mono : ∀ a0 k,LeO (api_Hold__c31____.f k a0) (api_Hold__c31____.f (k + 1) a0) := by
 intro a0 k
 unfold api_Hold__c31____.f
 repeat' first
   | (with_reducible exact api_Hold__c31_____.mono _ _)
   | (with_reducible exact LeO.refl _)
   | (with_reducible exact LeO.none _)
   | (with_reducible refine LeO.ite ?_ ?_)
   | (with_reducible refine LeO.bind ?_ (fun _ => ?_))
   | exact api_Hold__c31_____.mono _ _
   | exact LeO.none _
   | refine LeO.ite ?_ ?_
   | refine LeO.bind ?_ (fun _ => ?_)
set_option maxHeartbeats 100000000 in
set_option maxRecDepth 100000 in
theorem api_Hold__c31____.calls (k : Nat) (A0 : Option Addr) (c0 : Nat) (l0 : List (S26)) (B1_0_ : Nat)  (r : Bool) (w : World) (hr0 : Kd.C k26 w A0 l0.length l0) (hc0 : l0.length ≤ c0) (hx1_0_ : w.heap[B1_0_]? = some (.cells #[.func (.func 35) #[] #[]] 52 (0,0))) (h : api_Hold__c31____.f k l0 = some r) :
  Calls Try.prog 30 #[.slice A0 l0.length c0,.func (.func 31) #[] #[.pointer (some ⟨B1_0_,0,none⟩)]] w fun e w' => e = .returned (.bool r) ∧ Below w.heap.size w w' := by
 have HR0 := Yd hr0
 have HC0 := Yd hc0
 clear hr0 hc0
 have BK133 := Yd hx1_0_
 clear hx1_0_
 have HB := Yd (Below.refl w.heap.size w)
 have H : ((api_Hold__c31_____.f k l0).bind fun t134 => (some (decide (t134 ≥ 0)))) = some r := h
 clear h
 replace H := Option.bind_eq_some_iff.mp H
 obtain ⟨t134,A30,H⟩ := H
 replace H : (some (decide (t134 ≥ 0))) = some r := H
 have A3 := Yd A30
 clear A30
 obtain rfl := Option.some.inj H
 go_enter Try.func30,Try.ntmps30
 go_wp2_with (first | ((with_reducible refine gate_callee (f := 39) rfl ?_);refine goesL_ (some 7) rfl rfl Try.func39 (by kernel_rfl) rfl #[.slice A0 l0.length c0,.func (.func 31) #[] #[.pointer (some ⟨B1_0_,0,none⟩)]] rfl Y8 ?_;(with_reducible refine (api_Hold__c31_____.calls k _ _ l0 B1_0_ t134 _ ?side1 ?side2 ?side3 A3.out).mono ?_);(case side1 => repeat (first | exact HR0.out | (with_reducible refine Kd.C_alloc ?_ _) | (with_reducible refine Kd.C_drewN ?_ _) | (with_reducible refine Kd.C_drew ?_)));(case side2 => exact HC0.out);(case side3 => exact (Y6 BK133.out));rintro e w4 ⟨rfl,hb⟩;refine ⟨_,rfl,?_⟩;have n0_ := Yd (blk_below (g := B1_0_) (o := .cells #[.func (.func 35) #[] #[]] 52 (0,0)) (Y6 BK133.out) hb);have n1_ := Yd (below_step (by first | exact Y4 HB.out GE133.out | exact Y3 HB.out) hb);clear BK133;clear HB;have BK133 := n0_;have HB := n1_;clear n0_ n1_;(try clear hb);(try clear hb2);(try clear hk);(try clear hi)))
 go_ret
 exact ⟨by first | rfl | (simp [errW_none,errW_some] <;> rfl) | (simp [*,errW_none,errW_some] <;> rfl),by repeat (first | (with_reducible first | exact HB.out | apply below_alloc | apply Y15 | apply below_drew1 | refine below_set ?_ GE133.out) | exact HB.out)⟩
def override_Check_1__c35.f (k : Nat)  (l1_0 : List (S26)) : Option (Bool) := (api_Hold__c31____.f k l1_0).bind fun t137 => (some (!t137))
theorem override_Check_1__c35.mono : ∀ a0 k,LeO (override_Check_1__c35.f k a0) (override_Check_1__c35.f (k + 1) a0) := by
 intro a0 k
 unfold override_Check_1__c35.f
 repeat' first
   | (with_reducible exact api_Hold__c31____.mono _ _)
   | (with_reducible exact LeO.refl _)
   | (with_reducible exact LeO.none _)
   | (with_reducible refine LeO.ite ?_ ?_)
   | (with_reducible refine LeO.bind ?_ (fun _ => ?_))
   | exact api_Hold__c31____.mono _ _
   | exact LeO.none _
   | refine LeO.ite ?_ ?_
   | refine LeO.bind ?_ (fun _ => ?_)
set_option maxHeartbeats 100000000 in
set_option maxRecDepth 100000 in
theorem override_Check_1__c35.calls (k : Nat)  (B1_0_ : Nat) (A1_0 : Option Addr) (c1_0 : Nat) (l1_0 : List (S26)) (r : Bool) (w : World) (hr1_0 : Kd.C k26 w A1_0 l1_0.length l1_0) (hc1_0 : l1_0.length ≤ c1_0) (hx1_0_ : w.heap[B1_0_]? = some (.cells #[.slice A1_0 l1_0.length c1_0] 22 (0,0))) (h : override_Check_1__c35.f k l1_0 = some r) :
  Calls Try.prog 29 #[.func (.func 35) #[] #[],.pointer (some ⟨B1_0_,0,none⟩)] w fun e w' => e = .returned (.bool r) ∧ Below w.heap.size w w' := by
 have HR1_0 := Yd hr1_0
 have HC1_0 := Yd hc1_0
 clear hr1_0 hc1_0
 have BK135 := Yd hx1_0_
 clear hx1_0_
 have HB := Yd (Below.refl w.heap.size w)
 have H : ((api_Hold__c31____.f k l1_0).bind fun t137 => (some (!t137))) = some r := h
 clear h
 replace H := Option.bind_eq_some_iff.mp H
 obtain ⟨t137,A30,H⟩ := H
 replace H : (some (!t137)) = some r := H
 have A3 := Yd A30
 clear A30
 obtain rfl := Option.some.inj H
 go_enter Try.func29,Try.ntmps29
 go_wp2_with (first | ((with_reducible refine gate_dst (N := 2) rfl ?_);refine box_event ?hg (N := 2) ?hd (cs := #[.func (.func 35) #[] #[]]) (t := 52) ?hr ?_;(case hd => rfl);(case hg => rfl);(case hr => first | (go_simp;done) | (go_simp;rfl));intro gb136 hg w4 hbox hb;have n0_ := Yd (blk_below (g := B1_0_) (o := .cells #[.slice A1_0 l1_0.length c1_0] 22 (0,0)) (Y6 BK135.out) hb);have n1_ := Yd (below_step (by first | exact Y4 HB.out GE135.out | exact Y3 HB.out) hb);have n2_ := Yd (hbox);have n3_ := Yd ((by rw [hg];exact (below_size (by first | exact Y4 HB.out GE135.out | exact Y3 HB.out)) : w.heap.size ≤ gb136));have n4_ := Yd ((by rw [hg];exact (below_size (by first | exact Y4 HB.out GE135.out | exact Y3 HB.out)) : w.heap.size ≤ gb136));have n5_ := Yd ((by rw [hg];exact Nat.ne_of_lt (blk_lt (g := B1_0_) (o := .cells #[.slice A1_0 l1_0.length c1_0] 22 (0,0)) (Y6 BK135.out)) : B1_0_ ≠ gb136));have n6_ := Yd ((by rw [hg];exact Nat.ne_of_gt (blk_lt (g := B1_0_) (o := .cells #[.slice A1_0 l1_0.length c1_0] 22 (0,0)) (Y6 BK135.out)) : gb136 ≠ B1_0_));clear BK135;clear HB;have BK135 := n0_;have HB := n1_;have BK136 := n2_;have GW136 := n3_;have GE136 := n4_;have NB135_136 := n5_;have NB136_135 := n6_;clear n0_ n1_ n2_ n3_ n4_ n5_ n6_;clear hb hbox hg;have hnb5 := NB135_136.out;have hnc5 := NB136_135.out;have hcz6_0 : w4.cell? ⟨B1_0_,0,none⟩ = some (.slice A1_0 l1_0.length c1_0) := (blk_cell BK135.out 0).trans rfl;have hfz6_0 := blk_frozen BK135.out 0) | ((with_reducible refine gate_callee (f := 30) rfl ?_);refine goesL_ (some 6) rfl rfl Try.func30 (by kernel_rfl) rfl #[.slice A1_0 l1_0.length c1_0,.func (.func 31) #[] #[.pointer (some ⟨gb136,0,none⟩)]] rfl Y8 ?_;(with_reducible refine (api_Hold__c31____.calls k _ _ l1_0 gb136 t137 _ ?side1 ?side2 ?side3 A3.out).mono ?_);(case side1 => exact Y11 (Kd.C_below HR1_0.out HB.out));(case side2 => exact HC1_0.out);(case side3 => exact (Y6 BK136.out));rintro e w7 ⟨rfl,hb⟩;refine ⟨_,rfl,?_⟩;have n0_ := Yd (blk_below (g := B1_0_) (o := .cells #[.slice A1_0 l1_0.length c1_0] 22 (0,0)) (Y6 BK135.out) hb);have n1_ := Yd (blk_below (g := gb136) (o := .cells #[.func (.func 35) #[] #[]] 52 (0,0)) (Y6 BK136.out) hb);have n2_ := Yd (below_step (by repeat (first | (with_reducible first | exact HB.out | apply below_alloc | apply Y15 | apply below_drew1 | refine below_set ?_ GE135.out | refine below_set ?_ GE136.out) | exact HB.out)) hb);clear BK135;clear BK136;clear HB;have BK135 := n0_;have BK136 := n1_;have HB := n2_;clear n0_ n1_ n2_;(try clear hb);(try clear hb2);(try clear hk);(try clear hi)))
 go_ret
 exact ⟨by first | rfl | (simp [errW_none,errW_some] <;> rfl) | (simp [*,errW_none,errW_some] <;> rfl),by repeat (first | (with_reducible first | exact HB.out | apply below_alloc | apply Y15 | apply below_drew1 | refine below_set ?_ GE135.out | refine below_set ?_ GE136.out) | exact HB.out)⟩
def override_Check_5_.f (a0_0 : ByteArray) (a0_1 : Int) (a0_2 : Int) (a0_3 : Int) (a0_4 : Int) (a0_5 : Int) (a1_0 : ByteArray) (a1_1 : Int) (a1_2 : Int) (a1_3 : Int) (a1_4 : Int) (a1_5 : Int) : Option (Bool) := some (a0_5 == a1_5)
set_option maxHeartbeats 100000000 in
set_option maxRecDepth 100000 in
theorem override_Check_5_.calls (a0_0 : ByteArray) (a0_1 : Int) (a0_2 : Int) (a0_3 : Int) (a0_4 : Int) (a0_5 : Int) (B1_0_ : Nat) (a1_0 : ByteArray) (a1_1 : Int) (a1_2 : Int) (a1_3 : Int) (a1_4 : Int) (a1_5 : Int) (r : Bool) (w : World) (hx1_0_ : w.heap[B1_0_]? = some (.cells #[.string a1_0,.int .i64 a1_1,.int .i64 a1_2,.int .i64 a1_3,.int .i64 a1_4,.int .i64 a1_5] 26 (0,0))) (h : override_Check_5_.f a0_0 a0_1 a0_2 a0_3 a0_4 a0_5 a1_0 a1_1 a1_2 a1_3 a1_4 a1_5 = some r) :
  Calls Try.prog 36 #[.agg #[.string a0_0,.int .i64 a0_1,.int .i64 a0_2,.int .i64 a0_3,.int .i64 a0_4,.int .i64 a0_5],.pointer (some ⟨B1_0_,0,none⟩)] w fun e w' => e = .returned (.bool r) ∧ Below w.heap.size w w' := by
 have hu26 := Try.underlying26
 have BK138 := Yd hx1_0_
 clear hx1_0_
 have HB := Yd (Below.refl w.heap.size w)
 have H : (some (a0_5 == a1_5)) = some r := h
 clear h
 obtain rfl := Option.some.inj H
 go_enter Try.func36,Try.ntmps36
 go_wp2_with (first | ((with_reducible refine gate_dst (N := 2) rfl ?_);refine box_event ?hg (N := 2) ?hd (cs := #[.string a0_0,.int .i64 a0_1,.int .i64 a0_2,.int .i64 a0_3,.int .i64 a0_4,.int .i64 a0_5]) (t := 26) ?hr ?_;(case hd => rfl);(case hg => rfl);(case hr => first | (go_simp;done) | (go_simp;rfl));intro gb139 hg w3 hbox hb;have n0_ := Yd (blk_below (g := B1_0_) (o := .cells #[.string a1_0,.int .i64 a1_1,.int .i64 a1_2,.int .i64 a1_3,.int .i64 a1_4,.int .i64 a1_5] 26 (0,0)) (Y6 BK138.out) hb);have n1_ := Yd (below_step (by first | exact Y4 HB.out GE138.out | exact Y3 HB.out) hb);have n2_ := Yd (hbox);have n3_ := Yd ((by rw [hg];exact (below_size (by first | exact Y4 HB.out GE138.out | exact Y3 HB.out)) : w.heap.size ≤ gb139));have n4_ := Yd ((by rw [hg];exact (below_size (by first | exact Y4 HB.out GE138.out | exact Y3 HB.out)) : w.heap.size ≤ gb139));have n5_ := Yd ((by rw [hg];exact Nat.ne_of_lt (blk_lt (g := B1_0_) (o := .cells #[.string a1_0,.int .i64 a1_1,.int .i64 a1_2,.int .i64 a1_3,.int .i64 a1_4,.int .i64 a1_5] 26 (0,0)) (Y6 BK138.out)) : B1_0_ ≠ gb139));have n6_ := Yd ((by rw [hg];exact Nat.ne_of_gt (blk_lt (g := B1_0_) (o := .cells #[.string a1_0,.int .i64 a1_1,.int .i64 a1_2,.int .i64 a1_3,.int .i64 a1_4,.int .i64 a1_5] 26 (0,0)) (Y6 BK138.out)) : gb139 ≠ B1_0_));clear BK138;clear HB;have BK138 := n0_;have HB := n1_;have BK139 := n2_;have GW139 := n3_;have GE139 := n4_;have NB138_139 := n5_;have NB139_138 := n6_;clear n0_ n1_ n2_ n3_ n4_ n5_ n6_;clear hb hbox hg;have hnb4 := NB139_138.out;have hnc4 := NB138_139.out;have hcz5_0 : w3.cell? ⟨gb139,0,none⟩ = some (.string a0_0) := (blk_cell BK139.out 0).trans rfl;have hcz5_1 : w3.cell? ⟨gb139,1,none⟩ = some (.int .i64 a0_1) := (blk_cell BK139.out 1).trans rfl;have hcz5_2 : w3.cell? ⟨gb139,2,none⟩ = some (.int .i64 a0_2) := (blk_cell BK139.out 2).trans rfl;have hcz5_3 : w3.cell? ⟨gb139,3,none⟩ = some (.int .i64 a0_3) := (blk_cell BK139.out 3).trans rfl;have hcz5_4 : w3.cell? ⟨gb139,4,none⟩ = some (.int .i64 a0_4) := (blk_cell BK139.out 4).trans rfl;have hcz5_5 : w3.cell? ⟨gb139,5,none⟩ = some (.int .i64 a0_5) := (blk_cell BK139.out 5).trans rfl;have hfz5_0 := blk_frozen BK139.out 0;have hfz5_1 := blk_frozen BK139.out 1;have hfz5_2 := blk_frozen BK139.out 2;have hfz5_3 := blk_frozen BK139.out 3;have hfz5_4 := blk_frozen BK139.out 4;have hfz5_5 := blk_frozen BK139.out 5;have hcz6_0 : w3.cell? ⟨B1_0_,0,none⟩ = some (.string a1_0) := (blk_cell BK138.out 0).trans rfl;have hcz6_1 : w3.cell? ⟨B1_0_,1,none⟩ = some (.int .i64 a1_1) := (blk_cell BK138.out 1).trans rfl;have hcz6_2 : w3.cell? ⟨B1_0_,2,none⟩ = some (.int .i64 a1_2) := (blk_cell BK138.out 2).trans rfl;have hcz6_3 : w3.cell? ⟨B1_0_,3,none⟩ = some (.int .i64 a1_3) := (blk_cell BK138.out 3).trans rfl;have hcz6_4 : w3.cell? ⟨B1_0_,4,none⟩ = some (.int .i64 a1_4) := (blk_cell BK138.out 4).trans rfl;have hcz6_5 : w3.cell? ⟨B1_0_,5,none⟩ = some (.int .i64 a1_5) := (blk_cell BK138.out 5).trans rfl;have hfz6_0 := blk_frozen BK138.out 0;have hfz6_1 := blk_frozen BK138.out 1;have hfz6_2 := blk_frozen BK138.out 2;have hfz6_3 := blk_frozen BK138.out 3;have hfz6_4 := blk_frozen BK138.out 4;have hfz6_5 := blk_frozen BK138.out 5))
 go_ret
 exact ⟨by first | rfl | (simp [errW_none,errW_some] <;> rfl) | (simp [*,errW_none,errW_some] <;> rfl),by repeat (first | (with_reducible first | exact HB.out | apply below_alloc | apply Y15 | apply below_drew1 | refine below_set ?_ GE138.out | refine below_set ?_ GE139.out) | exact HB.out)⟩
def api_Hold__c36_.l0 : Nat → List (S26) → Int → Int → ByteArray → Int → Int → Int → Int → Int → Option (Int)
 | 0,_,_,_,_,_,_,_,_,_ => none
 | k + 1,x0,x7,x8,x141000,x141001,x141002,x141003,x141004,x141005 => if x8 < x7 then (if 0 ≤ x8 then (if x8 < (x0.length : Int) then ((override_Check_5_.f ((rd_T26 x0 x8).f0) ((rd_T26 x0 x8).f1) ((rd_T26 x0 x8).f2) ((rd_T26 x0 x8).f3.f0) ((rd_T26 x0 x8).f3.f1) ((rd_T26 x0 x8).f4) x141000 x141001 x141002 x141003 x141004 x141005).bind fun t142 => (if t142 = true then (some x8) else (api_Hold__c36_.l0 k x0 x7 (wrap64 (x8 + 1)) x141000 x141001 x141002 x141003 x141004 x141005))) else (none)) else (none)) else (some (-1))
def api_Hold__c36_.f (k : Nat) (l0 : List (S26)) (a1_0 : ByteArray) (a1_1 : Int) (a1_2 : Int) (a1_3 : Int) (a1_4 : Int) (a1_5 : Int) : Option (Int) := api_Hold__c36_.l0 k l0 (l0.length : Int) 0 a1_0 a1_1 a1_2 a1_3 a1_4 a1_5
theorem api_Hold__c36_.mono_l : ∀ k,(∀ y0 y1 y2 y3 y4 y5 y6 y7 y8,LeO (api_Hold__c36_.l0 k y0 y1 y2 y3 y4 y5 y6 y7 y8) (api_Hold__c36_.l0 (k + 1) y0 y1 y2 y3 y4 y5 y6 y7 y8))
 | 0 => fun _ _ _ _ _ _ _ _ _ r h => by simp [api_Hold__c36_.l0] at h
 | k + 1 => by
  have ih0 := api_Hold__c36_.mono_l k
  ·intro y0 y1 y2 y3 y4 y5 y6 y7 y8
   unfold api_Hold__c36_.l0
   repeat' first
   | (with_reducible exact ih0 _ _ _ _ _ _ _ _ _)
   | (with_reducible exact LeO.refl _)
   | (with_reducible exact LeO.none _)
   | (with_reducible refine LeO.ite ?_ ?_)
   | (with_reducible refine LeO.bind ?_ (fun _ => ?_))
   | exact ih0 _ _ _ _ _ _ _ _ _
   | exact LeO.none _
   | refine LeO.ite ?_ ?_
   | refine LeO.bind ?_ (fun _ => ?_)
theorem api_Hold__c36_.mono : ∀ a0 a1 a2 a3 a4 a5 a6 k,LeO (api_Hold__c36_.f k a0 a1 a2 a3 a4 a5 a6) (api_Hold__c36_.f (k + 1) a0 a1 a2 a3 a4 a5 a6) := by
 intro a0 a1 a2 a3 a4 a5 a6 k
 have ih0 := api_Hold__c36_.mono_l k
 unfold api_Hold__c36_.f
 repeat' first
   | (with_reducible exact ih0 _ _ _ _ _ _ _ _ _)
   | (with_reducible exact LeO.refl _)
   | (with_reducible exact LeO.none _)
   | (with_reducible refine LeO.ite ?_ ?_)
   | (with_reducible refine LeO.bind ?_ (fun _ => ?_))
   | exact ih0 _ _ _ _ _ _ _ _ _
   | exact LeO.none _
   | refine LeO.ite ?_ ?_
   | refine LeO.bind ?_ (fun _ => ?_)
set_option maxHeartbeats 100000000 in
set_option maxRecDepth 100000 in
theorem api_Hold__c36_.calls (k : Nat) (A0 : Option Addr) (c0 : Nat) (l0 : List (S26)) (B1_0_ : Nat) (a1_0 : ByteArray) (a1_1 : Int) (a1_2 : Int) (a1_3 : Int) (a1_4 : Int) (a1_5 : Int) (r : Int) (w : World) (hr0 : Kd.C k26 w A0 l0.length l0) (hc0 : l0.length ≤ c0) (hx1_0_ : w.heap[B1_0_]? = some (.cells #[.string a1_0,.int .i64 a1_1,.int .i64 a1_2,.int .i64 a1_3,.int .i64 a1_4,.int .i64 a1_5] 26 (0,0))) (h : api_Hold__c36_.f k l0 a1_0 a1_1 a1_2 a1_3 a1_4 a1_5 = some r) :
  Calls Try.prog 39 #[.slice A0 l0.length c0,.func (.func 36) #[] #[.pointer (some ⟨B1_0_,0,none⟩)]] w fun e w' => e = .returned (.int .i64 r) ∧ Below w.heap.size w w' := by
 have hu26 := Try.underlying26
 have HR0 := Yd hr0
 have HC0 := Yd hc0
 clear hr0 hc0
 have BK140 := Yd hx1_0_
 clear hx1_0_
 have HB := Yd (Below.refl w.heap.size w)
 have H : (api_Hold__c36_.l0 k l0 (l0.length : Int) 0 a1_0 a1_1 a1_2 a1_3 a1_4 a1_5) = some r := h
 clear h
 have H' := Yd H
 clear H
 go_enter Try.func39,Try.ntmps39
 go_wp2
 go_loopg [8] k (fun kq v8 w' => ∃ (x8_1 : Int),v8 = .int .i64 x8_1 ∧ Aside0 (api_Hold__c36_.l0 kq l0 (l0.length : Int) x8_1 a1_0 a1_1 a1_2 a1_3 a1_4 a1_5 = some r) ∧ Aside0 (kq ≤ k) ∧ Aside0 (w'.heap[B1_0_]? = some (.cells #[.string a1_0,.int .i64 a1_1,.int .i64 a1_2,.int .i64 a1_3,.int .i64 a1_4,.int .i64 a1_5] 26 (0,0))) ∧ Aside0 (Below w.heap.size w w'))
 case atStart => exact ⟨(0),Y12,H',⟨Nat.le_refl _⟩,⟨Y6 BK140.out⟩,⟨by repeat (first | (with_reducible first | exact HB.out | apply below_alloc | apply Y15 | apply below_drew1 | refine below_set ?_ GE140.out) | exact HB.out)⟩⟩
 case round =>
  clear H'
  try clear hx1
  try clear p2
  obtain ⟨x8_1,rfl,HA,HK1,BK140,HB⟩ := hrel
  cases gk with
  | zero => exact absurd HA.out (by simp [api_Hold__c36_.l0])
  | succ k1 =>
   have H := HA.out
   clear HA
   simp only [api_Hold__c36_.l0] at H
   by_cases c3 : x8_1 < (l0.length : Int)
   ·rw [if_pos c3] at H
    have c3b0 : decide (x8_1 < (l0.length : Int)) = true := decide_eq_true c3
    clear c3
    by_cases c4 : 0 ≤ x8_1
    case neg => rw [if_neg c4] at H;exact absurd H (by simp)
    rw [if_pos c4] at H
    have c4b0 : decide (0 ≤ x8_1) = true := decide_eq_true c4
    clear c4
    by_cases c5 : x8_1 < (l0.length : Int)
    case neg => rw [if_neg c5] at H;exact absurd H (by simp)
    rw [if_pos c5] at H
    have c5b0 : decide (x8_1 < (l0.length : Int)) = true := decide_eq_true c5
    clear c5
    replace H := Option.bind_eq_some_iff.mp H
    obtain ⟨t142,A60,H⟩ := H
    replace H : (if t142 = true then (some x8_1) else (api_Hold__c36_.l0 k1 l0 (l0.length : Int) (wrap64 (x8_1 + 1)) a1_0 a1_1 a1_2 a1_3 a1_4 a1_5)) = some r := H
    have A6 := Yd A60
    clear A60
    by_cases c7 : t142 = true
    ·subst c7
     have H1 : (some x8_1) = some r := by rw [if_pos rfl] at H;exact H
     clear H
     have H := H1
     clear H1
     obtain rfl := Option.some.inj H
     have p141 : 0 ≤ (x8_1 : Int) := Y9
     have q141 : x8_1 < (l0.length : Int) := Y9
     obtain ⟨ad141,e141,hx141_0,hx141_1,hx141_2,hx141_3,hx141_4,hx141_5⟩ := at_T26 HR0.out x8_1 p141 q141
     cases e141
     replace hx141_0 := Y10 HB.out hx141_0
     replace hx141_1 := Y10 HB.out hx141_1
     replace hx141_2 := Y10 HB.out hx141_2
     replace hx141_3 := Y10 HB.out hx141_3
     replace hx141_4 := Y10 HB.out hx141_4
     replace hx141_5 := Y10 HB.out hx141_5
     replace p141 := eq_true p141
     replace q141 := eq_true q141
     go_wp2_with (first | (go_at_call 36;(with_reducible refine (override_Check_5_.calls ((rd_T26 l0 x8_1).f0) ((rd_T26 l0 x8_1).f1) ((rd_T26 l0 x8_1).f2) ((rd_T26 l0 x8_1).f3.f0) ((rd_T26 l0 x8_1).f3.f1) ((rd_T26 l0 x8_1).f4) B1_0_ a1_0 a1_1 a1_2 a1_3 a1_4 a1_5 true _ ?side1 A6.out).mono ?_);(case side1 => exact (Y6 BK140.out));rintro e w8 ⟨rfl,hb⟩;have n0_ := Yd (blk_below (g := B1_0_) (o := .cells #[.string a1_0,.int .i64 a1_1,.int .i64 a1_2,.int .i64 a1_3,.int .i64 a1_4,.int .i64 a1_5] 26 (0,0)) (Y6 BK140.out) hb);have n1_ := Yd (below_step (by first | exact Y4 HB.out GE140.out | exact Y3 HB.out) hb);clear BK140;clear HB;have BK140 := n0_;have HB := n1_;clear n0_ n1_;(try clear hb);(try clear hb2);(try clear hk);(try clear hi)))
     go_ret
     exact ⟨by first | rfl | (simp [errW_none,errW_some] <;> rfl) | (simp [*,errW_none,errW_some] <;> rfl),by repeat (first | (with_reducible first | exact HB.out | apply below_alloc | apply Y15 | apply below_drew1 | refine below_set ?_ GE140.out) | exact HB.out)⟩
    ·replace c7 := Bool.eq_false_iff.mpr c7
     subst c7
     have H1 : (api_Hold__c36_.l0 k1 l0 (l0.length : Int) (wrap64 (x8_1 + 1)) a1_0 a1_1 a1_2 a1_3 a1_4 a1_5) = some r := by rw [if_neg (show ¬ (false = true) by decide)] at H;exact H
     clear H
     have H := H1
     clear H1
     have H' := Yd H
     clear H
     have p141 : 0 ≤ (x8_1 : Int) := Y9
     have q141 : x8_1 < (l0.length : Int) := Y9
     obtain ⟨ad141,e141,hx141_0,hx141_1,hx141_2,hx141_3,hx141_4,hx141_5⟩ := at_T26 HR0.out x8_1 p141 q141
     cases e141
     replace hx141_0 := Y10 HB.out hx141_0
     replace hx141_1 := Y10 HB.out hx141_1
     replace hx141_2 := Y10 HB.out hx141_2
     replace hx141_3 := Y10 HB.out hx141_3
     replace hx141_4 := Y10 HB.out hx141_4
     replace hx141_5 := Y10 HB.out hx141_5
     replace p141 := eq_true p141
     replace q141 := eq_true q141
     go_wp2_with (first | (go_at_call 36;(with_reducible refine (override_Check_5_.calls ((rd_T26 l0 x8_1).f0) ((rd_T26 l0 x8_1).f1) ((rd_T26 l0 x8_1).f2) ((rd_T26 l0 x8_1).f3.f0) ((rd_T26 l0 x8_1).f3.f1) ((rd_T26 l0 x8_1).f4) B1_0_ a1_0 a1_1 a1_2 a1_3 a1_4 a1_5 false _ ?side1 A6.out).mono ?_);(case side1 => exact (Y6 BK140.out));rintro e w9 ⟨rfl,hb⟩;have n0_ := Yd (blk_below (g := B1_0_) (o := .cells #[.string a1_0,.int .i64 a1_1,.int .i64 a1_2,.int .i64 a1_3,.int .i64 a1_4,.int .i64 a1_5] 26 (0,0)) (Y6 BK140.out) hb);have n1_ := Yd (below_step (by first | exact Y4 HB.out GE140.out | exact Y3 HB.out) hb);clear BK140;clear HB;have BK140 := n0_;have HB := n1_;clear n0_ n1_;(try clear hb);(try clear hb2);(try clear hk);(try clear hi)))
     go_roundg k1
     case measure => have := HK1.out;omega
     case rel => exact ⟨(wrap64 (x8_1 + 1)),Y12,H',⟨by have := HK1.out;omega⟩,⟨Y6 BK140.out⟩,⟨by repeat (first | (with_reducible first | exact HB.out | apply below_alloc | apply Y15 | apply below_drew1 | refine below_set ?_ GE140.out) | exact HB.out)⟩⟩
   ·rw [if_neg c3] at H
    have c3b0 : decide (x8_1 < (l0.length : Int)) = false := decide_eq_false c3
    clear c3
    obtain rfl := Option.some.inj H
    go_wp2
    go_ret
    exact ⟨by first | rfl | (simp [errW_none,errW_some] <;> rfl) | (simp [*,errW_none,errW_some] <;> rfl),by repeat (first | (with_reducible first | exact HB.out | apply below_alloc | apply Y15 | apply below_drew1 | refine below_set ?_ GE140.out) | exact HB.out)⟩
def api_Hold__c36.f (k : Nat) (l0 : List (S26)) (a1_0 : ByteArray) (a1_1 : Int) (a1_2 : Int) (a1_3 : Int) (a1_4 : Int) (a1_5 : Int) : Option (Bool) := (api_Hold__c36_.f k l0 a1_0 a1_1 a1_2 a1_3 a1_4 a1_5).bind fun t144 => (some (decide (t144 ≥ 0)))
theorem api_Hold__c36.mono : ∀ a0 a1 a2 a3 a4 a5 a6 k,LeO (api_Hold__c36.f k a0 a1 a2 a3 a4 a5 a6) (api_Hold__c36.f (k + 1) a0 a1 a2 a3 a4 a5 a6) := by
 intro a0 a1 a2 a3 a4 a5 a6 k
 unfold api_Hold__c36.f
 repeat' first
   | (with_reducible exact api_Hold__c36_.mono _ _ _ _ _ _ _ _)
   | (with_reducible exact LeO.refl _)
   | (with_reducible exact LeO.none _)
   | (with_reducible refine LeO.ite ?_ ?_)
   | (with_reducible refine LeO.bind ?_ (fun _ => ?_))
   | exact api_Hold__c36_.mono _ _ _ _ _ _ _ _
   | exact LeO.none _
   | refine LeO.ite ?_ ?_
   | refine LeO.bind ?_ (fun _ => ?_)
set_option maxHeartbeats 100000000 in
set_option maxRecDepth 100000 in
theorem api_Hold__c36.calls (k : Nat) (A0 : Option Addr) (c0 : Nat) (l0 : List (S26)) (B1_0_ : Nat) (a1_0 : ByteArray) (a1_1 : Int) (a1_2 : Int) (a1_3 : Int) (a1_4 : Int) (a1_5 : Int) (r : Bool) (w : World) (hr0 : Kd.C k26 w A0 l0.length l0) (hc0 : l0.length ≤ c0) (hx1_0_ : w.heap[B1_0_]? = some (.cells #[.string a1_0,.int .i64 a1_1,.int .i64 a1_2,.int .i64 a1_3,.int .i64 a1_4,.int .i64 a1_5] 26 (0,0))) (h : api_Hold__c36.f k l0 a1_0 a1_1 a1_2 a1_3 a1_4 a1_5 = some r) :
  Calls Try.prog 30 #[.slice A0 l0.length c0,.func (.func 36) #[] #[.pointer (some ⟨B1_0_,0,none⟩)]] w fun e w' => e = .returned (.bool r) ∧ Below w.heap.size w w' := by
 have HR0 := Yd hr0
 have HC0 := Yd hc0
 clear hr0 hc0
 have BK143 := Yd hx1_0_
 clear hx1_0_
 have HB := Yd (Below.refl w.heap.size w)
 have H : ((api_Hold__c36_.f k l0 a1_0 a1_1 a1_2 a1_3 a1_4 a1_5).bind fun t144 => (some (decide (t144 ≥ 0)))) = some r := h
 clear h
 replace H := Option.bind_eq_some_iff.mp H
 obtain ⟨t144,A30,H⟩ := H
 replace H : (some (decide (t144 ≥ 0))) = some r := H
 have A3 := Yd A30
 clear A30
 obtain rfl := Option.some.inj H
 go_enter Try.func30,Try.ntmps30
 go_wp2_with (first | ((with_reducible refine gate_callee (f := 39) rfl ?_);refine goesL_ (some 7) rfl rfl Try.func39 (by kernel_rfl) rfl #[.slice A0 l0.length c0,.func (.func 36) #[] #[.pointer (some ⟨B1_0_,0,none⟩)]] rfl Y8 ?_;(with_reducible refine (api_Hold__c36_.calls k _ _ l0 B1_0_ a1_0 a1_1 a1_2 a1_3 a1_4 a1_5 t144 _ ?side1 ?side2 ?side3 A3.out).mono ?_);(case side1 => repeat (first | exact HR0.out | (with_reducible refine Kd.C_alloc ?_ _) | (with_reducible refine Kd.C_drewN ?_ _) | (with_reducible refine Kd.C_drew ?_)));(case side2 => exact HC0.out);(case side3 => exact (Y6 BK143.out));rintro e w4 ⟨rfl,hb⟩;refine ⟨_,rfl,?_⟩;have n0_ := Yd (blk_below (g := B1_0_) (o := .cells #[.string a1_0,.int .i64 a1_1,.int .i64 a1_2,.int .i64 a1_3,.int .i64 a1_4,.int .i64 a1_5] 26 (0,0)) (Y6 BK143.out) hb);have n1_ := Yd (below_step (by first | exact Y4 HB.out GE143.out | exact Y3 HB.out) hb);clear BK143;clear HB;have BK143 := n0_;have HB := n1_;clear n0_ n1_;(try clear hb);(try clear hb2);(try clear hk);(try clear hi)))
 go_ret
 exact ⟨by first | rfl | (simp [errW_none,errW_some] <;> rfl) | (simp [*,errW_none,errW_some] <;> rfl),by repeat (first | (with_reducible first | exact HB.out | apply below_alloc | apply Y15 | apply below_drew1 | refine below_set ?_ GE143.out) | exact HB.out)⟩
end Go.Proofs.Ytaoicdkjjjlmeaa.PD34
namespace Go.Proofs.Ytaoicdkjjjlmeaa.PD34
open Go.RowKit Go.Proofs.YtaoicdkjjjlmeaaW.PrintWords Go.Proofs.YtaoicdkjjjlmeaaW.PrintLast Go.Proofs.YtaoicdkjjjlmeaaW.PrintMore
attribute [local go_sem] max2_int min2_int max_two min_two max_three min_three max_four min_four
mutual
def override_Check.l0 : Nat → List (S26) → Int → Int → List (S26) → Option (Int)
 | 0,_,_,_,_ => none
 | k + 1,x19,x20,x21,x146000 => if x21 < x20 then (if 0 ≤ x21 then (if x21 < (x19.length : Int) then (if x21 > 0 then (if 0 ≤ (wrap64 (x21 - 1)) then (if (wrap64 (x21 - 1)) < (x146000.length : Int) then (if ((Op.bytesLess (((rd_T26 x146000 (wrap64 (x21 - 1))).f0).toList) (((rd_T26 x19 x21).f0).toList)) = true) then (if x21 ≤ (x146000.length : Int) then ((api_Hold__c36.f k (x146000.take (x21 : Int).toNat) ((rd_T26 x19 x21).f0) ((rd_T26 x19 x21).f1) ((rd_T26 x19 x21).f2) ((rd_T26 x19 x21).f3.f0) ((rd_T26 x19 x21).f3.f1) ((rd_T26 x19 x21).f4)).bind fun t156 => (override_Check.j1 k x19 x20 x21 t156 x146000)) else (none)) else (override_Check.j1 k x19 x20 x21 true x146000)) else (none)) else (none)) else (if x21 ≤ (x146000.length : Int) then ((api_Hold__c36.f k (x146000.take (x21 : Int).toNat) ((rd_T26 x19 x21).f0) ((rd_T26 x19 x21).f1) ((rd_T26 x19 x21).f2) ((rd_T26 x19 x21).f3.f0) ((rd_T26 x19 x21).f3.f1) ((rd_T26 x19 x21).f4)).bind fun t161 => (override_Check.j1 k x19 x20 x21 t161 x146000)) else (none))) else (none)) else (none)) else (some 0)
def override_Check.j1 : Nat → List (S26) → Int → Int → Bool → List (S26) → Option (Int)
 | 0,_,_,_,_,_ => none
 | k + 1,x19,x20,x21,x45,x146000 => if x45 = true then (some 5) else (override_Check.l0 k x19 x20 (wrap64 (x21 + 1)) x146000)
end
def override_Check.f (k : Nat) (l0 : List (S26)) : Option (Int) := if (l0.length : Int) > 64 then (some 7) else ((override_Check_1__c32.f k l0).bind fun t146 => (if t146 = true then ((override_Check_1__c34.f k l0).bind fun t147 => (if t147 = true then ((override_Check_1__c35.f k l0).bind fun t148 => (if t148 = true then (override_Check.l0 k l0 (l0.length : Int) 0 l0) else (some 11))) else (some 6))) else (some 4)))
theorem override_Check.mono_l : ∀ k,(∀ y0 y1 y2 y3,LeO (override_Check.l0 k y0 y1 y2 y3) (override_Check.l0 (k + 1) y0 y1 y2 y3)) ∧ (∀ y0 y1 y2 y3 y4,LeO (override_Check.j1 k y0 y1 y2 y3 y4) (override_Check.j1 (k + 1) y0 y1 y2 y3 y4))
 | 0 => ⟨fun _ _ _ _ r h => by simp [override_Check.l0] at h,fun _ _ _ _ _ r h => by simp [override_Check.j1] at h⟩
 | k + 1 => by
  obtain ⟨ih0,ih1⟩ := override_Check.mono_l k
  refine ⟨?_,?_⟩
  ·intro y0 y1 y2 y3
   unfold override_Check.l0
   repeat' first
   | (with_reducible exact ih0 _ _ _ _)
   | (with_reducible exact ih1 _ _ _ _ _)
   | (with_reducible exact api_Hold__c36.mono _ _ _ _ _ _ _ _)
   | (with_reducible exact override_Check_1__c32.mono _ _)
   | (with_reducible exact override_Check_1__c34.mono _ _)
   | (with_reducible exact override_Check_1__c35.mono _ _)
   | (with_reducible exact LeO.refl _)
   | (with_reducible exact LeO.none _)
   | (with_reducible refine LeO.ite ?_ ?_)
   | (with_reducible refine LeO.bind ?_ (fun _ => ?_))
   | exact ih0 _ _ _ _
   | exact ih1 _ _ _ _ _
   | exact api_Hold__c36.mono _ _ _ _ _ _ _ _
   | exact override_Check_1__c32.mono _ _
   | exact override_Check_1__c34.mono _ _
   | exact override_Check_1__c35.mono _ _
   | exact LeO.none _
   | refine LeO.ite ?_ ?_
   | refine LeO.bind ?_ (fun _ => ?_)
  ·intro y0 y1 y2 y3 y4
   unfold override_Check.j1
   repeat' first
   | (with_reducible exact ih0 _ _ _ _)
   | (with_reducible exact ih1 _ _ _ _ _)
   | (with_reducible exact api_Hold__c36.mono _ _ _ _ _ _ _ _)
   | (with_reducible exact override_Check_1__c32.mono _ _)
   | (with_reducible exact override_Check_1__c34.mono _ _)
   | (with_reducible exact override_Check_1__c35.mono _ _)
   | (with_reducible exact LeO.refl _)
   | (with_reducible exact LeO.none _)
   | (with_reducible refine LeO.ite ?_ ?_)
   | (with_reducible refine LeO.bind ?_ (fun _ => ?_))
   | exact ih0 _ _ _ _
   | exact ih1 _ _ _ _ _
   | exact api_Hold__c36.mono _ _ _ _ _ _ _ _
   | exact override_Check_1__c32.mono _ _
   | exact override_Check_1__c34.mono _ _
   | exact override_Check_1__c35.mono _ _
   | exact LeO.none _
   | refine LeO.ite ?_ ?_
   | refine LeO.bind ?_ (fun _ => ?_)
theorem override_Check.mono : ∀ a0 k,LeO (override_Check.f k a0) (override_Check.f (k + 1) a0) := by
 intro a0 k
 obtain ⟨ih0,ih1⟩ := override_Check.mono_l k
 unfold override_Check.f
 repeat' first
   | (with_reducible exact ih0 _ _ _ _)
   | (with_reducible exact ih1 _ _ _ _ _)
   | (with_reducible exact api_Hold__c36.mono _ _ _ _ _ _ _ _)
   | (with_reducible exact override_Check_1__c32.mono _ _)
   | (with_reducible exact override_Check_1__c34.mono _ _)
   | (with_reducible exact override_Check_1__c35.mono _ _)
   | (with_reducible exact LeO.refl _)
   | (with_reducible exact LeO.none _)
   | (with_reducible refine LeO.ite ?_ ?_)
   | (with_reducible refine LeO.bind ?_ (fun _ => ?_))
   | exact ih0 _ _ _ _
   | exact ih1 _ _ _ _ _
   | exact api_Hold__c36.mono _ _ _ _ _ _ _ _
   | exact override_Check_1__c32.mono _ _
   | exact override_Check_1__c34.mono _ _
   | exact override_Check_1__c35.mono _ _
   | exact LeO.none _
   | refine LeO.ite ?_ ?_
   | refine LeO.bind ?_ (fun _ => ?_)
def override_Check.T13 : Bool × List (List Nat × List Nat) := (true,[([],[]),([0],[0]),([1],[1]),([2],[2]),([2],[2]),([4,2],[2,4]),([3,5,2],[2,3,5]),([6,2],[2,6]),([7,2],[2,7]),([2],[2]),([9,2],[2,9]),([8,10,2],[2,8,10]),([2,11],[2,11]),([12,2],[12]),([13],[13]),([13],[13]),([14,15,13],[13,14,15]),([13],[13]),([16,17,13,13],[13,16,17]),([13,18],[13,18])])
def override_Check.B13 : List Nat := [0,1,3,7,7,23,63,127,255,7,519,2047,4095,8191,16383,16383,65535,16383,262143,524287]
theorem override_Check.tab13 : rtab .any (opsOf Try.f16 13) = override_Check.T13 := by kernel_rfl
theorem override_Check.bits13 : waitsOk override_Check.T13.2 override_Check.B13 = true := by kernel_rfl
set_option maxHeartbeats 100000000 in
set_option maxRecDepth 100000 in
theorem override_Check.calls (k : Nat) (A0 : Option Addr) (c0 : Nat) (l0 : List (S26)) (r : Int) (w : World) (hr0 : Kd.C k26 w A0 l0.length l0) (hc0 : l0.length ≤ c0) (h : override_Check.f k l0 = some r) :
  Calls Try.prog 16 #[.slice A0 l0.length c0] w fun e w' => e = .returned (.int .i64 r) ∧ Below w.heap.size w w' := by
 have hu26 := Try.underlying26
 have hsgeq_ := str_geq
 have HR0 := Yd hr0
 have HC0 := Yd hc0
 clear hr0 hc0
 have HB := Yd (Below.refl w.heap.size w)
 have H : (if (l0.length : Int) > 64 then (some 7) else ((override_Check_1__c32.f k l0).bind fun t146 => (if t146 = true then ((override_Check_1__c34.f k l0).bind fun t147 => (if t147 = true then ((override_Check_1__c35.f k l0).bind fun t148 => (if t148 = true then (override_Check.l0 k l0 (l0.length : Int) 0 l0) else (some 11))) else (some 6))) else (some 4)))) = some r := h
 clear h
 by_cases c2 : (l0.length : Int) > 64
 ·rw [if_pos c2] at H
  have c2b0 : decide (64 < (l0.length : Int)) = true := decide_eq_true c2
  have c2b1 : decide (64 < l0.length) = true := decide_eq_true (by omega)
  clear c2
  obtain rfl := Option.some.inj H
  go_enter Try.func16,Try.ntmps16
  go_wp2_with (first | ((with_reducible refine gate_dst (N := 1) rfl ?_);refine box_event ?hg (N := 1) ?hd (cs := #[.slice A0 l0.length c0]) (t := 22) ?hr ?_;(case hd => rfl);(case hg => rfl);(case hr => first | (go_simp;done) | (go_simp;rfl));intro gb145 hg w3 hbox hb;have n0_ := Yd (below_step (Y3 HB.out) hb);have n1_ := Yd (hbox);have n2_ := Yd ((by rw [hg];exact (below_size (Y3 HB.out)) : w.heap.size ≤ gb145));have n3_ := Yd ((by rw [hg];exact (below_size (Y3 HB.out)) : w.heap.size ≤ gb145));clear HB;have HB := n0_;have BK145 := n1_;have GW145 := n2_;have GE145 := n3_;clear n0_ n1_ n2_ n3_;clear hb hbox hg;have hcz4_0 : w3.cell? ⟨gb145,0,none⟩ = some (.slice A0 l0.length c0) := (blk_cell BK145.out 0).trans rfl;have hfz4_0 := blk_frozen BK145.out 0))
  go_ret
  exact ⟨by first | rfl | (simp [errW_none,errW_some] <;> rfl) | (simp [*,errW_none,errW_some] <;> rfl),by repeat (first | (with_reducible first | exact HB.out | apply below_alloc | apply Y15 | apply below_drew1 | refine below_set ?_ GE145.out) | exact HB.out)⟩
 ·rw [if_neg c2] at H
  have c2b0 : decide (64 < (l0.length : Int)) = false := decide_eq_false c2
  have c2b1 : decide (64 < l0.length) = false := decide_eq_false (by omega)
  clear c2
  replace H := Option.bind_eq_some_iff.mp H
  obtain ⟨t146,A50,H⟩ := H
  replace H : (if t146 = true then ((override_Check_1__c34.f k l0).bind fun t147 => (if t147 = true then ((override_Check_1__c35.f k l0).bind fun t148 => (if t148 = true then (override_Check.l0 k l0 (l0.length : Int) 0 l0) else (some 11))) else (some 6))) else (some 4)) = some r := H
  have A5 := Yd A50
  clear A50
  by_cases c6 : t146 = true
  ·subst c6
   have H1 : ((override_Check_1__c34.f k l0).bind fun t147 => (if t147 = true then ((override_Check_1__c35.f k l0).bind fun t148 => (if t148 = true then (override_Check.l0 k l0 (l0.length : Int) 0 l0) else (some 11))) else (some 6))) = some r := by rw [if_pos rfl] at H;exact H
   clear H
   have H := H1
   clear H1
   replace H := Option.bind_eq_some_iff.mp H
   obtain ⟨t147,A70,H⟩ := H
   replace H : (if t147 = true then ((override_Check_1__c35.f k l0).bind fun t148 => (if t148 = true then (override_Check.l0 k l0 (l0.length : Int) 0 l0) else (some 11))) else (some 6)) = some r := H
   have A7 := Yd A70
   clear A70
   by_cases c8 : t147 = true
   ·subst c8
    have H1 : ((override_Check_1__c35.f k l0).bind fun t148 => (if t148 = true then (override_Check.l0 k l0 (l0.length : Int) 0 l0) else (some 11))) = some r := by rw [if_pos rfl] at H;exact H
    clear H
    have H := H1
    clear H1
    replace H := Option.bind_eq_some_iff.mp H
    obtain ⟨t148,A90,H⟩ := H
    replace H : (if t148 = true then (override_Check.l0 k l0 (l0.length : Int) 0 l0) else (some 11)) = some r := H
    have A9 := Yd A90
    clear A90
    by_cases c10 : t148 = true
    ·subst c10
     have H1 : (override_Check.l0 k l0 (l0.length : Int) 0 l0) = some r := by rw [if_pos rfl] at H;exact H
     clear H
     have H := H1
     clear H1
     have H' := Yd H
     clear H
     go_enter Try.func16,Try.ntmps16
     go_wp2_with (first | ((with_reducible refine gate_dst (N := 1) rfl ?_);refine box_event ?hg (N := 1) ?hd (cs := #[.slice A0 l0.length c0]) (t := 22) ?hr ?_;(case hd => rfl);(case hg => rfl);(case hr => first | (go_simp;done) | (go_simp;rfl));intro gb145 hg w11 hbox hb;have n0_ := Yd (below_step (Y3 HB.out) hb);have n1_ := Yd (hbox);have n2_ := Yd ((by rw [hg];exact (below_size (Y3 HB.out)) : w.heap.size ≤ gb145));have n3_ := Yd ((by rw [hg];exact (below_size (Y3 HB.out)) : w.heap.size ≤ gb145));clear HB;have HB := n0_;have BK145 := n1_;have GW145 := n2_;have GE145 := n3_;clear n0_ n1_ n2_ n3_;clear hb hbox hg;have hcz12_0 : w11.cell? ⟨gb145,0,none⟩ = some (.slice A0 l0.length c0) := (blk_cell BK145.out 0).trans rfl;have hfz12_0 := blk_frozen BK145.out 0) | (go_at_call 29;(with_reducible refine (override_Check_1__c32.calls k  gb145 A0 c0 l0 true _ ?side1 ?side2 ?side3 A5.out).mono ?_);(case side1 => exact Y11 (Kd.C_below HR0.out HB.out));(case side2 => exact HC0.out);(case side3 => exact (Y6 BK145.out));rintro e w13 ⟨rfl,hb⟩;have n0_ := Yd (blk_below (g := gb145) (o := .cells #[.slice A0 l0.length c0] 22 (0,0)) (Y6 BK145.out) hb);have n1_ := Yd (below_step (by first | exact Y4 HB.out GE145.out | exact Y3 HB.out) hb);clear BK145;clear HB;have BK145 := n0_;have HB := n1_;clear n0_ n1_;(try clear hb);(try clear hb2);(try clear hk);(try clear hi)) | (go_at_call 29;(with_reducible refine (override_Check_1__c34.calls k  gb145 A0 c0 l0 true _ ?side1 ?side2 ?side3 A7.out).mono ?_);(case side1 => exact Y11 (Kd.C_below HR0.out HB.out));(case side2 => exact HC0.out);(case side3 => exact (Y6 BK145.out));rintro e w14 ⟨rfl,hb⟩;have n0_ := Yd (blk_below (g := gb145) (o := .cells #[.slice A0 l0.length c0] 22 (0,0)) (Y6 BK145.out) hb);have n1_ := Yd (below_step (by first | exact Y4 HB.out GE145.out | exact Y3 HB.out) hb);clear BK145;clear HB;have BK145 := n0_;have HB := n1_;clear n0_ n1_;(try clear hb);(try clear hb2);(try clear hk);(try clear hi)) | (go_at_call 29;(with_reducible refine (override_Check_1__c35.calls k  gb145 A0 c0 l0 true _ ?side1 ?side2 ?side3 A9.out).mono ?_);(case side1 => exact Y11 (Kd.C_below HR0.out HB.out));(case side2 => exact HC0.out);(case side3 => exact (Y6 BK145.out));rintro e w15 ⟨rfl,hb⟩;have n0_ := Yd (blk_below (g := gb145) (o := .cells #[.slice A0 l0.length c0] 22 (0,0)) (Y6 BK145.out) hb);have n1_ := Yd (below_step (by first | exact Y4 HB.out GE145.out | exact Y3 HB.out) hb);clear BK145;clear HB;have BK145 := n0_;have HB := n1_;clear n0_ n1_;(try clear hb);(try clear hb2);(try clear hk);(try clear hi);have hcz16_0 : w15.cell? ⟨gb145,0,none⟩ = some (.slice A0 l0.length c0) := (blk_cell BK145.out 0).trans rfl;have hfz16_0 := blk_frozen BK145.out 0))
     go_loopg [21] k (fun kq v21 w' => ∃ (x21_1 : Int),v21 = .int .i64 x21_1 ∧ Aside0 (override_Check.l0 kq l0 (l0.length : Int) x21_1 l0 = some r) ∧ Aside0 (kq ≤ k) ∧ Aside0 (w'.heap[gb145]? = some (.cells #[(.slice A0 l0.length c0)] 22 (0,0))) ∧ Aside0 (Below w.heap.size w w'))
     case atStart => exact ⟨(0),Y12,H',⟨Nat.le_refl _⟩,⟨Y6 BK145.out⟩,⟨by repeat (first | (with_reducible first | exact HB.out | apply below_alloc | apply Y15 | apply below_drew1 | refine below_set ?_ GE145.out) | exact HB.out)⟩⟩
     case round =>
      clear H'
      try clear c1
      try clear c2
      try clear c2b0
      try clear c2b1
      try clear p2
      try clear c3
      try clear c6
      try clear c8
      try clear c10
      try clear c16
      try clear hcz12_0
      try clear hcz16_0
      try clear hcz4_0
      try clear hfz12_0
      try clear hfz16_0
      try clear hfz4_0
      obtain ⟨x21_1,rfl,HA,HK1,BK145,HB⟩ := hrel
      cases gk with
      | zero => exact absurd HA.out (by simp [override_Check.l0])
      | succ k1 =>
       have H := HA.out
       clear HA
       simp only [override_Check.l0] at H
       by_cases c17 : x21_1 < (l0.length : Int)
       ·rw [if_pos c17] at H
        have c17b0 : decide (x21_1 < (l0.length : Int)) = true := decide_eq_true c17
        clear c17
        by_cases c18 : 0 ≤ x21_1
        case neg => rw [if_neg c18] at H;exact absurd H (by simp)
        rw [if_pos c18] at H
        have c18b0 : decide (0 ≤ x21_1) = true := decide_eq_true c18
        clear c18
        by_cases c19 : x21_1 < (l0.length : Int)
        case neg => rw [if_neg c19] at H;exact absurd H (by simp)
        rw [if_pos c19] at H
        have c19b0 : decide (x21_1 < (l0.length : Int)) = true := decide_eq_true c19
        clear c19
        have HC20 := Yd H
        clear H
        have p149 : 0 ≤ (x21_1 : Int) := Y9
        have q149 : x21_1 < (l0.length : Int) := Y9
        obtain ⟨ad149,e149,hx149_0,hx149_1,hx149_2,hx149_3,hx149_4,hx149_5⟩ := at_T26 HR0.out x21_1 p149 q149
        cases e149
        replace hx149_0 := Y10 HB.out hx149_0
        replace hx149_1 := Y10 HB.out hx149_1
        replace hx149_2 := Y10 HB.out hx149_2
        replace hx149_3 := Y10 HB.out hx149_3
        replace hx149_4 := Y10 HB.out hx149_4
        replace hx149_5 := Y10 HB.out hx149_5
        replace p149 := eq_true p149
        replace q149 := eq_true q149
        go_upto_region 13 with (first | ((with_reducible refine gate_dst (N := 5) rfl ?_);refine box_event ?hg (N := 5) ?hd (cs := #[.string (⟨#[]⟩ : ByteArray),.int .i64 0,.int .i64 0,.int .i64 0,.int .i64 0,.int .i64 0]) (t := 26) ?hr ?_;(case hd => rfl);(case hg => rfl);(case hr => first | (go_simp;done) | (go_simp;rfl));intro gb150 hg w21 hbox hb;have n0_ := Yd (blk_below (g := gb145) (o := .cells #[.slice (some ad149) l0.length c0] 22 (0,0)) (Y6 BK145.out) hb);have n1_ := Yd (below_step (by first | exact Y4 HB.out GE145.out | exact Y3 HB.out) hb);have n2_ := Yd (hbox);have n3_ := Yd ((by rw [hg];exact (below_size (by first | exact Y4 HB.out GE145.out | exact Y3 HB.out)) : w.heap.size ≤ gb150));have n4_ := Yd ((by rw [hg];exact (below_size (by first | exact Y4 HB.out GE145.out | exact Y3 HB.out)) : w.heap.size ≤ gb150));have n5_ := Yd ((by rw [hg];exact Nat.ne_of_lt (blk_lt (g := gb145) (o := .cells #[.slice (some ad149) l0.length c0] 22 (0,0)) (Y6 BK145.out)) : gb145 ≠ gb150));have n6_ := Yd ((by rw [hg];exact Nat.ne_of_gt (blk_lt (g := gb145) (o := .cells #[.slice (some ad149) l0.length c0] 22 (0,0)) (Y6 BK145.out)) : gb150 ≠ gb145));clear BK145;clear HB;have BK145 := n0_;have HB := n1_;have BK150 := n2_;have GW150 := n3_;have GE150 := n4_;have NB145_150 := n5_;have NB150_145 := n6_;clear n0_ n1_ n2_ n3_ n4_ n5_ n6_;clear hb hbox hg;have hnb22 := NB150_145.out;have hnc22 := NB145_150.out;have hcz23_0 : w21.cell? ⟨gb150,0,none⟩ = some (.string (⟨#[]⟩ : ByteArray)) := (blk_cell BK150.out 0).trans rfl;have hcz23_1 : w21.cell? ⟨gb150,1,none⟩ = some (.int .i64 0) := (blk_cell BK150.out 1).trans rfl;have hcz23_2 : w21.cell? ⟨gb150,2,none⟩ = some (.int .i64 0) := (blk_cell BK150.out 2).trans rfl;have hcz23_3 : w21.cell? ⟨gb150,3,none⟩ = some (.int .i64 0) := (blk_cell BK150.out 3).trans rfl;have hcz23_4 : w21.cell? ⟨gb150,4,none⟩ = some (.int .i64 0) := (blk_cell BK150.out 4).trans rfl;have hcz23_5 : w21.cell? ⟨gb150,5,none⟩ = some (.int .i64 0) := (blk_cell BK150.out 5).trans rfl;have hfz23_0 := blk_frozen BK150.out 0;have hfz23_1 := blk_frozen BK150.out 1;have hfz23_2 := blk_frozen BK150.out 2;have hfz23_3 := blk_frozen BK150.out 3;have hfz23_4 := blk_frozen BK150.out 4;have hfz23_5 := blk_frozen BK150.out 5))
        (try simp only [Act.put,List.setIfInBounds_toArray,List.set_cons_zero,List.set_cons_succ])
        go_cut [45] (fun v45 wc => ∃ (kq : Nat) (x45_19 : Bool),v45 = .bool x45_19 ∧ Aside0 (override_Check.j1 kq l0 (l0.length : Int) x21_1 x45_19 l0 = some r) ∧ Aside0 (kq ≤ k1) ∧ Aside0 (wc.heap[gb145]? = some (.cells #[(.slice (some ad149) l0.length c0)] 22 (0,0))) ∧ Aside0 (wc.heap[gb150]? = some (.cells #[.string ((rd_T26 l0 x21_1).f0),.int .i64 ((rd_T26 l0 x21_1).f1),.int .i64 ((rd_T26 l0 x21_1).f2),.int .i64 ((rd_T26 l0 x21_1).f3.f0),.int .i64 ((rd_T26 l0 x21_1).f3.f1),.int .i64 ((rd_T26 l0 x21_1).f4)] 26 (0,0))) ∧ Aside0 (Below w.heap.size w wc))
        case first =>
         have H := HC20.out
         clear HC20
         by_cases c24 : x21_1 > 0
         ·rw [if_pos c24] at H
          have c24b0 : decide (0 < x21_1) = true := decide_eq_true c24
          clear c24
          (first | rw [c24b0] | (simp only [i64_w,i32_w];rw [c24b0]) | skip)
          obtain ⟨ji25,hji25⟩ : ∃ j_ : Int,(wrap64 (x21_1 - 1)) = j_ := ⟨_,rfl⟩
          replace H : (if 0 ≤ (ji25) then (if (ji25) < (l0.length : Int) then (if ((Op.bytesLess (((rd_T26 l0 (ji25)).f0).toList) (((rd_T26 l0 x21_1).f0).toList)) = true) then (if x21_1 ≤ (l0.length : Int) then ((api_Hold__c36.f k1 (l0.take (x21_1 : Int).toNat) ((rd_T26 l0 x21_1).f0) ((rd_T26 l0 x21_1).f1) ((rd_T26 l0 x21_1).f2) ((rd_T26 l0 x21_1).f3.f0) ((rd_T26 l0 x21_1).f3.f1) ((rd_T26 l0 x21_1).f4)).bind fun t156 => (override_Check.j1 k1 l0 (l0.length : Int) x21_1 t156 l0)) else (none)) else (override_Check.j1 k1 l0 (l0.length : Int) x21_1 true l0)) else (none)) else (none)) = some r := by first | (rw [hji25] at H;exact H) | (simp only [hji25] at H ⊢;exact H)
          have hji25w : (IntKind.i64.wrap (x21_1 - 1)) = ji25 := (i64_w _).trans hji25
          by_cases c26 : 0 ≤ (ji25)
          case neg => rw [if_neg c26] at H;exact absurd H (by simp)
          rw [if_pos c26] at H
          have c26b0 : decide (0 ≤ (ji25)) = true := decide_eq_true c26
          clear c26
          by_cases c27 : (ji25) < (l0.length : Int)
          case neg => rw [if_neg c27] at H;exact absurd H (by simp)
          rw [if_pos c27] at H
          have c27b0 : decide ((ji25) < (l0.length : Int)) = true := decide_eq_true c27
          clear c27
          by_cases c28 : ((Op.bytesLess (((rd_T26 l0 (ji25)).f0).toList) (((rd_T26 l0 x21_1).f0).toList)) = true)
          ·rw [if_pos c28] at H
           have c28b0 : (Op.bytesLess (((rd_T26 l0 (ji25)).f0).toList) (((rd_T26 l0 x21_1).f0).toList)) = true := c28
           clear c28
           have c29b0 := eq_true (Y9 : 0 ≤ x21_1)
           by_cases c30 : x21_1 ≤ (l0.length : Int)
           case neg => rw [if_neg c30] at H;exact absurd H (by simp)
           rw [if_pos c30] at H
           have c30b0 := eq_true c30
           have c30b1 : decide (x21_1 ≤ (l0.length : Int)) = true := decide_eq_true c30
           clear c30
           obtain ⟨y152,hy152⟩ : ∃ y_ : List (S26),y_ = (l0.take (x21_1 : Int).toNat) := ⟨_,rfl⟩
           replace H : ((api_Hold__c36.f k1 y152 ((rd_T26 l0 x21_1).f0) ((rd_T26 l0 x21_1).f1) ((rd_T26 l0 x21_1).f2) ((rd_T26 l0 x21_1).f3.f0) ((rd_T26 l0 x21_1).f3.f1) ((rd_T26 l0 x21_1).f4)).bind fun t156 => (override_Check.j1 k1 l0 (l0.length : Int) x21_1 t156 l0)) = some r := by first | (rw [hy152];with_reducible exact H) | (have H2_ := (Option.bind_some _ _).symm.trans H;rw [hy152];with_reducible exact H2_) | (have H2_ := (Option.bind_some _ _).symm.trans H;with_reducible exact H2_) | with_reducible exact H | (rw [hy152];exact H) | exact H
           have Ny152 := Yd hy152
           clear hy152
           replace H := Option.bind_eq_some_iff.mp H
           obtain ⟨t156,A310,H⟩ := H
           replace H : (override_Check.j1 k1 l0 (l0.length : Int) x21_1 t156 l0) = some r := H
           have A31 := Yd A310
           clear A310
           have H' := Yd H
           clear H
           try go_wp2
           have n0_ : Aside0 (((((((w21.setCell ⟨gb150,0,none⟩ (.string ((rd_T26 l0 x21_1).f0))).setCell ⟨gb150,1,none⟩ (.int .i64 ((rd_T26 l0 x21_1).f1))).setCell ⟨gb150,2,none⟩ (.int .i64 ((rd_T26 l0 x21_1).f2))).setCell ⟨gb150,3,none⟩ (.int .i64 ((rd_T26 l0 x21_1).f3.f0))).setCell ⟨gb150,4,none⟩ (.int .i64 ((rd_T26 l0 x21_1).f3.f1))).setCell ⟨gb150,5,none⟩ (.int .i64 ((rd_T26 l0 x21_1).f4))).heap[gb145]? = some (.cells #[.slice (some ad149) l0.length c0] 22 (0,0))) := ⟨by (with_reducible repeat (first | refine blk_drewN ?_ _ | refine blk_drew ?_ | refine blk_alloc ?_ _));refine blk_far ?_ NB145_150.out _;(with_reducible repeat (first | refine blk_drewN ?_ _ | refine blk_drew ?_ | refine blk_alloc ?_ _));refine blk_far ?_ NB145_150.out _;(with_reducible repeat (first | refine blk_drewN ?_ _ | refine blk_drew ?_ | refine blk_alloc ?_ _));refine blk_far ?_ NB145_150.out _;(with_reducible repeat (first | refine blk_drewN ?_ _ | refine blk_drew ?_ | refine blk_alloc ?_ _));refine blk_far ?_ NB145_150.out _;(with_reducible repeat (first | refine blk_drewN ?_ _ | refine blk_drew ?_ | refine blk_alloc ?_ _));refine blk_far ?_ NB145_150.out _;(with_reducible repeat (first | refine blk_drewN ?_ _ | refine blk_drew ?_ | refine blk_alloc ?_ _));refine blk_far ?_ NB145_150.out _;(with_reducible repeat (first | refine blk_drewN ?_ _ | refine blk_drew ?_ | refine blk_alloc ?_ _));exact BK145.out⟩
           have n1_ : Aside0 (((((((w21.setCell ⟨gb150,0,none⟩ (.string ((rd_T26 l0 x21_1).f0))).setCell ⟨gb150,1,none⟩ (.int .i64 ((rd_T26 l0 x21_1).f1))).setCell ⟨gb150,2,none⟩ (.int .i64 ((rd_T26 l0 x21_1).f2))).setCell ⟨gb150,3,none⟩ (.int .i64 ((rd_T26 l0 x21_1).f3.f0))).setCell ⟨gb150,4,none⟩ (.int .i64 ((rd_T26 l0 x21_1).f3.f1))).setCell ⟨gb150,5,none⟩ (.int .i64 ((rd_T26 l0 x21_1).f4))).heap[gb150]? = some (.cells #[.string ((rd_T26 l0 x21_1).f0),.int .i64 ((rd_T26 l0 x21_1).f1),.int .i64 ((rd_T26 l0 x21_1).f2),.int .i64 ((rd_T26 l0 x21_1).f3.f0),.int .i64 ((rd_T26 l0 x21_1).f3.f1),.int .i64 ((rd_T26 l0 x21_1).f4)] 26 (0,0))) := ⟨by (with_reducible repeat (first | refine blk_drewN ?_ _ | refine blk_drew ?_ | refine blk_alloc ?_ _));refine blk_put (cs := #[.string ((rd_T26 l0 x21_1).f0),.int .i64 ((rd_T26 l0 x21_1).f1),.int .i64 ((rd_T26 l0 x21_1).f2),.int .i64 ((rd_T26 l0 x21_1).f3.f0),.int .i64 ((rd_T26 l0 x21_1).f3.f1),.int .i64 0]) ?_ 5 _ rfl;(with_reducible repeat (first | refine blk_drewN ?_ _ | refine blk_drew ?_ | refine blk_alloc ?_ _));refine blk_put (cs := #[.string ((rd_T26 l0 x21_1).f0),.int .i64 ((rd_T26 l0 x21_1).f1),.int .i64 ((rd_T26 l0 x21_1).f2),.int .i64 ((rd_T26 l0 x21_1).f3.f0),.int .i64 0,.int .i64 0]) ?_ 4 _ rfl;(with_reducible repeat (first | refine blk_drewN ?_ _ | refine blk_drew ?_ | refine blk_alloc ?_ _));refine blk_put (cs := #[.string ((rd_T26 l0 x21_1).f0),.int .i64 ((rd_T26 l0 x21_1).f1),.int .i64 ((rd_T26 l0 x21_1).f2),.int .i64 0,.int .i64 0,.int .i64 0]) ?_ 3 _ rfl;(with_reducible repeat (first | refine blk_drewN ?_ _ | refine blk_drew ?_ | refine blk_alloc ?_ _));refine blk_put (cs := #[.string ((rd_T26 l0 x21_1).f0),.int .i64 ((rd_T26 l0 x21_1).f1),.int .i64 0,.int .i64 0,.int .i64 0,.int .i64 0]) ?_ 2 _ rfl;(with_reducible repeat (first | refine blk_drewN ?_ _ | refine blk_drew ?_ | refine blk_alloc ?_ _));refine blk_put (cs := #[.string ((rd_T26 l0 x21_1).f0),.int .i64 0,.int .i64 0,.int .i64 0,.int .i64 0,.int .i64 0]) ?_ 1 _ rfl;(with_reducible repeat (first | refine blk_drewN ?_ _ | refine blk_drew ?_ | refine blk_alloc ?_ _));refine blk_put (cs := #[.string (⟨#[]⟩ : ByteArray),.int .i64 0,.int .i64 0,.int .i64 0,.int .i64 0,.int .i64 0]) ?_ 0 _ rfl;(with_reducible repeat (first | refine blk_drewN ?_ _ | refine blk_drew ?_ | refine blk_alloc ?_ _));exact BK150.out⟩
           have n2_ : Aside0 (Below w.heap.size w ((((((w21.setCell ⟨gb150,0,none⟩ (.string ((rd_T26 l0 x21_1).f0))).setCell ⟨gb150,1,none⟩ (.int .i64 ((rd_T26 l0 x21_1).f1))).setCell ⟨gb150,2,none⟩ (.int .i64 ((rd_T26 l0 x21_1).f2))).setCell ⟨gb150,3,none⟩ (.int .i64 ((rd_T26 l0 x21_1).f3.f0))).setCell ⟨gb150,4,none⟩ (.int .i64 ((rd_T26 l0 x21_1).f3.f1))).setCell ⟨gb150,5,none⟩ (.int .i64 ((rd_T26 l0 x21_1).f4)))) := ⟨by repeat (first | (with_reducible first | exact HB.out | apply below_alloc | apply Y15 | apply below_drew1 | refine below_set ?_ GE145.out | refine below_set ?_ GE150.out) | exact HB.out)⟩
           (try clear BK145)
           (try clear BK150)
           (try clear HB)
           generalize ((((((w21.setCell ⟨gb150,0,none⟩ (.string ((rd_T26 l0 x21_1).f0))).setCell ⟨gb150,1,none⟩ (.int .i64 ((rd_T26 l0 x21_1).f1))).setCell ⟨gb150,2,none⟩ (.int .i64 ((rd_T26 l0 x21_1).f2))).setCell ⟨gb150,3,none⟩ (.int .i64 ((rd_T26 l0 x21_1).f3.f0))).setCell ⟨gb150,4,none⟩ (.int .i64 ((rd_T26 l0 x21_1).f3.f1))).setCell ⟨gb150,5,none⟩ (.int .i64 ((rd_T26 l0 x21_1).f4))) = w32 at n0_ n1_ n2_ ⊢
           have BK145 := n0_
           have BK150 := n1_
           have HB := n2_
           clear n0_ n1_ n2_
           have n0_ := Yd (blk_drew BK145.out)
           have n1_ := Yd (blk_drew BK150.out)
           have n2_ := Yd (below_drew1 HB.out)
           clear BK145
           clear BK150
           clear HB
           have BK145 := n0_
           have BK150 := n1_
           have HB := n2_
           clear n0_ n1_ n2_
           have p151 : 0 ≤ ((ji25) : Int) := Y9
           have q151 : (ji25) < (l0.length : Int) := Y9
           obtain ⟨ad151,e151,hx151_0,hx151_1,hx151_2,hx151_3,hx151_4,hx151_5⟩ := at_T26 HR0.out (ji25) p151 q151
           have hw151_5 := hx151_5
           have hw151_4 := hx151_4
           have hw151_3 := hx151_3
           have hw151_2 := hx151_2
           have hw151_1 := hx151_1
           have hw151_0 := hx151_0
           obtain rfl : ad149 = ad151 := (by injection e151)
           replace hx151_0 := Y10 HB.out hx151_0
           replace hx151_1 := Y10 HB.out hx151_1
           replace hx151_2 := Y10 HB.out hx151_2
           replace hx151_3 := Y10 HB.out hx151_3
           replace hx151_4 := Y10 HB.out hx151_4
           replace hx151_5 := Y10 HB.out hx151_5
           replace p151 := eq_true p151
           replace q151 := eq_true q151
           have q34 : (x21_1 : Int) ≤ ((l0.length : Int) : Int) := Y9
           obtain ⟨i034,hi034,_,hsz34,_⟩ := info_parts info26
           have hroom34 : l0.length ≤ c0 := HC0.out
           have hC34 : Kd.C k26 _ (some ad149) l0.length l0 := HR0.out
           have hcut34 := cut_to (P := Try.prog) 22 26 .i64 Try.underlying22 hi034 (some ad149) l0.length c0 x21_1 (Y9) q34 hroom34
           have hr34 := Kd.C_take (m := (x21_1 : Int).toNat) hC34 (by omega)
           have hy34 : y152.length = (x21_1 : Int).toNat := (by rw [Ny152.out,List.length_take];omega)
           rw [← Ny152.out] at hr34
           rw [← hy34] at hcut34
           have HR155 := Yd hr34
           have HC155 := Yd (show y152.length ≤ c0 from by omega)
           clear hr34 hC34 hroom34 hi034 hsz34
           have KY34 := Yd hy34
           clear hy34
           replace q34 := eq_true q34
           refine start_ (n := 20) (S := fun w' => w'.cell? ⟨gb145,0,none⟩ = some (.slice (some ad149) l0.length c0) ∧ w'.cell? ⟨gb150,0,none⟩ = some (.string ((rd_T26 l0 x21_1).f0)) ∧ w'.cell? ⟨gb150,1,none⟩ = some (.int .i64 ((rd_T26 l0 x21_1).f1)) ∧ w'.cell? ⟨gb150,2,none⟩ = some (.int .i64 ((rd_T26 l0 x21_1).f2)) ∧ w'.cell? ⟨gb150,3,none⟩ = some (.int .i64 ((rd_T26 l0 x21_1).f3.f0)) ∧ w'.cell? ⟨gb150,4,none⟩ = some (.int .i64 ((rd_T26 l0 x21_1).f3.f1)) ∧ w'.cell? ⟨gb150,5,none⟩ = some (.int .i64 ((rd_T26 l0 x21_1).f4)) ∧ w'.cell? (ad149.add (((ji25)).toNat * 6)) = some (.string ((rd_T26 l0 (ji25)).f0)) ∧ w'.cell? ⟨(ad149.add (((ji25)).toNat * 6)).block,(ad149.add (((ji25)).toNat * 6)).off + 1,none⟩ = some (.int .i64 ((rd_T26 l0 (ji25)).f1)) ∧ w'.cell? ⟨(ad149.add (((ji25)).toNat * 6)).block,(ad149.add (((ji25)).toNat * 6)).off + 2,none⟩ = some (.int .i64 ((rd_T26 l0 (ji25)).f2)) ∧ w'.cell? ⟨(ad149.add (((ji25)).toNat * 6)).block,(ad149.add (((ji25)).toNat * 6)).off + 3,none⟩ = some (.int .i64 ((rd_T26 l0 (ji25)).f3.f0)) ∧ w'.cell? ⟨(ad149.add (((ji25)).toNat * 6)).block,(ad149.add (((ji25)).toNat * 6)).off + 4,none⟩ = some (.int .i64 ((rd_T26 l0 (ji25)).f3.f1)) ∧ w'.cell? ⟨(ad149.add (((ji25)).toNat * 6)).block,(ad149.add (((ji25)).toNat * 6)).off + 5,none⟩ = some (.int .i64 ((rd_T26 l0 (ji25)).f4))) (ds := []) #[YF,YF,YF,YF,YF,YF,YF,YF,YF,YF,YF,YF,YF,YF,YF,YF,YF,YF,YF,YF] (by kernel_rfl) rfl rfl ⟨(blk_cell BK145.out 0).trans rfl,(blk_cell BK150.out 0).trans rfl,(blk_cell BK150.out 1).trans rfl,(blk_cell BK150.out 2).trans rfl,(blk_cell BK150.out 3).trans rfl,(blk_cell BK150.out 4).trans rfl,(blk_cell BK150.out 5).trans rfl,(Y10 HB.out hw151_0 :),(Y10 HB.out hw151_1 :),(Y10 HB.out hw151_2 :),(Y10 HB.out hw151_3 :),(Y10 HB.out hw151_4 :),(Y10 HB.out hw151_5 :)⟩ (fun hHeld => ?_);refine with_tabW override_Check.tab13 override_Check.bits13 (fun HT_ HW_ => ?_)
           generalize w32.drew = w33 at BK145 BK150 HB HR155 hx151_0 hx151_1 hx151_2 hx151_3 hx151_4 hx151_5 hHeld ⊢
           refine pure_ (i := 0) (N := some 26) (v := ?_) (a' := ?_) #[YT,YF,YF,YF,YF,YF,YF,YF,YF,YF,YF,YF,YF,YF,YF,YF,YF,YF,YF,YF] rfl rfl (any_of HT_.out (by kernel_rfl)) (fun _ _ _ h => h) (Or.inl ⟨by rfl,?_⟩) ?_ ?_
           rotate_left
           ·intro w'
            go_simp
            with_reducible rfl
           rotate_left
           ·simp only [Act.put,Ya,Yb,Yc,i64_w,i32_w]
            rfl
           refine pure_ (i := 1) (N := some 27) (v := ?_) (a' := ?_) #[YT,YT,YF,YF,YF,YF,YF,YF,YF,YF,YF,YF,YF,YF,YF,YF,YF,YF,YF,YF] rfl rfl (any_of HT_.out (by kernel_rfl)) (fun _ _ _ h => h) (Or.inl ⟨by rfl,?_⟩) ?_ ?_
           rotate_left
           ·intro w'
            go_simp
            with_reducible rfl
           rotate_left
           ·simp only [Act.put,Ya,Yb,Yc,i64_w,i32_w]
            rfl
           refine pure_ (i := 2) (N := some 28) (v := ?_) (a' := ?_) #[YT,YT,YT,YF,YF,YF,YF,YF,YF,YF,YF,YF,YF,YF,YF,YF,YF,YF,YF,YF] rfl rfl (any_of HT_.out (by kernel_rfl)) (fun _ _ _ h => h) (Or.inl ⟨by rfl,?_⟩) ?_ ?_
           rotate_left
           ·intro w'
            go_simp
            with_reducible rfl
           rotate_left
           ·simp only [Act.put,Ya,Yb,Yc,i64_w,i32_w]
            rfl
           refine pure_ (i := 4) (N := some 30) (v := ?_) (a' := ?_) #[YT,YT,YT,YF,YT,YF,YF,YF,YF,YF,YF,YF,YF,YF,YF,YF,YF,YF,YF,YF] rfl rfl (any_of HT_.out (by kernel_rfl)) (fun _ _ _ h => h) (Or.inl ⟨by rfl,?_⟩) ?_ ?_
           rotate_left
           ·intro w'
            go_simp
            with_reducible rfl
           rotate_left
           ·simp only [Act.put,Ya,Yb,Yc,i64_w,i32_w]
            rfl
           refine pure_ (i := 5) (N := some 31) (v := ?_) (a' := ?_) #[YT,YT,YT,YF,YT,YT,YF,YF,YF,YF,YF,YF,YF,YF,YF,YF,YF,YF,YF,YF] rfl rfl (any_of HT_.out (by kernel_rfl)) (fun _ _ _ h => h) (Or.inl ⟨by rfl,?_⟩) ?_ ?_
           rotate_left
           ·intro w'
            go_simp
            with_reducible rfl
           rotate_left
           ·simp only [Act.put,Ya,Yb,Yc,i64_w,i32_w]
            rfl
           refine pure_ (i := 9) (N := some 35) (v := ?_) (a' := ?_) #[YT,YT,YT,YF,YT,YT,YF,YF,YF,YT,YF,YF,YF,YF,YF,YF,YF,YF,YF,YF] rfl rfl (any_of HT_.out (by kernel_rfl)) (fun _ _ _ h => h) (Or.inl ⟨by rfl,?_⟩) ?_ ?_
           rotate_left
           ·intro w'
            go_simp
            with_reducible rfl
           rotate_left
           ·simp only [Act.put,Ya,Yb,Yc,i64_w,i32_w]
            rfl
           refine take_ (i := 3) (N := some 29) (v := ?_) (a' := ?_) #[YT,YT,YT,YT,YT,YT,YF,YF,YF,YT,YF,YF,YF,YF,YF,YF,YF,YF,YF,YF] rfl rfl (take_ofW HT_.out HW_.out (by kernel_rfl)) (fun _ _ _ h => h) (Or.inl ⟨by rfl,?_⟩) hHeld ?_ ?_
           rotate_left
           ·rintro w' ⟨s0,s1,s2,s3,s4,s5,s6,s7,s8,s9,s10,s11,s12⟩
            go_simp
            with_reducible rfl
           rotate_left
           ·simp only [Act.put,Ya,Yb,Yc,i64_w,i32_w]
            rfl
           refine pure_ (i := 6) (N := some 32) (v := ?_) (a' := ?_) #[YT,YT,YT,YT,YT,YT,YT,YF,YF,YT,YF,YF,YF,YF,YF,YF,YF,YF,YF,YF] rfl rfl (any_of HT_.out (by kernel_rfl)) (fun _ _ _ h => h) (Or.inl ⟨by rfl,?_⟩) ?_ ?_
           rotate_left
           ·intro w'
            go_simp
            with_reducible rfl
           rotate_left
           ·simp only [Act.put,Ya,Yb,Yc,i64_w,i32_w]
            rfl
           refine pure_ (i := 7) (N := some 33) (v := ?_) (a' := ?_) #[YT,YT,YT,YT,YT,YT,YT,YT,YF,YT,YF,YF,YF,YF,YF,YF,YF,YF,YF,YF] rfl rfl (any_of HT_.out (by kernel_rfl)) (fun _ _ _ h => h) (Or.inl ⟨by rfl,?_⟩) ?_ ?_
           rotate_left
           ·intro w'
            go_simp
            with_reducible rfl
           rotate_left
           ·simp only [Act.put,Ya,Yb,Yc,i64_w,i32_w]
            rfl
           refine take_ (i := 8) (N := some 34) (v := ?_) (a' := ?_) #[YT,YT,YT,YT,YT,YT,YT,YT,YT,YT,YF,YF,YF,YF,YF,YF,YF,YF,YF,YF] rfl rfl (take_ofW HT_.out HW_.out (by kernel_rfl)) (fun _ _ _ h => h) (Or.inl ⟨by rfl,?_⟩) hHeld ?_ ?_
           rotate_left
           ·rintro w' ⟨s0,s1,s2,s3,s4,s5,s6,s7,s8,s9,s10,s11,s12⟩
            go_simp
            with_reducible rfl
           rotate_left
           ·simp only [Act.put,Ya,Yb,Yc,i64_w,i32_w]
            rfl
           refine take_ (i := 10) (N := some 36) (v := ?_) (a' := ?_) #[YT,YT,YT,YT,YT,YT,YT,YT,YT,YT,YT,YF,YF,YF,YF,YF,YF,YF,YF,YF] rfl rfl (take_ofW HT_.out HW_.out (by kernel_rfl)) (fun _ _ _ h => h) (Or.inl ⟨by rfl,?_⟩) hHeld ?_ ?_
           rotate_left
           ·rintro w' ⟨s0,s1,s2,s3,s4,s5,s6,s7,s8,s9,s10,s11,s12⟩
            go_simp
            with_reducible rfl
           rotate_left
           ·simp only [Act.put,Ya,Yb,Yc,i64_w,i32_w]
            rfl
           refine pure_ (i := 11) (N := some 37) (v := ?_) (a' := ?_) #[YT,YT,YT,YT,YT,YT,YT,YT,YT,YT,YT,YT,YF,YF,YF,YF,YF,YF,YF,YF] rfl rfl (any_of HT_.out (by kernel_rfl)) (fun _ _ _ h => h) (Or.inl ⟨by rfl,?_⟩) ?_ ?_
           rotate_left
           ·intro w'
            go_simp
            with_reducible rfl
           rotate_left
           ·simp only [Act.put,Ya,Yb,Yc,i64_w,i32_w]
            rfl
           refine pure_ (i := 12) (N := some 38) (v := ?_) (a' := ?_) #[YT,YT,YT,YT,YT,YT,YT,YT,YT,YT,YT,YT,YT,YF,YF,YF,YF,YF,YF,YF] rfl rfl (any_of HT_.out (by kernel_rfl)) (fun _ _ _ h => h) (Or.inl ⟨by rfl,?_⟩) ?_ ?_
           rotate_left
           ·intro w'
            go_simp
            with_reducible rfl
           rotate_left
           ·simp only [Act.put,Ya,Yb,Yc,i64_w,i32_w]
            rfl
           refine pure_ (i := 13) (N := some 39) (v := ?_) (a' := ?_) #[YT,YT,YT,YT,YT,YT,YT,YT,YT,YT,YT,YT,YT,YT,YF,YF,YF,YF,YF,YF] rfl rfl (any_of HT_.out (by kernel_rfl)) (fun _ _ _ h => h) (Or.inl ⟨by rfl,?_⟩) ?_ ?_
           rotate_left
           ·intro w'
            go_simp
            with_reducible rfl
           rotate_left
           ·simp only [Act.put,Ya,Yb,Yc,i64_w,i32_w]
            rfl
           refine pure_ (i := 15) (N := some 41) (v := ?_) (a' := ?_) #[YT,YT,YT,YT,YT,YT,YT,YT,YT,YT,YT,YT,YT,YT,YF,YT,YF,YF,YF,YF] rfl rfl (any_of HT_.out (by kernel_rfl)) (fun _ _ _ h => h) (Or.inl ⟨by rfl,?_⟩) ?_ ?_
           rotate_left
           ·intro w'
            go_simp
            with_reducible rfl
           rotate_left
           ·simp only [Act.put,Ya,Yb,Yc,i64_w,i32_w]
            rfl
           refine pure_ (i := 17) (N := some 43) (v := ?_) (a' := ?_) #[YT,YT,YT,YT,YT,YT,YT,YT,YT,YT,YT,YT,YT,YT,YF,YT,YF,YT,YF,YF] rfl rfl (any_of HT_.out (by kernel_rfl)) (fun _ _ _ h => h) (Or.inl ⟨by rfl,?_⟩) ?_ ?_
           rotate_left
           ·intro w'
            go_simp
            with_reducible rfl
           rotate_left
           ·simp only [Act.put,Ya,Yb,Yc,i64_w,i32_w]
            rfl
           refine take_ (i := 14) (N := some 40) (v := ?_) (a' := ?_) #[YT,YT,YT,YT,YT,YT,YT,YT,YT,YT,YT,YT,YT,YT,YT,YT,YF,YT,YF,YF] rfl rfl (take_ofW HT_.out HW_.out (by kernel_rfl)) (fun _ _ _ h => h) (Or.inl ⟨by rfl,?_⟩) hHeld ?_ ?_
           rotate_left
           ·rintro w' ⟨s0,s1,s2,s3,s4,s5,s6,s7,s8,s9,s10,s11,s12⟩
            go_simp
            with_reducible rfl
           rotate_left
           ·simp only [Act.put,Ya,Yb,Yc,i64_w,i32_w]
            rfl
           refine pure_ (i := 16) (N := some 42) (v := ?_) (a' := ?_) #[YT,YT,YT,YT,YT,YT,YT,YT,YT,YT,YT,YT,YT,YT,YT,YT,YT,YT,YF,YF] rfl rfl (any_of HT_.out (by kernel_rfl)) (fun _ _ _ h => h) (Or.inl ⟨by rfl,?_⟩) ?_ ?_
           rotate_left
           ·intro w'
            go_simp
            with_reducible rfl
           rotate_left
           ·simp only [Act.put,Ya,Yb,Yc,i64_w,i32_w]
            rfl
           refine one_ (i := 18) (N := some 44) #[YT,YT,YT,YT,YT,YT,YT,YT,YT,YT,YT,YT,YT,YT,YT,YT,YT,YT,YT,YF] rfl rfl (one_of HT_.out (by kernel_rfl)) (by decide) (fun K hK => ?_)
           refine goes_ Try.func30 (by kernel_rfl) rfl #[.slice (some ad149) y152.length c0,.func (.func 36) #[] #[.pointer (some ⟨gb150,0,none⟩)]] (by rfl) rfl rfl Y8 ?_
           with_reducible refine (api_Hold__c36.calls k1 _ _ y152 gb150 ((rd_T26 l0 x21_1).f0) ((rd_T26 l0 x21_1).f1) ((rd_T26 l0 x21_1).f2) ((rd_T26 l0 x21_1).f3.f0) ((rd_T26 l0 x21_1).f3.f1) ((rd_T26 l0 x21_1).f4) t156 _ ?side1 ?side2 ?side3 A31.out).mono ?_
           (case side1 => exact Y11 (Kd.C_below HR155.out HB.out))
           (case side2 => exact HC155.out)
           (case side3 => exact (Y6 BK150.out))
           rintro e w35 ⟨rfl,hb⟩
           refine ⟨_,rfl,?_⟩
           have n0_ := Yd (blk_below (g := gb145) (o := .cells #[.slice (some ad149) l0.length c0] 22 (0,0)) (Y6 BK145.out) hb)
           have n1_ := Yd (blk_below (g := gb150) (o := .cells #[.string ((rd_T26 l0 x21_1).f0),.int .i64 ((rd_T26 l0 x21_1).f1),.int .i64 ((rd_T26 l0 x21_1).f2),.int .i64 ((rd_T26 l0 x21_1).f3.f0),.int .i64 ((rd_T26 l0 x21_1).f3.f1),.int .i64 ((rd_T26 l0 x21_1).f4)] 26 (0,0)) (Y6 BK150.out) hb)
           have n2_ := Yd (below_step (by repeat (first | (with_reducible first | exact HB.out | apply below_alloc | apply Y15 | apply below_drew1 | refine below_set ?_ GE145.out | refine below_set ?_ GE150.out) | exact HB.out)) hb)
           clear BK145
           clear BK150
           clear HB
           have BK145 := n0_
           have BK150 := n1_
           have HB := n2_
           clear n0_ n1_ n2_
           (try clear hb)
           (try clear hb2)
           (try clear hk)
           (try clear hi)
           refine hK.out _ _ ⟨(blk_cell BK145.out 0).trans rfl,(blk_cell BK150.out 0).trans rfl,(blk_cell BK150.out 1).trans rfl,(blk_cell BK150.out 2).trans rfl,(blk_cell BK150.out 3).trans rfl,(blk_cell BK150.out 4).trans rfl,(blk_cell BK150.out 5).trans rfl,(Y10 HB.out hw151_0 :),(Y10 HB.out hw151_1 :),(Y10 HB.out hw151_2 :),(Y10 HB.out hw151_3 :),(Y10 HB.out hw151_4 :),(Y10 HB.out hw151_5 :)⟩ (fun hHeld => ?_)
           clear hK K
           refine norm_ (a' := ?_) ?_ ?_
           rotate_left
           ·show Act.put _ (some 44) _ = _
            simp only [Act.put,Ya,Yb,Yc,i64_w,i32_w]
            rfl
           refine pure_ (i := 19) (N := some 45) (v := ?_) (a' := ?_) #[YT,YT,YT,YT,YT,YT,YT,YT,YT,YT,YT,YT,YT,YT,YT,YT,YT,YT,YT,YT] rfl rfl (any_of HT_.out (by kernel_rfl)) (fun _ _ _ h => h) (Or.inl ⟨by rfl,?_⟩) ?_ ?_
           rotate_left
           ·intro w'
            go_simp
            with_reducible rfl
           rotate_left
           ·simp only [Act.put,Ya,Yb,Yc,i64_w,i32_w]
            rfl
           refine done_ (done_of HT_.out (by kernel_rfl)) ?_
           try go_wp2
           go_meet
           case rel => exact ⟨_,(t156),Y12,H',⟨by have := HK1.out;first | omega | exact Nat.le_refl _⟩,⟨Y6 BK145.out⟩,⟨Y6 BK150.out⟩,⟨by repeat (first | (with_reducible first | exact HB.out | apply below_alloc | apply Y15 | apply below_drew1 | refine below_set ?_ GE145.out | refine below_set ?_ GE150.out) | exact HB.out)⟩⟩
          ·rw [if_neg c28] at H
           have c28b0 : (Op.bytesLess (((rd_T26 l0 (ji25)).f0).toList) (((rd_T26 l0 x21_1).f0).toList)) = false := by simpa using c28
           clear c28
           have H' := Yd H
           clear H
           try go_wp2
           have n0_ : Aside0 (((((((w21.setCell ⟨gb150,0,none⟩ (.string ((rd_T26 l0 x21_1).f0))).setCell ⟨gb150,1,none⟩ (.int .i64 ((rd_T26 l0 x21_1).f1))).setCell ⟨gb150,2,none⟩ (.int .i64 ((rd_T26 l0 x21_1).f2))).setCell ⟨gb150,3,none⟩ (.int .i64 ((rd_T26 l0 x21_1).f3.f0))).setCell ⟨gb150,4,none⟩ (.int .i64 ((rd_T26 l0 x21_1).f3.f1))).setCell ⟨gb150,5,none⟩ (.int .i64 ((rd_T26 l0 x21_1).f4))).heap[gb145]? = some (.cells #[.slice (some ad149) l0.length c0] 22 (0,0))) := ⟨by (with_reducible repeat (first | refine blk_drewN ?_ _ | refine blk_drew ?_ | refine blk_alloc ?_ _));refine blk_far ?_ NB145_150.out _;(with_reducible repeat (first | refine blk_drewN ?_ _ | refine blk_drew ?_ | refine blk_alloc ?_ _));refine blk_far ?_ NB145_150.out _;(with_reducible repeat (first | refine blk_drewN ?_ _ | refine blk_drew ?_ | refine blk_alloc ?_ _));refine blk_far ?_ NB145_150.out _;(with_reducible repeat (first | refine blk_drewN ?_ _ | refine blk_drew ?_ | refine blk_alloc ?_ _));refine blk_far ?_ NB145_150.out _;(with_reducible repeat (first | refine blk_drewN ?_ _ | refine blk_drew ?_ | refine blk_alloc ?_ _));refine blk_far ?_ NB145_150.out _;(with_reducible repeat (first | refine blk_drewN ?_ _ | refine blk_drew ?_ | refine blk_alloc ?_ _));refine blk_far ?_ NB145_150.out _;(with_reducible repeat (first | refine blk_drewN ?_ _ | refine blk_drew ?_ | refine blk_alloc ?_ _));exact BK145.out⟩
           have n1_ : Aside0 (((((((w21.setCell ⟨gb150,0,none⟩ (.string ((rd_T26 l0 x21_1).f0))).setCell ⟨gb150,1,none⟩ (.int .i64 ((rd_T26 l0 x21_1).f1))).setCell ⟨gb150,2,none⟩ (.int .i64 ((rd_T26 l0 x21_1).f2))).setCell ⟨gb150,3,none⟩ (.int .i64 ((rd_T26 l0 x21_1).f3.f0))).setCell ⟨gb150,4,none⟩ (.int .i64 ((rd_T26 l0 x21_1).f3.f1))).setCell ⟨gb150,5,none⟩ (.int .i64 ((rd_T26 l0 x21_1).f4))).heap[gb150]? = some (.cells #[.string ((rd_T26 l0 x21_1).f0),.int .i64 ((rd_T26 l0 x21_1).f1),.int .i64 ((rd_T26 l0 x21_1).f2),.int .i64 ((rd_T26 l0 x21_1).f3.f0),.int .i64 ((rd_T26 l0 x21_1).f3.f1),.int .i64 ((rd_T26 l0 x21_1).f4)] 26 (0,0))) := ⟨by (with_reducible repeat (first | refine blk_drewN ?_ _ | refine blk_drew ?_ | refine blk_alloc ?_ _));refine blk_put (cs := #[.string ((rd_T26 l0 x21_1).f0),.int .i64 ((rd_T26 l0 x21_1).f1),.int .i64 ((rd_T26 l0 x21_1).f2),.int .i64 ((rd_T26 l0 x21_1).f3.f0),.int .i64 ((rd_T26 l0 x21_1).f3.f1),.int .i64 0]) ?_ 5 _ rfl;(with_reducible repeat (first | refine blk_drewN ?_ _ | refine blk_drew ?_ | refine blk_alloc ?_ _));refine blk_put (cs := #[.string ((rd_T26 l0 x21_1).f0),.int .i64 ((rd_T26 l0 x21_1).f1),.int .i64 ((rd_T26 l0 x21_1).f2),.int .i64 ((rd_T26 l0 x21_1).f3.f0),.int .i64 0,.int .i64 0]) ?_ 4 _ rfl;(with_reducible repeat (first | refine blk_drewN ?_ _ | refine blk_drew ?_ | refine blk_alloc ?_ _));refine blk_put (cs := #[.string ((rd_T26 l0 x21_1).f0),.int .i64 ((rd_T26 l0 x21_1).f1),.int .i64 ((rd_T26 l0 x21_1).f2),.int .i64 0,.int .i64 0,.int .i64 0]) ?_ 3 _ rfl;(with_reducible repeat (first | refine blk_drewN ?_ _ | refine blk_drew ?_ | refine blk_alloc ?_ _));refine blk_put (cs := #[.string ((rd_T26 l0 x21_1).f0),.int .i64 ((rd_T26 l0 x21_1).f1),.int .i64 0,.int .i64 0,.int .i64 0,.int .i64 0]) ?_ 2 _ rfl;(with_reducible repeat (first | refine blk_drewN ?_ _ | refine blk_drew ?_ | refine blk_alloc ?_ _));refine blk_put (cs := #[.string ((rd_T26 l0 x21_1).f0),.int .i64 0,.int .i64 0,.int .i64 0,.int .i64 0,.int .i64 0]) ?_ 1 _ rfl;(with_reducible repeat (first | refine blk_drewN ?_ _ | refine blk_drew ?_ | refine blk_alloc ?_ _));refine blk_put (cs := #[.string (⟨#[]⟩ : ByteArray),.int .i64 0,.int .i64 0,.int .i64 0,.int .i64 0,.int .i64 0]) ?_ 0 _ rfl;(with_reducible repeat (first | refine blk_drewN ?_ _ | refine blk_drew ?_ | refine blk_alloc ?_ _));exact BK150.out⟩
           have n2_ : Aside0 (Below w.heap.size w ((((((w21.setCell ⟨gb150,0,none⟩ (.string ((rd_T26 l0 x21_1).f0))).setCell ⟨gb150,1,none⟩ (.int .i64 ((rd_T26 l0 x21_1).f1))).setCell ⟨gb150,2,none⟩ (.int .i64 ((rd_T26 l0 x21_1).f2))).setCell ⟨gb150,3,none⟩ (.int .i64 ((rd_T26 l0 x21_1).f3.f0))).setCell ⟨gb150,4,none⟩ (.int .i64 ((rd_T26 l0 x21_1).f3.f1))).setCell ⟨gb150,5,none⟩ (.int .i64 ((rd_T26 l0 x21_1).f4)))) := ⟨by repeat (first | (with_reducible first | exact HB.out | apply below_alloc | apply Y15 | apply below_drew1 | refine below_set ?_ GE145.out | refine below_set ?_ GE150.out) | exact HB.out)⟩
           (try clear BK145)
           (try clear BK150)
           (try clear HB)
           generalize ((((((w21.setCell ⟨gb150,0,none⟩ (.string ((rd_T26 l0 x21_1).f0))).setCell ⟨gb150,1,none⟩ (.int .i64 ((rd_T26 l0 x21_1).f1))).setCell ⟨gb150,2,none⟩ (.int .i64 ((rd_T26 l0 x21_1).f2))).setCell ⟨gb150,3,none⟩ (.int .i64 ((rd_T26 l0 x21_1).f3.f0))).setCell ⟨gb150,4,none⟩ (.int .i64 ((rd_T26 l0 x21_1).f3.f1))).setCell ⟨gb150,5,none⟩ (.int .i64 ((rd_T26 l0 x21_1).f4))) = w36 at n0_ n1_ n2_ ⊢
           have BK145 := n0_
           have BK150 := n1_
           have HB := n2_
           clear n0_ n1_ n2_
           have n0_ := Yd (blk_drew BK145.out)
           have n1_ := Yd (blk_drew BK150.out)
           have n2_ := Yd (below_drew1 HB.out)
           clear BK145
           clear BK150
           clear HB
           have BK145 := n0_
           have BK150 := n1_
           have HB := n2_
           clear n0_ n1_ n2_
           have p151 : 0 ≤ ((ji25) : Int) := Y9
           have q151 : (ji25) < (l0.length : Int) := Y9
           obtain ⟨ad151,e151,hx151_0,hx151_1,hx151_2,hx151_3,hx151_4,hx151_5⟩ := at_T26 HR0.out (ji25) p151 q151
           have hw151_5 := hx151_5
           have hw151_4 := hx151_4
           have hw151_3 := hx151_3
           have hw151_2 := hx151_2
           have hw151_1 := hx151_1
           have hw151_0 := hx151_0
           obtain rfl : ad149 = ad151 := (by injection e151)
           replace hx151_0 := Y10 HB.out hx151_0
           replace hx151_1 := Y10 HB.out hx151_1
           replace hx151_2 := Y10 HB.out hx151_2
           replace hx151_3 := Y10 HB.out hx151_3
           replace hx151_4 := Y10 HB.out hx151_4
           replace hx151_5 := Y10 HB.out hx151_5
           replace p151 := eq_true p151
           replace q151 := eq_true q151
           refine start_ (n := 20) (S := fun w' => w'.cell? ⟨gb145,0,none⟩ = some (.slice (some ad149) l0.length c0) ∧ w'.cell? ⟨gb150,0,none⟩ = some (.string ((rd_T26 l0 x21_1).f0)) ∧ w'.cell? ⟨gb150,1,none⟩ = some (.int .i64 ((rd_T26 l0 x21_1).f1)) ∧ w'.cell? ⟨gb150,2,none⟩ = some (.int .i64 ((rd_T26 l0 x21_1).f2)) ∧ w'.cell? ⟨gb150,3,none⟩ = some (.int .i64 ((rd_T26 l0 x21_1).f3.f0)) ∧ w'.cell? ⟨gb150,4,none⟩ = some (.int .i64 ((rd_T26 l0 x21_1).f3.f1)) ∧ w'.cell? ⟨gb150,5,none⟩ = some (.int .i64 ((rd_T26 l0 x21_1).f4)) ∧ w'.cell? (ad149.add (((ji25)).toNat * 6)) = some (.string ((rd_T26 l0 (ji25)).f0)) ∧ w'.cell? ⟨(ad149.add (((ji25)).toNat * 6)).block,(ad149.add (((ji25)).toNat * 6)).off + 1,none⟩ = some (.int .i64 ((rd_T26 l0 (ji25)).f1)) ∧ w'.cell? ⟨(ad149.add (((ji25)).toNat * 6)).block,(ad149.add (((ji25)).toNat * 6)).off + 2,none⟩ = some (.int .i64 ((rd_T26 l0 (ji25)).f2)) ∧ w'.cell? ⟨(ad149.add (((ji25)).toNat * 6)).block,(ad149.add (((ji25)).toNat * 6)).off + 3,none⟩ = some (.int .i64 ((rd_T26 l0 (ji25)).f3.f0)) ∧ w'.cell? ⟨(ad149.add (((ji25)).toNat * 6)).block,(ad149.add (((ji25)).toNat * 6)).off + 4,none⟩ = some (.int .i64 ((rd_T26 l0 (ji25)).f3.f1)) ∧ w'.cell? ⟨(ad149.add (((ji25)).toNat * 6)).block,(ad149.add (((ji25)).toNat * 6)).off + 5,none⟩ = some (.int .i64 ((rd_T26 l0 (ji25)).f4))) (ds := []) #[YF,YF,YF,YF,YF,YF,YF,YF,YF,YF,YF,YF,YF,YF,YF,YF,YF,YF,YF,YF] (by kernel_rfl) rfl rfl ⟨(blk_cell BK145.out 0).trans rfl,(blk_cell BK150.out 0).trans rfl,(blk_cell BK150.out 1).trans rfl,(blk_cell BK150.out 2).trans rfl,(blk_cell BK150.out 3).trans rfl,(blk_cell BK150.out 4).trans rfl,(blk_cell BK150.out 5).trans rfl,(Y10 HB.out hw151_0 :),(Y10 HB.out hw151_1 :),(Y10 HB.out hw151_2 :),(Y10 HB.out hw151_3 :),(Y10 HB.out hw151_4 :),(Y10 HB.out hw151_5 :)⟩ (fun hHeld => ?_);refine with_tabW override_Check.tab13 override_Check.bits13 (fun HT_ HW_ => ?_)
           generalize w36.drew = w37 at BK145 BK150 HB hx151_0 hx151_1 hx151_2 hx151_3 hx151_4 hx151_5 hHeld ⊢
           refine pure_ (i := 0) (N := some 26) (v := ?_) (a' := ?_) #[YT,YF,YF,YF,YF,YF,YF,YF,YF,YF,YF,YF,YF,YF,YF,YF,YF,YF,YF,YF] rfl rfl (any_of HT_.out (by kernel_rfl)) (fun _ _ _ h => h) (Or.inl ⟨by rfl,?_⟩) ?_ ?_
           rotate_left
           ·intro w'
            go_simp
            with_reducible rfl
           rotate_left
           ·simp only [Act.put,Ya,Yb,Yc,i64_w,i32_w]
            rfl
           refine pure_ (i := 1) (N := some 27) (v := ?_) (a' := ?_) #[YT,YT,YF,YF,YF,YF,YF,YF,YF,YF,YF,YF,YF,YF,YF,YF,YF,YF,YF,YF] rfl rfl (any_of HT_.out (by kernel_rfl)) (fun _ _ _ h => h) (Or.inl ⟨by rfl,?_⟩) ?_ ?_
           rotate_left
           ·intro w'
            go_simp
            with_reducible rfl
           rotate_left
           ·simp only [Act.put,Ya,Yb,Yc,i64_w,i32_w]
            rfl
           refine pure_ (i := 2) (N := some 28) (v := ?_) (a' := ?_) #[YT,YT,YT,YF,YF,YF,YF,YF,YF,YF,YF,YF,YF,YF,YF,YF,YF,YF,YF,YF] rfl rfl (any_of HT_.out (by kernel_rfl)) (fun _ _ _ h => h) (Or.inl ⟨by rfl,?_⟩) ?_ ?_
           rotate_left
           ·intro w'
            go_simp
            with_reducible rfl
           rotate_left
           ·simp only [Act.put,Ya,Yb,Yc,i64_w,i32_w]
            rfl
           refine pure_ (i := 4) (N := some 30) (v := ?_) (a' := ?_) #[YT,YT,YT,YF,YT,YF,YF,YF,YF,YF,YF,YF,YF,YF,YF,YF,YF,YF,YF,YF] rfl rfl (any_of HT_.out (by kernel_rfl)) (fun _ _ _ h => h) (Or.inl ⟨by rfl,?_⟩) ?_ ?_
           rotate_left
           ·intro w'
            go_simp
            with_reducible rfl
           rotate_left
           ·simp only [Act.put,Ya,Yb,Yc,i64_w,i32_w]
            rfl
           refine pure_ (i := 5) (N := some 31) (v := ?_) (a' := ?_) #[YT,YT,YT,YF,YT,YT,YF,YF,YF,YF,YF,YF,YF,YF,YF,YF,YF,YF,YF,YF] rfl rfl (any_of HT_.out (by kernel_rfl)) (fun _ _ _ h => h) (Or.inl ⟨by rfl,?_⟩) ?_ ?_
           rotate_left
           ·intro w'
            go_simp
            with_reducible rfl
           rotate_left
           ·simp only [Act.put,Ya,Yb,Yc,i64_w,i32_w]
            rfl
           refine pure_ (i := 9) (N := some 35) (v := ?_) (a' := ?_) #[YT,YT,YT,YF,YT,YT,YF,YF,YF,YT,YF,YF,YF,YF,YF,YF,YF,YF,YF,YF] rfl rfl (any_of HT_.out (by kernel_rfl)) (fun _ _ _ h => h) (Or.inl ⟨by rfl,?_⟩) ?_ ?_
           rotate_left
           ·intro w'
            go_simp
            with_reducible rfl
           rotate_left
           ·simp only [Act.put,Ya,Yb,Yc,i64_w,i32_w]
            rfl
           refine take_ (i := 3) (N := some 29) (v := ?_) (a' := ?_) #[YT,YT,YT,YT,YT,YT,YF,YF,YF,YT,YF,YF,YF,YF,YF,YF,YF,YF,YF,YF] rfl rfl (take_ofW HT_.out HW_.out (by kernel_rfl)) (fun _ _ _ h => h) (Or.inl ⟨by rfl,?_⟩) hHeld ?_ ?_
           rotate_left
           ·rintro w' ⟨s0,s1,s2,s3,s4,s5,s6,s7,s8,s9,s10,s11,s12⟩
            go_simp
            with_reducible rfl
           rotate_left
           ·simp only [Act.put,Ya,Yb,Yc,i64_w,i32_w]
            rfl
           refine pure_ (i := 6) (N := some 32) (v := ?_) (a' := ?_) #[YT,YT,YT,YT,YT,YT,YT,YF,YF,YT,YF,YF,YF,YF,YF,YF,YF,YF,YF,YF] rfl rfl (any_of HT_.out (by kernel_rfl)) (fun _ _ _ h => h) (Or.inl ⟨by rfl,?_⟩) ?_ ?_
           rotate_left
           ·intro w'
            go_simp
            with_reducible rfl
           rotate_left
           ·simp only [Act.put,Ya,Yb,Yc,i64_w,i32_w]
            rfl
           refine pure_ (i := 7) (N := some 33) (v := ?_) (a' := ?_) #[YT,YT,YT,YT,YT,YT,YT,YT,YF,YT,YF,YF,YF,YF,YF,YF,YF,YF,YF,YF] rfl rfl (any_of HT_.out (by kernel_rfl)) (fun _ _ _ h => h) (Or.inl ⟨by rfl,?_⟩) ?_ ?_
           rotate_left
           ·intro w'
            go_simp
            with_reducible rfl
           rotate_left
           ·simp only [Act.put,Ya,Yb,Yc,i64_w,i32_w]
            rfl
           refine take_ (i := 8) (N := some 34) (v := ?_) (a' := ?_) #[YT,YT,YT,YT,YT,YT,YT,YT,YT,YT,YF,YF,YF,YF,YF,YF,YF,YF,YF,YF] rfl rfl (take_ofW HT_.out HW_.out (by kernel_rfl)) (fun _ _ _ h => h) (Or.inl ⟨by rfl,?_⟩) hHeld ?_ ?_
           rotate_left
           ·rintro w' ⟨s0,s1,s2,s3,s4,s5,s6,s7,s8,s9,s10,s11,s12⟩
            go_simp
            with_reducible rfl
           rotate_left
           ·simp only [Act.put,Ya,Yb,Yc,i64_w,i32_w]
            rfl
           refine take_ (i := 10) (N := some 36) (v := ?_) (a' := ?_) #[YT,YT,YT,YT,YT,YT,YT,YT,YT,YT,YT,YF,YF,YF,YF,YF,YF,YF,YF,YF] rfl rfl (take_ofW HT_.out HW_.out (by kernel_rfl)) (fun _ _ _ h => h) (Or.inl ⟨by rfl,?_⟩) hHeld ?_ ?_
           rotate_left
           ·rintro w' ⟨s0,s1,s2,s3,s4,s5,s6,s7,s8,s9,s10,s11,s12⟩
            go_simp
            with_reducible rfl
           rotate_left
           ·simp only [Act.put,Ya,Yb,Yc,i64_w,i32_w]
            rfl
           refine pure_ (i := 11) (N := some 37) (v := ?_) (a' := ?_) #[YT,YT,YT,YT,YT,YT,YT,YT,YT,YT,YT,YT,YF,YF,YF,YF,YF,YF,YF,YF] rfl rfl (any_of HT_.out (by kernel_rfl)) (fun _ _ _ h => h) (Or.inl ⟨by rfl,?_⟩) ?_ ?_
           rotate_left
           ·intro w'
            go_simp
            with_reducible rfl
           rotate_left
           ·simp only [Act.put,Ya,Yb,Yc,i64_w,i32_w]
            rfl
           refine pure_ (i := 12) (N := some 38) (v := ?_) (a' := ?_) #[YT,YT,YT,YT,YT,YT,YT,YT,YT,YT,YT,YT,YT,YF,YF,YF,YF,YF,YF,YF] rfl rfl (any_of HT_.out (by kernel_rfl)) (fun _ _ _ h => h) (Or.inl ⟨by rfl,?_⟩) ?_ ?_
           rotate_left
           ·intro w'
            go_simp
            with_reducible rfl
           rotate_left
           ·simp only [Act.put,Ya,Yb,Yc,i64_w,i32_w]
            rfl
           refine pure_ (i := 13) (N := some 39) (v := ?_) (a' := ?_) #[YT,YT,YT,YT,YT,YT,YT,YT,YT,YT,YT,YT,YT,YT,YF,YF,YF,YF,YF,YF] rfl rfl (any_of HT_.out (by kernel_rfl)) (fun _ _ _ h => h) (Or.inl ⟨by rfl,?_⟩) ?_ ?_
           rotate_left
           ·intro w'
            go_simp
            with_reducible rfl
           rotate_left
           ·simp only [Act.put,Ya,Yb,Yc,i64_w,i32_w]
            rfl
           refine pure_ (i := 14) (N := some 40) (v := undef) (a' := ?_) #[YT,YT,YT,YT,YT,YT,YT,YT,YT,YT,YT,YT,YT,YT,YT,YF,YF,YF,YF,YF] rfl rfl (any_of HT_.out (by kernel_rfl)) (fun _ _ _ h => h) (Or.inr ⟨by rfl,rfl⟩) ?_ ?_
           rotate_left
           ·simp only [Act.put,Ya,Yb,Yc,i64_w,i32_w]
            rfl
           refine pure_ (i := 15) (N := some 41) (v := undef) (a' := ?_) #[YT,YT,YT,YT,YT,YT,YT,YT,YT,YT,YT,YT,YT,YT,YT,YT,YF,YF,YF,YF] rfl rfl (any_of HT_.out (by kernel_rfl)) (fun _ _ _ h => h) (Or.inr ⟨by rfl,rfl⟩) ?_ ?_
           rotate_left
           ·simp only [Act.put,Ya,Yb,Yc,i64_w,i32_w]
            rfl
           refine pure_ (i := 16) (N := some 42) (v := undef) (a' := ?_) #[YT,YT,YT,YT,YT,YT,YT,YT,YT,YT,YT,YT,YT,YT,YT,YT,YT,YF,YF,YF] rfl rfl (any_of HT_.out (by kernel_rfl)) (fun _ _ _ h => h) (Or.inr ⟨by rfl,rfl⟩) ?_ ?_
           rotate_left
           ·simp only [Act.put,Ya,Yb,Yc,i64_w,i32_w]
            rfl
           refine pure_ (i := 17) (N := some 43) (v := undef) (a' := ?_) #[YT,YT,YT,YT,YT,YT,YT,YT,YT,YT,YT,YT,YT,YT,YT,YT,YT,YT,YF,YF] rfl rfl (any_of HT_.out (by kernel_rfl)) (fun _ _ _ h => h) (Or.inr ⟨by rfl,rfl⟩) ?_ ?_
           rotate_left
           ·simp only [Act.put,Ya,Yb,Yc,i64_w,i32_w]
            rfl
           refine pure_ (i := 18) (N := some 44) (v := undef) (a' := ?_) #[YT,YT,YT,YT,YT,YT,YT,YT,YT,YT,YT,YT,YT,YT,YT,YT,YT,YT,YT,YF] rfl rfl (any_of HT_.out (by kernel_rfl)) (fun _ _ _ h => h) (Or.inr ⟨by rfl,rfl⟩) ?_ ?_
           rotate_left
           ·simp only [Act.put,Ya,Yb,Yc,i64_w,i32_w]
            rfl
           refine pure_ (i := 19) (N := some 45) (v := ?_) (a' := ?_) #[YT,YT,YT,YT,YT,YT,YT,YT,YT,YT,YT,YT,YT,YT,YT,YT,YT,YT,YT,YT] rfl rfl (any_of HT_.out (by kernel_rfl)) (fun _ _ _ h => h) (Or.inl ⟨by rfl,?_⟩) ?_ ?_
           rotate_left
           ·intro w'
            go_simp
            with_reducible rfl
           rotate_left
           ·simp only [Act.put,Ya,Yb,Yc,i64_w,i32_w]
            rfl
           refine done_ (done_of HT_.out (by kernel_rfl)) ?_
           try go_wp2
           go_meet
           case rel => exact ⟨_,(true),Y12,H',⟨by have := HK1.out;first | omega | exact Nat.le_refl _⟩,⟨Y6 BK145.out⟩,⟨Y6 BK150.out⟩,⟨by repeat (first | (with_reducible first | exact HB.out | apply below_alloc | apply Y15 | apply below_drew1 | refine below_set ?_ GE145.out | refine below_set ?_ GE150.out) | exact HB.out)⟩⟩
         ·rw [if_neg c24] at H
          have c24b0 : decide (0 < x21_1) = false := decide_eq_false c24
          clear c24
          (first | rw [c24b0] | (simp only [i64_w,i32_w];rw [c24b0]) | skip)
          have c38b0 := eq_true (Y9 : 0 ≤ x21_1)
          by_cases c39 : x21_1 ≤ (l0.length : Int)
          case neg => rw [if_neg c39] at H;exact absurd H (by simp)
          rw [if_pos c39] at H
          have c39b0 := eq_true c39
          have c39b1 : decide (x21_1 ≤ (l0.length : Int)) = true := decide_eq_true c39
          clear c39
          obtain ⟨y157,hy157⟩ : ∃ y_ : List (S26),y_ = (l0.take (x21_1 : Int).toNat) := ⟨_,rfl⟩
          replace H : ((api_Hold__c36.f k1 y157 ((rd_T26 l0 x21_1).f0) ((rd_T26 l0 x21_1).f1) ((rd_T26 l0 x21_1).f2) ((rd_T26 l0 x21_1).f3.f0) ((rd_T26 l0 x21_1).f3.f1) ((rd_T26 l0 x21_1).f4)).bind fun t161 => (override_Check.j1 k1 l0 (l0.length : Int) x21_1 t161 l0)) = some r := by first | (rw [hy157];with_reducible exact H) | (have H2_ := (Option.bind_some _ _).symm.trans H;rw [hy157];with_reducible exact H2_) | (have H2_ := (Option.bind_some _ _).symm.trans H;with_reducible exact H2_) | with_reducible exact H | (rw [hy157];exact H) | exact H
          have Ny157 := Yd hy157
          clear hy157
          replace H := Option.bind_eq_some_iff.mp H
          obtain ⟨t161,A400,H⟩ := H
          replace H : (override_Check.j1 k1 l0 (l0.length : Int) x21_1 t161 l0) = some r := H
          have A40 := Yd A400
          clear A400
          have H' := Yd H
          clear H
          try go_wp2
          have n0_ : Aside0 (((((((w21.setCell ⟨gb150,0,none⟩ (.string ((rd_T26 l0 x21_1).f0))).setCell ⟨gb150,1,none⟩ (.int .i64 ((rd_T26 l0 x21_1).f1))).setCell ⟨gb150,2,none⟩ (.int .i64 ((rd_T26 l0 x21_1).f2))).setCell ⟨gb150,3,none⟩ (.int .i64 ((rd_T26 l0 x21_1).f3.f0))).setCell ⟨gb150,4,none⟩ (.int .i64 ((rd_T26 l0 x21_1).f3.f1))).setCell ⟨gb150,5,none⟩ (.int .i64 ((rd_T26 l0 x21_1).f4))).heap[gb145]? = some (.cells #[.slice (some ad149) l0.length c0] 22 (0,0))) := ⟨by (with_reducible repeat (first | refine blk_drewN ?_ _ | refine blk_drew ?_ | refine blk_alloc ?_ _));refine blk_far ?_ NB145_150.out _;(with_reducible repeat (first | refine blk_drewN ?_ _ | refine blk_drew ?_ | refine blk_alloc ?_ _));refine blk_far ?_ NB145_150.out _;(with_reducible repeat (first | refine blk_drewN ?_ _ | refine blk_drew ?_ | refine blk_alloc ?_ _));refine blk_far ?_ NB145_150.out _;(with_reducible repeat (first | refine blk_drewN ?_ _ | refine blk_drew ?_ | refine blk_alloc ?_ _));refine blk_far ?_ NB145_150.out _;(with_reducible repeat (first | refine blk_drewN ?_ _ | refine blk_drew ?_ | refine blk_alloc ?_ _));refine blk_far ?_ NB145_150.out _;(with_reducible repeat (first | refine blk_drewN ?_ _ | refine blk_drew ?_ | refine blk_alloc ?_ _));refine blk_far ?_ NB145_150.out _;(with_reducible repeat (first | refine blk_drewN ?_ _ | refine blk_drew ?_ | refine blk_alloc ?_ _));exact BK145.out⟩
          have n1_ : Aside0 (((((((w21.setCell ⟨gb150,0,none⟩ (.string ((rd_T26 l0 x21_1).f0))).setCell ⟨gb150,1,none⟩ (.int .i64 ((rd_T26 l0 x21_1).f1))).setCell ⟨gb150,2,none⟩ (.int .i64 ((rd_T26 l0 x21_1).f2))).setCell ⟨gb150,3,none⟩ (.int .i64 ((rd_T26 l0 x21_1).f3.f0))).setCell ⟨gb150,4,none⟩ (.int .i64 ((rd_T26 l0 x21_1).f3.f1))).setCell ⟨gb150,5,none⟩ (.int .i64 ((rd_T26 l0 x21_1).f4))).heap[gb150]? = some (.cells #[.string ((rd_T26 l0 x21_1).f0),.int .i64 ((rd_T26 l0 x21_1).f1),.int .i64 ((rd_T26 l0 x21_1).f2),.int .i64 ((rd_T26 l0 x21_1).f3.f0),.int .i64 ((rd_T26 l0 x21_1).f3.f1),.int .i64 ((rd_T26 l0 x21_1).f4)] 26 (0,0))) := ⟨by (with_reducible repeat (first | refine blk_drewN ?_ _ | refine blk_drew ?_ | refine blk_alloc ?_ _));refine blk_put (cs := #[.string ((rd_T26 l0 x21_1).f0),.int .i64 ((rd_T26 l0 x21_1).f1),.int .i64 ((rd_T26 l0 x21_1).f2),.int .i64 ((rd_T26 l0 x21_1).f3.f0),.int .i64 ((rd_T26 l0 x21_1).f3.f1),.int .i64 0]) ?_ 5 _ rfl;(with_reducible repeat (first | refine blk_drewN ?_ _ | refine blk_drew ?_ | refine blk_alloc ?_ _));refine blk_put (cs := #[.string ((rd_T26 l0 x21_1).f0),.int .i64 ((rd_T26 l0 x21_1).f1),.int .i64 ((rd_T26 l0 x21_1).f2),.int .i64 ((rd_T26 l0 x21_1).f3.f0),.int .i64 0,.int .i64 0]) ?_ 4 _ rfl;(with_reducible repeat (first | refine blk_drewN ?_ _ | refine blk_drew ?_ | refine blk_alloc ?_ _));refine blk_put (cs := #[.string ((rd_T26 l0 x21_1).f0),.int .i64 ((rd_T26 l0 x21_1).f1),.int .i64 ((rd_T26 l0 x21_1).f2),.int .i64 0,.int .i64 0,.int .i64 0]) ?_ 3 _ rfl;(with_reducible repeat (first | refine blk_drewN ?_ _ | refine blk_drew ?_ | refine blk_alloc ?_ _));refine blk_put (cs := #[.string ((rd_T26 l0 x21_1).f0),.int .i64 ((rd_T26 l0 x21_1).f1),.int .i64 0,.int .i64 0,.int .i64 0,.int .i64 0]) ?_ 2 _ rfl;(with_reducible repeat (first | refine blk_drewN ?_ _ | refine blk_drew ?_ | refine blk_alloc ?_ _));refine blk_put (cs := #[.string ((rd_T26 l0 x21_1).f0),.int .i64 0,.int .i64 0,.int .i64 0,.int .i64 0,.int .i64 0]) ?_ 1 _ rfl;(with_reducible repeat (first | refine blk_drewN ?_ _ | refine blk_drew ?_ | refine blk_alloc ?_ _));refine blk_put (cs := #[.string (⟨#[]⟩ : ByteArray),.int .i64 0,.int .i64 0,.int .i64 0,.int .i64 0,.int .i64 0]) ?_ 0 _ rfl;(with_reducible repeat (first | refine blk_drewN ?_ _ | refine blk_drew ?_ | refine blk_alloc ?_ _));exact BK150.out⟩
          have n2_ : Aside0 (Below w.heap.size w ((((((w21.setCell ⟨gb150,0,none⟩ (.string ((rd_T26 l0 x21_1).f0))).setCell ⟨gb150,1,none⟩ (.int .i64 ((rd_T26 l0 x21_1).f1))).setCell ⟨gb150,2,none⟩ (.int .i64 ((rd_T26 l0 x21_1).f2))).setCell ⟨gb150,3,none⟩ (.int .i64 ((rd_T26 l0 x21_1).f3.f0))).setCell ⟨gb150,4,none⟩ (.int .i64 ((rd_T26 l0 x21_1).f3.f1))).setCell ⟨gb150,5,none⟩ (.int .i64 ((rd_T26 l0 x21_1).f4)))) := ⟨by repeat (first | (with_reducible first | exact HB.out | apply below_alloc | apply Y15 | apply below_drew1 | refine below_set ?_ GE145.out | refine below_set ?_ GE150.out) | exact HB.out)⟩
          (try clear BK145)
          (try clear BK150)
          (try clear HB)
          generalize ((((((w21.setCell ⟨gb150,0,none⟩ (.string ((rd_T26 l0 x21_1).f0))).setCell ⟨gb150,1,none⟩ (.int .i64 ((rd_T26 l0 x21_1).f1))).setCell ⟨gb150,2,none⟩ (.int .i64 ((rd_T26 l0 x21_1).f2))).setCell ⟨gb150,3,none⟩ (.int .i64 ((rd_T26 l0 x21_1).f3.f0))).setCell ⟨gb150,4,none⟩ (.int .i64 ((rd_T26 l0 x21_1).f3.f1))).setCell ⟨gb150,5,none⟩ (.int .i64 ((rd_T26 l0 x21_1).f4))) = w41 at n0_ n1_ n2_ ⊢
          have BK145 := n0_
          have BK150 := n1_
          have HB := n2_
          clear n0_ n1_ n2_
          have n0_ := Yd (blk_drew BK145.out)
          have n1_ := Yd (blk_drew BK150.out)
          have n2_ := Yd (below_drew1 HB.out)
          clear BK145
          clear BK150
          clear HB
          have BK145 := n0_
          have BK150 := n1_
          have HB := n2_
          clear n0_ n1_ n2_
          have q43 : (x21_1 : Int) ≤ ((l0.length : Int) : Int) := Y9
          obtain ⟨i043,hi043,_,hsz43,_⟩ := info_parts info26
          have hroom43 : l0.length ≤ c0 := HC0.out
          have hC43 : Kd.C k26 _ (some ad149) l0.length l0 := HR0.out
          have hcut43 := cut_to (P := Try.prog) 22 26 .i64 Try.underlying22 hi043 (some ad149) l0.length c0 x21_1 (Y9) q43 hroom43
          have hr43 := Kd.C_take (m := (x21_1 : Int).toNat) hC43 (by omega)
          have hy43 : y157.length = (x21_1 : Int).toNat := (by rw [Ny157.out,List.length_take];omega)
          rw [← Ny157.out] at hr43
          rw [← hy43] at hcut43
          have HR160 := Yd hr43
          have HC160 := Yd (show y157.length ≤ c0 from by omega)
          clear hr43 hC43 hroom43 hi043 hsz43
          have KY43 := Yd hy43
          clear hy43
          replace q43 := eq_true q43
          refine start_ (n := 20) (S := fun w' => w'.cell? ⟨gb145,0,none⟩ = some (.slice (some ad149) l0.length c0)) (ds := []) #[YF,YF,YF,YF,YF,YF,YF,YF,YF,YF,YF,YF,YF,YF,YF,YF,YF,YF,YF,YF] (by kernel_rfl) rfl rfl ((blk_cell BK145.out 0).trans rfl) (fun hHeld => ?_);refine with_tabW override_Check.tab13 override_Check.bits13 (fun HT_ HW_ => ?_)
          generalize w41.drew = w42 at BK145 BK150 HB HR160 hHeld ⊢
          refine pure_ (i := 0) (N := some 26) (v := ?_) (a' := ?_) #[YT,YF,YF,YF,YF,YF,YF,YF,YF,YF,YF,YF,YF,YF,YF,YF,YF,YF,YF,YF] rfl rfl (any_of HT_.out (by kernel_rfl)) (fun _ _ _ h => h) (Or.inl ⟨by rfl,?_⟩) ?_ ?_
          rotate_left
          ·intro w'
           go_simp
           with_reducible rfl
          rotate_left
          ·simp only [Act.put,Ya,Yb,Yc,i64_w,i32_w]
           rfl
          refine pure_ (i := 1) (N := some 27) (v := ?_) (a' := ?_) #[YT,YT,YF,YF,YF,YF,YF,YF,YF,YF,YF,YF,YF,YF,YF,YF,YF,YF,YF,YF] rfl rfl (any_of HT_.out (by kernel_rfl)) (fun _ _ _ h => h) (Or.inl ⟨by rfl,?_⟩) ?_ ?_
          rotate_left
          ·intro w'
           go_simp
           with_reducible rfl
          rotate_left
          ·simp only [Act.put,Ya,Yb,Yc,i64_w,i32_w]
           rfl
          refine pure_ (i := 2) (N := some 28) (v := ?_) (a' := ?_) #[YT,YT,YT,YF,YF,YF,YF,YF,YF,YF,YF,YF,YF,YF,YF,YF,YF,YF,YF,YF] rfl rfl (any_of HT_.out (by kernel_rfl)) (fun _ _ _ h => h) (Or.inl ⟨by rfl,?_⟩) ?_ ?_
          rotate_left
          ·intro w'
           go_simp
           with_reducible rfl
          rotate_left
          ·simp only [Act.put,Ya,Yb,Yc,i64_w,i32_w]
           rfl
          refine pure_ (i := 3) (N := some 29) (v := undef) (a' := ?_) #[YT,YT,YT,YT,YF,YF,YF,YF,YF,YF,YF,YF,YF,YF,YF,YF,YF,YF,YF,YF] rfl rfl (any_of HT_.out (by kernel_rfl)) (fun _ _ _ h => h) (Or.inr ⟨by rfl,rfl⟩) ?_ ?_
          rotate_left
          ·simp only [Act.put,Ya,Yb,Yc,i64_w,i32_w]
           rfl
          refine pure_ (i := 4) (N := some 30) (v := undef) (a' := ?_) #[YT,YT,YT,YT,YT,YF,YF,YF,YF,YF,YF,YF,YF,YF,YF,YF,YF,YF,YF,YF] rfl rfl (any_of HT_.out (by kernel_rfl)) (fun _ _ _ h => h) (Or.inr ⟨by rfl,rfl⟩) ?_ ?_
          rotate_left
          ·simp only [Act.put,Ya,Yb,Yc,i64_w,i32_w]
           rfl
          refine pure_ (i := 5) (N := some 31) (v := undef) (a' := ?_) #[YT,YT,YT,YT,YT,YT,YF,YF,YF,YF,YF,YF,YF,YF,YF,YF,YF,YF,YF,YF] rfl rfl (any_of HT_.out (by kernel_rfl)) (fun _ _ _ h => h) (Or.inr ⟨by rfl,rfl⟩) ?_ ?_
          rotate_left
          ·simp only [Act.put,Ya,Yb,Yc,i64_w,i32_w]
           rfl
          refine pure_ (i := 6) (N := some 32) (v := undef) (a' := ?_) #[YT,YT,YT,YT,YT,YT,YT,YF,YF,YF,YF,YF,YF,YF,YF,YF,YF,YF,YF,YF] rfl rfl (any_of HT_.out (by kernel_rfl)) (fun _ _ _ h => h) (Or.inr ⟨by rfl,rfl⟩) ?_ ?_
          rotate_left
          ·simp only [Act.put,Ya,Yb,Yc,i64_w,i32_w]
           rfl
          refine pure_ (i := 7) (N := some 33) (v := undef) (a' := ?_) #[YT,YT,YT,YT,YT,YT,YT,YT,YF,YF,YF,YF,YF,YF,YF,YF,YF,YF,YF,YF] rfl rfl (any_of HT_.out (by kernel_rfl)) (fun _ _ _ h => h) (Or.inr ⟨by rfl,rfl⟩) ?_ ?_
          rotate_left
          ·simp only [Act.put,Ya,Yb,Yc,i64_w,i32_w]
           rfl
          refine pure_ (i := 8) (N := some 34) (v := undef) (a' := ?_) #[YT,YT,YT,YT,YT,YT,YT,YT,YT,YF,YF,YF,YF,YF,YF,YF,YF,YF,YF,YF] rfl rfl (any_of HT_.out (by kernel_rfl)) (fun _ _ _ h => h) (Or.inr ⟨by rfl,rfl⟩) ?_ ?_
          rotate_left
          ·simp only [Act.put,Ya,Yb,Yc,i64_w,i32_w]
           rfl
          refine pure_ (i := 9) (N := some 35) (v := undef) (a' := ?_) #[YT,YT,YT,YT,YT,YT,YT,YT,YT,YT,YF,YF,YF,YF,YF,YF,YF,YF,YF,YF] rfl rfl (any_of HT_.out (by kernel_rfl)) (fun _ _ _ h => h) (Or.inr ⟨by rfl,rfl⟩) ?_ ?_
          rotate_left
          ·simp only [Act.put,Ya,Yb,Yc,i64_w,i32_w]
           rfl
          refine pure_ (i := 10) (N := some 36) (v := undef) (a' := ?_) #[YT,YT,YT,YT,YT,YT,YT,YT,YT,YT,YT,YF,YF,YF,YF,YF,YF,YF,YF,YF] rfl rfl (any_of HT_.out (by kernel_rfl)) (fun _ _ _ h => h) (Or.inr ⟨by rfl,rfl⟩) ?_ ?_
          rotate_left
          ·simp only [Act.put,Ya,Yb,Yc,i64_w,i32_w]
           rfl
          refine pure_ (i := 11) (N := some 37) (v := undef) (a' := ?_) #[YT,YT,YT,YT,YT,YT,YT,YT,YT,YT,YT,YT,YF,YF,YF,YF,YF,YF,YF,YF] rfl rfl (any_of HT_.out (by kernel_rfl)) (fun _ _ _ h => h) (Or.inr ⟨by rfl,rfl⟩) ?_ ?_
          rotate_left
          ·simp only [Act.put,Ya,Yb,Yc,i64_w,i32_w]
           rfl
          refine pure_ (i := 12) (N := some 38) (v := ?_) (a' := ?_) #[YT,YT,YT,YT,YT,YT,YT,YT,YT,YT,YT,YT,YT,YF,YF,YF,YF,YF,YF,YF] rfl rfl (any_of HT_.out (by kernel_rfl)) (fun _ _ _ h => h) (Or.inl ⟨by rfl,?_⟩) ?_ ?_
          rotate_left
          ·intro w'
           go_simp
           with_reducible rfl
          rotate_left
          ·simp only [Act.put,Ya,Yb,Yc,i64_w,i32_w]
           rfl
          refine pure_ (i := 13) (N := some 39) (v := ?_) (a' := ?_) #[YT,YT,YT,YT,YT,YT,YT,YT,YT,YT,YT,YT,YT,YT,YF,YF,YF,YF,YF,YF] rfl rfl (any_of HT_.out (by kernel_rfl)) (fun _ _ _ h => h) (Or.inl ⟨by rfl,?_⟩) ?_ ?_
          rotate_left
          ·intro w'
           go_simp
           with_reducible rfl
          rotate_left
          ·simp only [Act.put,Ya,Yb,Yc,i64_w,i32_w]
           rfl
          refine pure_ (i := 15) (N := some 41) (v := ?_) (a' := ?_) #[YT,YT,YT,YT,YT,YT,YT,YT,YT,YT,YT,YT,YT,YT,YF,YT,YF,YF,YF,YF] rfl rfl (any_of HT_.out (by kernel_rfl)) (fun _ _ _ h => h) (Or.inl ⟨by rfl,?_⟩) ?_ ?_
          rotate_left
          ·intro w'
           go_simp
           with_reducible rfl
          rotate_left
          ·simp only [Act.put,Ya,Yb,Yc,i64_w,i32_w]
           rfl
          refine pure_ (i := 17) (N := some 43) (v := ?_) (a' := ?_) #[YT,YT,YT,YT,YT,YT,YT,YT,YT,YT,YT,YT,YT,YT,YF,YT,YF,YT,YF,YF] rfl rfl (any_of HT_.out (by kernel_rfl)) (fun _ _ _ h => h) (Or.inl ⟨by rfl,?_⟩) ?_ ?_
          rotate_left
          ·intro w'
           go_simp
           with_reducible rfl
          rotate_left
          ·simp only [Act.put,Ya,Yb,Yc,i64_w,i32_w]
           rfl
          refine take_ (i := 14) (N := some 40) (v := ?_) (a' := ?_) #[YT,YT,YT,YT,YT,YT,YT,YT,YT,YT,YT,YT,YT,YT,YT,YT,YF,YT,YF,YF] rfl rfl (take_ofW HT_.out HW_.out (by kernel_rfl)) (fun _ _ _ h => h) (Or.inl ⟨by rfl,?_⟩) hHeld ?_ ?_
          rotate_left
          ·intro w' s0
           go_simp
           with_reducible rfl
          rotate_left
          ·simp only [Act.put,Ya,Yb,Yc,i64_w,i32_w]
           rfl
          refine pure_ (i := 16) (N := some 42) (v := ?_) (a' := ?_) #[YT,YT,YT,YT,YT,YT,YT,YT,YT,YT,YT,YT,YT,YT,YT,YT,YT,YT,YF,YF] rfl rfl (any_of HT_.out (by kernel_rfl)) (fun _ _ _ h => h) (Or.inl ⟨by rfl,?_⟩) ?_ ?_
          rotate_left
          ·intro w'
           go_simp
           with_reducible rfl
          rotate_left
          ·simp only [Act.put,Ya,Yb,Yc,i64_w,i32_w]
           rfl
          refine one_ (i := 18) (N := some 44) #[YT,YT,YT,YT,YT,YT,YT,YT,YT,YT,YT,YT,YT,YT,YT,YT,YT,YT,YT,YF] rfl rfl (one_of HT_.out (by kernel_rfl)) (by decide) (fun K hK => ?_)
          refine goes_ Try.func30 (by kernel_rfl) rfl #[.slice (some ad149) y157.length c0,.func (.func 36) #[] #[.pointer (some ⟨gb150,0,none⟩)]] (by rfl) rfl rfl Y8 ?_
          with_reducible refine (api_Hold__c36.calls k1 _ _ y157 gb150 ((rd_T26 l0 x21_1).f0) ((rd_T26 l0 x21_1).f1) ((rd_T26 l0 x21_1).f2) ((rd_T26 l0 x21_1).f3.f0) ((rd_T26 l0 x21_1).f3.f1) ((rd_T26 l0 x21_1).f4) t161 _ ?side1 ?side2 ?side3 A40.out).mono ?_
          (case side1 => exact Y11 (Kd.C_below HR160.out HB.out))
          (case side2 => exact HC160.out)
          (case side3 => exact (Y6 BK150.out))
          rintro e w44 ⟨rfl,hb⟩
          refine ⟨_,rfl,?_⟩
          have n0_ := Yd (blk_below (g := gb145) (o := .cells #[.slice (some ad149) l0.length c0] 22 (0,0)) (Y6 BK145.out) hb)
          have n1_ := Yd (blk_below (g := gb150) (o := .cells #[.string ((rd_T26 l0 x21_1).f0),.int .i64 ((rd_T26 l0 x21_1).f1),.int .i64 ((rd_T26 l0 x21_1).f2),.int .i64 ((rd_T26 l0 x21_1).f3.f0),.int .i64 ((rd_T26 l0 x21_1).f3.f1),.int .i64 ((rd_T26 l0 x21_1).f4)] 26 (0,0)) (Y6 BK150.out) hb)
          have n2_ := Yd (below_step (by repeat (first | (with_reducible first | exact HB.out | apply below_alloc | apply Y15 | apply below_drew1 | refine below_set ?_ GE145.out | refine below_set ?_ GE150.out) | exact HB.out)) hb)
          clear BK145
          clear BK150
          clear HB
          have BK145 := n0_
          have BK150 := n1_
          have HB := n2_
          clear n0_ n1_ n2_
          (try clear hb)
          (try clear hb2)
          (try clear hk)
          (try clear hi)
          refine hK.out _ _ ((blk_cell BK145.out 0).trans rfl) (fun hHeld => ?_)
          clear hK K
          refine norm_ (a' := ?_) ?_ ?_
          rotate_left
          ·show Act.put _ (some 44) _ = _
           simp only [Act.put,Ya,Yb,Yc,i64_w,i32_w]
           rfl
          refine pure_ (i := 19) (N := some 45) (v := ?_) (a' := ?_) #[YT,YT,YT,YT,YT,YT,YT,YT,YT,YT,YT,YT,YT,YT,YT,YT,YT,YT,YT,YT] rfl rfl (any_of HT_.out (by kernel_rfl)) (fun _ _ _ h => h) (Or.inl ⟨by rfl,?_⟩) ?_ ?_
          rotate_left
          ·intro w'
           go_simp
           with_reducible rfl
          rotate_left
          ·simp only [Act.put,Ya,Yb,Yc,i64_w,i32_w]
           rfl
          refine done_ (done_of HT_.out (by kernel_rfl)) ?_
          try go_wp2
          go_meet
          case rel => exact ⟨_,(t161),Y12,H',⟨by have := HK1.out;first | omega | exact Nat.le_refl _⟩,⟨Y6 BK145.out⟩,⟨Y6 BK150.out⟩,⟨by repeat (first | (with_reducible first | exact HB.out | apply below_alloc | apply Y15 | apply below_drew1 | refine below_set ?_ GE145.out | refine below_set ?_ GE150.out) | exact HB.out)⟩⟩
        case rest =>
         clear HC20
         try clear p1
         try clear q1
         try clear hx1
         try clear c2
         try clear p2
         try clear c3
         try clear q3
         try clear q4
         try clear p15
         try clear q15
         try clear hx15
         try clear c24
         try clear c24b0
         try clear c26
         try clear c27
         try clear c28
         try clear c28b0
         try clear c30
         try clear q34
         try clear c36
         try clear c38
         try clear c38b0
         try clear c39
         try clear c39b0
         try clear c39b1
         try clear q43
         try clear hx151_0
         try clear hx151_1
         try clear hx151_2
         try clear hx151_3
         try clear hx151_4
         try clear hx151_5
         try clear p151
         try clear q151
         try clear q34
         try clear q43
         obtain ⟨kq,x45_19,rfl,HA,HJ19,BK145,BK150,HB⟩ := hcut
         cases kq with
         | zero => exact absurd HA.out (by simp [override_Check.j1])
         | succ kj19 =>
          have H := HA.out
          clear HA
          simp only [override_Check.j1] at H
          by_cases c45 : x45_19 = true
          ·subst c45
           have H1 : (some 5) = some r := by rw [if_pos rfl] at H;exact H
           clear H
           have H := H1
           clear H1
           obtain rfl := Option.some.inj H
           go_wp2
           go_ret
           exact ⟨by first | rfl | (simp [errW_none,errW_some] <;> rfl) | (simp [*,errW_none,errW_some] <;> rfl),by repeat (first | (with_reducible first | exact HB.out | apply below_alloc | apply Y15 | apply below_drew1 | refine below_set ?_ GE145.out | refine below_set ?_ GE150.out) | exact HB.out)⟩
          ·replace c45 := Bool.eq_false_iff.mpr c45
           subst c45
           have H1 : (override_Check.l0 kj19 l0 (l0.length : Int) (wrap64 (x21_1 + 1)) l0) = some r := by rw [if_neg (show ¬ (false = true) by decide)] at H;exact H
           clear H
           have H := H1
           clear H1
           have H' := Yd H
           clear H
           go_wp2
           go_roundg kj19
           case measure => have := HK1.out;have := HJ19.out;omega
           case rel => exact ⟨(wrap64 (x21_1 + 1)),Y12,H',⟨by have := HK1.out;have := HJ19.out;omega⟩,⟨Y6 BK145.out⟩,⟨by repeat (first | (with_reducible first | exact HB.out | apply below_alloc | apply Y15 | apply below_drew1 | refine below_set ?_ GE145.out | refine below_set ?_ GE150.out) | exact HB.out)⟩⟩
       ·rw [if_neg c17] at H
        have c17b0 : decide (x21_1 < (l0.length : Int)) = false := decide_eq_false c17
        clear c17
        obtain rfl := Option.some.inj H
        go_wp2
        go_ret
        exact ⟨by first | rfl | (simp [errW_none,errW_some] <;> rfl) | (simp [*,errW_none,errW_some] <;> rfl),by repeat (first | (with_reducible first | exact HB.out | apply below_alloc | apply Y15 | apply below_drew1 | refine below_set ?_ GE145.out) | exact HB.out)⟩
    ·replace c10 := Bool.eq_false_iff.mpr c10
     subst c10
     have H1 : (some 11) = some r := by rw [if_neg (show ¬ (false = true) by decide)] at H;exact H
     clear H
     have H := H1
     clear H1
     obtain rfl := Option.some.inj H
     go_enter Try.func16,Try.ntmps16
     go_wp2_with (first | ((with_reducible refine gate_dst (N := 1) rfl ?_);refine box_event ?hg (N := 1) ?hd (cs := #[.slice A0 l0.length c0]) (t := 22) ?hr ?_;(case hd => rfl);(case hg => rfl);(case hr => first | (go_simp;done) | (go_simp;rfl));intro gb145 hg w46 hbox hb;have n0_ := Yd (below_step (Y3 HB.out) hb);have n1_ := Yd (hbox);have n2_ := Yd ((by rw [hg];exact (below_size (Y3 HB.out)) : w.heap.size ≤ gb145));have n3_ := Yd ((by rw [hg];exact (below_size (Y3 HB.out)) : w.heap.size ≤ gb145));clear HB;have HB := n0_;have BK145 := n1_;have GW145 := n2_;have GE145 := n3_;clear n0_ n1_ n2_ n3_;clear hb hbox hg;have hcz47_0 : w46.cell? ⟨gb145,0,none⟩ = some (.slice A0 l0.length c0) := (blk_cell BK145.out 0).trans rfl;have hfz47_0 := blk_frozen BK145.out 0) | (go_at_call 29;(with_reducible refine (override_Check_1__c32.calls k  gb145 A0 c0 l0 true _ ?side1 ?side2 ?side3 A5.out).mono ?_);(case side1 => exact Y11 (Kd.C_below HR0.out HB.out));(case side2 => exact HC0.out);(case side3 => exact (Y6 BK145.out));rintro e w48 ⟨rfl,hb⟩;have n0_ := Yd (blk_below (g := gb145) (o := .cells #[.slice A0 l0.length c0] 22 (0,0)) (Y6 BK145.out) hb);have n1_ := Yd (below_step (by first | exact Y4 HB.out GE145.out | exact Y3 HB.out) hb);clear BK145;clear HB;have BK145 := n0_;have HB := n1_;clear n0_ n1_;(try clear hb);(try clear hb2);(try clear hk);(try clear hi)) | (go_at_call 29;(with_reducible refine (override_Check_1__c34.calls k  gb145 A0 c0 l0 true _ ?side1 ?side2 ?side3 A7.out).mono ?_);(case side1 => exact Y11 (Kd.C_below HR0.out HB.out));(case side2 => exact HC0.out);(case side3 => exact (Y6 BK145.out));rintro e w49 ⟨rfl,hb⟩;have n0_ := Yd (blk_below (g := gb145) (o := .cells #[.slice A0 l0.length c0] 22 (0,0)) (Y6 BK145.out) hb);have n1_ := Yd (below_step (by first | exact Y4 HB.out GE145.out | exact Y3 HB.out) hb);clear BK145;clear HB;have BK145 := n0_;have HB := n1_;clear n0_ n1_;(try clear hb);(try clear hb2);(try clear hk);(try clear hi)) | (go_at_call 29;(with_reducible refine (override_Check_1__c35.calls k  gb145 A0 c0 l0 false _ ?side1 ?side2 ?side3 A9.out).mono ?_);(case side1 => exact Y11 (Kd.C_below HR0.out HB.out));(case side2 => exact HC0.out);(case side3 => exact (Y6 BK145.out));rintro e w50 ⟨rfl,hb⟩;have n0_ := Yd (blk_below (g := gb145) (o := .cells #[.slice A0 l0.length c0] 22 (0,0)) (Y6 BK145.out) hb);have n1_ := Yd (below_step (by first | exact Y4 HB.out GE145.out | exact Y3 HB.out) hb);clear BK145;clear HB;have BK145 := n0_;have HB := n1_;clear n0_ n1_;(try clear hb);(try clear hb2);(try clear hk);(try clear hi)))
     go_ret
     exact ⟨by first | rfl | (simp [errW_none,errW_some] <;> rfl) | (simp [*,errW_none,errW_some] <;> rfl),by repeat (first | (with_reducible first | exact HB.out | apply below_alloc | apply Y15 | apply below_drew1 | refine below_set ?_ GE145.out) | exact HB.out)⟩
   ·replace c8 := Bool.eq_false_iff.mpr c8
    subst c8
    have H1 : (some 6) = some r := by rw [if_neg (show ¬ (false = true) by decide)] at H;exact H
    clear H
    have H := H1
    clear H1
    obtain rfl := Option.some.inj H
    go_enter Try.func16,Try.ntmps16
    go_wp2_with (first | ((with_reducible refine gate_dst (N := 1) rfl ?_);refine box_event ?hg (N := 1) ?hd (cs := #[.slice A0 l0.length c0]) (t := 22) ?hr ?_;(case hd => rfl);(case hg => rfl);(case hr => first | (go_simp;done) | (go_simp;rfl));intro gb145 hg w51 hbox hb;have n0_ := Yd (below_step (Y3 HB.out) hb);have n1_ := Yd (hbox);have n2_ := Yd ((by rw [hg];exact (below_size (Y3 HB.out)) : w.heap.size ≤ gb145));have n3_ := Yd ((by rw [hg];exact (below_size (Y3 HB.out)) : w.heap.size ≤ gb145));clear HB;have HB := n0_;have BK145 := n1_;have GW145 := n2_;have GE145 := n3_;clear n0_ n1_ n2_ n3_;clear hb hbox hg;have hcz52_0 : w51.cell? ⟨gb145,0,none⟩ = some (.slice A0 l0.length c0) := (blk_cell BK145.out 0).trans rfl;have hfz52_0 := blk_frozen BK145.out 0) | (go_at_call 29;(with_reducible refine (override_Check_1__c32.calls k  gb145 A0 c0 l0 true _ ?side1 ?side2 ?side3 A5.out).mono ?_);(case side1 => exact Y11 (Kd.C_below HR0.out HB.out));(case side2 => exact HC0.out);(case side3 => exact (Y6 BK145.out));rintro e w53 ⟨rfl,hb⟩;have n0_ := Yd (blk_below (g := gb145) (o := .cells #[.slice A0 l0.length c0] 22 (0,0)) (Y6 BK145.out) hb);have n1_ := Yd (below_step (by first | exact Y4 HB.out GE145.out | exact Y3 HB.out) hb);clear BK145;clear HB;have BK145 := n0_;have HB := n1_;clear n0_ n1_;(try clear hb);(try clear hb2);(try clear hk);(try clear hi)) | (go_at_call 29;(with_reducible refine (override_Check_1__c34.calls k  gb145 A0 c0 l0 false _ ?side1 ?side2 ?side3 A7.out).mono ?_);(case side1 => exact Y11 (Kd.C_below HR0.out HB.out));(case side2 => exact HC0.out);(case side3 => exact (Y6 BK145.out));rintro e w54 ⟨rfl,hb⟩;have n0_ := Yd (blk_below (g := gb145) (o := .cells #[.slice A0 l0.length c0] 22 (0,0)) (Y6 BK145.out) hb);have n1_ := Yd (below_step (by first | exact Y4 HB.out GE145.out | exact Y3 HB.out) hb);clear BK145;clear HB;have BK145 := n0_;have HB := n1_;clear n0_ n1_;(try clear hb);(try clear hb2);(try clear hk);(try clear hi)))
    go_ret
    exact ⟨by first | rfl | (simp [errW_none,errW_some] <;> rfl) | (simp [*,errW_none,errW_some] <;> rfl),by repeat (first | (with_reducible first | exact HB.out | apply below_alloc | apply Y15 | apply below_drew1 | refine below_set ?_ GE145.out) | exact HB.out)⟩
  ·replace c6 := Bool.eq_false_iff.mpr c6
   subst c6
   have H1 : (some 4) = some r := by rw [if_neg (show ¬ (false = true) by decide)] at H;exact H
   clear H
   have H := H1
   clear H1
   obtain rfl := Option.some.inj H
   go_enter Try.func16,Try.ntmps16
   go_wp2_with (first | ((with_reducible refine gate_dst (N := 1) rfl ?_);refine box_event ?hg (N := 1) ?hd (cs := #[.slice A0 l0.length c0]) (t := 22) ?hr ?_;(case hd => rfl);(case hg => rfl);(case hr => first | (go_simp;done) | (go_simp;rfl));intro gb145 hg w55 hbox hb;have n0_ := Yd (below_step (Y3 HB.out) hb);have n1_ := Yd (hbox);have n2_ := Yd ((by rw [hg];exact (below_size (Y3 HB.out)) : w.heap.size ≤ gb145));have n3_ := Yd ((by rw [hg];exact (below_size (Y3 HB.out)) : w.heap.size ≤ gb145));clear HB;have HB := n0_;have BK145 := n1_;have GW145 := n2_;have GE145 := n3_;clear n0_ n1_ n2_ n3_;clear hb hbox hg;have hcz56_0 : w55.cell? ⟨gb145,0,none⟩ = some (.slice A0 l0.length c0) := (blk_cell BK145.out 0).trans rfl;have hfz56_0 := blk_frozen BK145.out 0) | (go_at_call 29;(with_reducible refine (override_Check_1__c32.calls k  gb145 A0 c0 l0 false _ ?side1 ?side2 ?side3 A5.out).mono ?_);(case side1 => exact Y11 (Kd.C_below HR0.out HB.out));(case side2 => exact HC0.out);(case side3 => exact (Y6 BK145.out));rintro e w57 ⟨rfl,hb⟩;have n0_ := Yd (blk_below (g := gb145) (o := .cells #[.slice A0 l0.length c0] 22 (0,0)) (Y6 BK145.out) hb);have n1_ := Yd (below_step (by first | exact Y4 HB.out GE145.out | exact Y3 HB.out) hb);clear BK145;clear HB;have BK145 := n0_;have HB := n1_;clear n0_ n1_;(try clear hb);(try clear hb2);(try clear hk);(try clear hi)))
   go_ret
   exact ⟨by first | rfl | (simp [errW_none,errW_some] <;> rfl) | (simp [*,errW_none,errW_some] <;> rfl),by repeat (first | (with_reducible first | exact HB.out | apply below_alloc | apply Y15 | apply below_drew1 | refine below_set ?_ GE145.out) | exact HB.out)⟩
end Go.Proofs.Ytaoicdkjjjlmeaa.PD34
namespace Go.Proofs.Ytaoicdkjjjlmeaa.PD34
open Go.RowKit Go.Proofs.YtaoicdkjjjlmeaaW.PrintWords Go.Proofs.YtaoicdkjjjlmeaaW.PrintLast Go.Proofs.YtaoicdkjjjlmeaaW.PrintMore
attribute [local go_sem] max2_int min2_int max_two min_two max_three min_three max_four min_four
mutual
def override_governs.l0 : Nat → List (S26) → Int → Int → List (S26) → Int → Int → Option (Int)
 | 0,_,_,_,_,_,_ => none
 | k + 1,x0,x1,x5,x8,x9,x10 => if x10 < x9 then (if 0 ≤ x10 then (if x10 < (x8.length : Int) then (if ((rd_T26 x8 x10).f1) ≤ x1 then (if x1 < ((rd_T26 x8 x10).f2) then (if x5 < 0 then (override_governs.j1 k x0 x1 x5 x10 x8 x9 x10 true) else (if 0 ≤ x5 then (if x5 < (x0.length : Int) then (override_governs.j1 k x0 x1 x5 x10 x8 x9 x10 (decide (((rd_T26 x8 x10).f4) > ((rd_T26 x0 x5).f4)))) else (none)) else (none))) else (override_governs.j1 k x0 x1 x5 x10 x8 x9 x10 false)) else (override_governs.j1 k x0 x1 x5 x10 x8 x9 x10 false)) else (none)) else (none)) else (some x5)
def override_governs.j1 : Nat → List (S26) → Int → Int → Int → List (S26) → Int → Int → Bool → Option (Int)
 | 0,_,_,_,_,_,_,_,_ => none
 | k + 1,x0,x1,x5,x6,x8,x9,x10,x38 => if x38 = true then (override_governs.l0 k x0 x1 x6 x8 x9 (wrap64 (x10 + 1))) else (override_governs.l0 k x0 x1 x5 x8 x9 (wrap64 (x10 + 1)))
end
def override_governs.f (k : Nat) (l0 : List (S26)) (a1 : Int) : Option (Int) := override_governs.l0 k l0 a1 (-1) l0 (l0.length : Int) 0
theorem override_governs.mono_l : ∀ k,(∀ y0 y1 y2 y3 y4 y5,LeO (override_governs.l0 k y0 y1 y2 y3 y4 y5) (override_governs.l0 (k + 1) y0 y1 y2 y3 y4 y5)) ∧ (∀ y0 y1 y2 y3 y4 y5 y6 y7,LeO (override_governs.j1 k y0 y1 y2 y3 y4 y5 y6 y7) (override_governs.j1 (k + 1) y0 y1 y2 y3 y4 y5 y6 y7))
 | 0 => ⟨fun _ _ _ _ _ _ r h => by simp [override_governs.l0] at h,fun _ _ _ _ _ _ _ _ r h => by simp [override_governs.j1] at h⟩
 | k + 1 => by
  obtain ⟨ih0,ih1⟩ := override_governs.mono_l k
  refine ⟨?_,?_⟩
  ·intro y0 y1 y2 y3 y4 y5
   unfold override_governs.l0
   repeat' first
   | (with_reducible exact ih0 _ _ _ _ _ _)
   | (with_reducible exact ih1 _ _ _ _ _ _ _ _)
   | (with_reducible exact LeO.refl _)
   | (with_reducible exact LeO.none _)
   | (with_reducible refine LeO.ite ?_ ?_)
   | (with_reducible refine LeO.bind ?_ (fun _ => ?_))
   | exact ih0 _ _ _ _ _ _
   | exact ih1 _ _ _ _ _ _ _ _
   | exact LeO.none _
   | refine LeO.ite ?_ ?_
   | refine LeO.bind ?_ (fun _ => ?_)
  ·intro y0 y1 y2 y3 y4 y5 y6 y7
   unfold override_governs.j1
   repeat' first
   | (with_reducible exact ih0 _ _ _ _ _ _)
   | (with_reducible exact ih1 _ _ _ _ _ _ _ _)
   | (with_reducible exact LeO.refl _)
   | (with_reducible exact LeO.none _)
   | (with_reducible refine LeO.ite ?_ ?_)
   | (with_reducible refine LeO.bind ?_ (fun _ => ?_))
   | exact ih0 _ _ _ _ _ _
   | exact ih1 _ _ _ _ _ _ _ _
   | exact LeO.none _
   | refine LeO.ite ?_ ?_
   | refine LeO.bind ?_ (fun _ => ?_)
theorem override_governs.mono : ∀ a0 a1 k,LeO (override_governs.f k a0 a1) (override_governs.f (k + 1) a0 a1) := by
 intro a0 a1 k
 obtain ⟨ih0,ih1⟩ := override_governs.mono_l k
 unfold override_governs.f
 repeat' first
   | (with_reducible exact ih0 _ _ _ _ _ _)
   | (with_reducible exact ih1 _ _ _ _ _ _ _ _)
   | (with_reducible exact LeO.refl _)
   | (with_reducible exact LeO.none _)
   | (with_reducible refine LeO.ite ?_ ?_)
   | (with_reducible refine LeO.bind ?_ (fun _ => ?_))
   | exact ih0 _ _ _ _ _ _
   | exact ih1 _ _ _ _ _ _ _ _
   | exact LeO.none _
   | refine LeO.ite ?_ ?_
   | refine LeO.bind ?_ (fun _ => ?_)
set_option maxHeartbeats 100000000 in
set_option maxRecDepth 100000 in
theorem override_governs.calls (k : Nat) (A0 : Option Addr) (c0 : Nat) (l0 : List (S26)) (a1 : Int) (r : Int) (w : World) (hr0 : Kd.C k26 w A0 l0.length l0) (hc0 : l0.length ≤ c0) (h : override_governs.f k l0 a1 = some r) :
  Calls Try.prog 37 #[.slice A0 l0.length c0,.int .i64 a1] w fun e w' => e = .returned (.int .i64 r) ∧ Below w.heap.size w w' := by
 have hu26 := Try.underlying26
 have HR0 := Yd hr0
 have HC0 := Yd hc0
 clear hr0 hc0
 have HB := Yd (Below.refl w.heap.size w)
 have H : (override_governs.l0 k l0 a1 (-1) l0 (l0.length : Int) 0) = some r := h
 clear h
 have H' := Yd H
 clear H
 go_enter Try.func37,Try.ntmps37
 go_wp2
 repeat (go_quiet (fail);try go_wp2)
 go_loopg [5,10] k (fun kq v5 v10 w' => ∃ (x5_1 : Int) (x10_1 : Int),v5 = .int .i64 x5_1 ∧ v10 = .int .i64 x10_1 ∧ Aside0 (override_governs.l0 kq l0 a1 x5_1 l0 (l0.length : Int) x10_1 = some r) ∧ Aside0 (kq ≤ k) ∧ Aside0 (Below w.heap.size w w'))
 case atStart => exact ⟨((-1)),(0),Y12,Y12,H',⟨Nat.le_refl _⟩,⟨Y3 HB.out⟩⟩
 case round =>
  clear H'
  try clear p2
  obtain ⟨x5_1,x10_1,rfl,rfl,HA,HK1,HB⟩ := hrel
  cases gk with
  | zero => exact absurd HA.out (by simp [override_governs.l0])
  | succ k1 =>
   have H := HA.out
   clear HA
   simp only [override_governs.l0] at H
   by_cases c3 : x10_1 < (l0.length : Int)
   ·rw [if_pos c3] at H
    have c3b0 : decide (x10_1 < (l0.length : Int)) = true := decide_eq_true c3
    clear c3
    by_cases c4 : 0 ≤ x10_1
    case neg => rw [if_neg c4] at H;exact absurd H (by simp)
    rw [if_pos c4] at H
    have c4b0 : decide (0 ≤ x10_1) = true := decide_eq_true c4
    clear c4
    by_cases c5 : x10_1 < (l0.length : Int)
    case neg => rw [if_neg c5] at H;exact absurd H (by simp)
    rw [if_pos c5] at H
    have c5b0 : decide (x10_1 < (l0.length : Int)) = true := decide_eq_true c5
    clear c5
    have HC6 := Yd H
    clear H
    have p162 : 0 ≤ (x10_1 : Int) := Y9
    have q162 : x10_1 < (l0.length : Int) := Y9
    obtain ⟨ad162,e162,hx162_0,hx162_1,hx162_2,hx162_3,hx162_4,hx162_5⟩ := at_T26 HR0.out x10_1 p162 q162
    cases e162
    replace hx162_0 := Y10 HB.out hx162_0
    replace hx162_1 := Y10 HB.out hx162_1
    replace hx162_2 := Y10 HB.out hx162_2
    replace hx162_3 := Y10 HB.out hx162_3
    replace hx162_4 := Y10 HB.out hx162_4
    replace hx162_5 := Y10 HB.out hx162_5
    replace p162 := eq_true p162
    replace q162 := eq_true q162
    go_upto_region 5 with (first | ((with_reducible refine gate_dst (N := 7) rfl ?_);refine box_event ?hg (N := 7) ?hd (cs := #[.string (⟨#[]⟩ : ByteArray),.int .i64 0,.int .i64 0,.int .i64 0,.int .i64 0,.int .i64 0]) (t := 26) ?hr ?_;(case hd => rfl);(case hg => rfl);(case hr => first | (go_simp;done) | (go_simp;rfl));intro gb163 hg w7 hbox hb;have n0_ := Yd (below_step (Y3 HB.out) hb);have n1_ := Yd (hbox);have n2_ := Yd ((by rw [hg];exact (below_size (Y3 HB.out)) : w.heap.size ≤ gb163));have n3_ := Yd ((by rw [hg];exact (below_size (Y3 HB.out)) : w.heap.size ≤ gb163));clear HB;have HB := n0_;have BK163 := n1_;have GW163 := n2_;have GE163 := n3_;clear n0_ n1_ n2_ n3_;clear hb hbox hg;have hcz8_0 : w7.cell? ⟨gb163,0,none⟩ = some (.string (⟨#[]⟩ : ByteArray)) := (blk_cell BK163.out 0).trans rfl;have hcz8_1 : w7.cell? ⟨gb163,1,none⟩ = some (.int .i64 0) := (blk_cell BK163.out 1).trans rfl;have hcz8_2 : w7.cell? ⟨gb163,2,none⟩ = some (.int .i64 0) := (blk_cell BK163.out 2).trans rfl;have hcz8_3 : w7.cell? ⟨gb163,3,none⟩ = some (.int .i64 0) := (blk_cell BK163.out 3).trans rfl;have hcz8_4 : w7.cell? ⟨gb163,4,none⟩ = some (.int .i64 0) := (blk_cell BK163.out 4).trans rfl;have hcz8_5 : w7.cell? ⟨gb163,5,none⟩ = some (.int .i64 0) := (blk_cell BK163.out 5).trans rfl;have hfz8_0 := blk_frozen BK163.out 0;have hfz8_1 := blk_frozen BK163.out 1;have hfz8_2 := blk_frozen BK163.out 2;have hfz8_3 := blk_frozen BK163.out 3;have hfz8_4 := blk_frozen BK163.out 4;have hfz8_5 := blk_frozen BK163.out 5))
    repeat (go_quiet (first | ((with_reducible refine gate_dst (N := 7) rfl ?_);refine box_event ?hg (N := 7) ?hd (cs := #[.string (⟨#[]⟩ : ByteArray),.int .i64 0,.int .i64 0,.int .i64 0,.int .i64 0,.int .i64 0]) (t := 26) ?hr ?_;(case hd => rfl);(case hg => rfl);(case hr => first | (go_simp;done) | (go_simp;rfl));intro gb163 hg w7 hbox hb;have n0_ := Yd (below_step (Y3 HB.out) hb);have n1_ := Yd (hbox);have n2_ := Yd ((by rw [hg];exact (below_size (Y3 HB.out)) : w.heap.size ≤ gb163));have n3_ := Yd ((by rw [hg];exact (below_size (Y3 HB.out)) : w.heap.size ≤ gb163));clear HB;have HB := n0_;have BK163 := n1_;have GW163 := n2_;have GE163 := n3_;clear n0_ n1_ n2_ n3_;clear hb hbox hg;have hcz8_0 : w7.cell? ⟨gb163,0,none⟩ = some (.string (⟨#[]⟩ : ByteArray)) := (blk_cell BK163.out 0).trans rfl;have hcz8_1 : w7.cell? ⟨gb163,1,none⟩ = some (.int .i64 0) := (blk_cell BK163.out 1).trans rfl;have hcz8_2 : w7.cell? ⟨gb163,2,none⟩ = some (.int .i64 0) := (blk_cell BK163.out 2).trans rfl;have hcz8_3 : w7.cell? ⟨gb163,3,none⟩ = some (.int .i64 0) := (blk_cell BK163.out 3).trans rfl;have hcz8_4 : w7.cell? ⟨gb163,4,none⟩ = some (.int .i64 0) := (blk_cell BK163.out 4).trans rfl;have hcz8_5 : w7.cell? ⟨gb163,5,none⟩ = some (.int .i64 0) := (blk_cell BK163.out 5).trans rfl;have hfz8_0 := blk_frozen BK163.out 0;have hfz8_1 := blk_frozen BK163.out 1;have hfz8_2 := blk_frozen BK163.out 2;have hfz8_3 := blk_frozen BK163.out 3;have hfz8_4 := blk_frozen BK163.out 4;have hfz8_5 := blk_frozen BK163.out 5));go_upto_region 5 with (first | ((with_reducible refine gate_dst (N := 7) rfl ?_);refine box_event ?hg (N := 7) ?hd (cs := #[.string (⟨#[]⟩ : ByteArray),.int .i64 0,.int .i64 0,.int .i64 0,.int .i64 0,.int .i64 0]) (t := 26) ?hr ?_;(case hd => rfl);(case hg => rfl);(case hr => first | (go_simp;done) | (go_simp;rfl));intro gb163 hg w7 hbox hb;have n0_ := Yd (below_step (Y3 HB.out) hb);have n1_ := Yd (hbox);have n2_ := Yd ((by rw [hg];exact (below_size (Y3 HB.out)) : w.heap.size ≤ gb163));have n3_ := Yd ((by rw [hg];exact (below_size (Y3 HB.out)) : w.heap.size ≤ gb163));clear HB;have HB := n0_;have BK163 := n1_;have GW163 := n2_;have GE163 := n3_;clear n0_ n1_ n2_ n3_;clear hb hbox hg;have hcz8_0 : w7.cell? ⟨gb163,0,none⟩ = some (.string (⟨#[]⟩ : ByteArray)) := (blk_cell BK163.out 0).trans rfl;have hcz8_1 : w7.cell? ⟨gb163,1,none⟩ = some (.int .i64 0) := (blk_cell BK163.out 1).trans rfl;have hcz8_2 : w7.cell? ⟨gb163,2,none⟩ = some (.int .i64 0) := (blk_cell BK163.out 2).trans rfl;have hcz8_3 : w7.cell? ⟨gb163,3,none⟩ = some (.int .i64 0) := (blk_cell BK163.out 3).trans rfl;have hcz8_4 : w7.cell? ⟨gb163,4,none⟩ = some (.int .i64 0) := (blk_cell BK163.out 4).trans rfl;have hcz8_5 : w7.cell? ⟨gb163,5,none⟩ = some (.int .i64 0) := (blk_cell BK163.out 5).trans rfl;have hfz8_0 := blk_frozen BK163.out 0;have hfz8_1 := blk_frozen BK163.out 1;have hfz8_2 := blk_frozen BK163.out 2;have hfz8_3 := blk_frozen BK163.out 3;have hfz8_4 := blk_frozen BK163.out 4;have hfz8_5 := blk_frozen BK163.out 5)))
    (try simp only [Act.put,List.setIfInBounds_toArray,List.set_cons_zero,List.set_cons_succ])
    go_cut [38] (fun v38 wc => ∃ (kq : Nat) (x38_5 : Bool),v38 = .bool x38_5 ∧ Aside0 (override_governs.j1 kq l0 a1 x5_1 x10_1 l0 (l0.length : Int) x10_1 x38_5 = some r) ∧ Aside0 (kq ≤ k1) ∧ Aside0 (wc.heap[gb163]? = some (.cells #[.string ((rd_T26 l0 x10_1).f0),.int .i64 ((rd_T26 l0 x10_1).f1),.int .i64 ((rd_T26 l0 x10_1).f2),.int .i64 ((rd_T26 l0 x10_1).f3.f0),.int .i64 ((rd_T26 l0 x10_1).f3.f1),.int .i64 ((rd_T26 l0 x10_1).f4)] 26 (0,0))) ∧ Aside0 (Below w.heap.size w wc))
    case first =>
     have H := HC6.out
     clear HC6
     by_cases c9 : ((rd_T26 l0 x10_1).f1) ≤ a1
     ·rw [if_pos c9] at H
      have c9b0 : decide (((rd_T26 l0 x10_1).f1) ≤ a1) = true := decide_eq_true c9
      clear c9
      (first | rw [c9b0] | (simp only [i64_w,i32_w];rw [c9b0]) | skip)
      by_cases c10 : a1 < ((rd_T26 l0 x10_1).f2)
      ·rw [if_pos c10] at H
       have c10b0 : decide (a1 < ((rd_T26 l0 x10_1).f2)) = true := decide_eq_true c10
       clear c10
       by_cases c11 : x5_1 < 0
       ·rw [if_pos c11] at H
        have c11b0 : decide (x5_1 < 0) = true := decide_eq_true c11
        clear c11
        have H' := Yd H
        clear H
        have hcz12_0 : w7.cell? ⟨gb163,0,none⟩ = some (.string (⟨#[]⟩ : ByteArray)) := (blk_cell BK163.out 0).trans rfl
        have hcz12_1 : w7.cell? ⟨gb163,1,none⟩ = some (.int .i64 0) := (blk_cell BK163.out 1).trans rfl
        have hcz12_2 : w7.cell? ⟨gb163,2,none⟩ = some (.int .i64 0) := (blk_cell BK163.out 2).trans rfl
        have hcz12_3 : w7.cell? ⟨gb163,3,none⟩ = some (.int .i64 0) := (blk_cell BK163.out 3).trans rfl
        have hcz12_4 : w7.cell? ⟨gb163,4,none⟩ = some (.int .i64 0) := (blk_cell BK163.out 4).trans rfl
        have hcz12_5 : w7.cell? ⟨gb163,5,none⟩ = some (.int .i64 0) := (blk_cell BK163.out 5).trans rfl
        have hfz12_0 := blk_frozen BK163.out 0
        have hfz12_1 := blk_frozen BK163.out 1
        have hfz12_2 := blk_frozen BK163.out 2
        have hfz12_3 := blk_frozen BK163.out 3
        have hfz12_4 := blk_frozen BK163.out 4
        have hfz12_5 := blk_frozen BK163.out 5
        go_wp2
        repeat (go_quiet (fail);try go_wp2)
        go_meet
        case rel => exact ⟨_,(true),Y12,H',⟨by have := HK1.out;first | omega | exact Nat.le_refl _⟩,⟨by (with_reducible repeat (first | refine blk_drewN ?_ _ | refine blk_drew ?_ | refine blk_alloc ?_ _));refine blk_put (cs := #[.string ((rd_T26 l0 x10_1).f0),.int .i64 ((rd_T26 l0 x10_1).f1),.int .i64 ((rd_T26 l0 x10_1).f2),.int .i64 ((rd_T26 l0 x10_1).f3.f0),.int .i64 ((rd_T26 l0 x10_1).f3.f1),.int .i64 0]) ?_ 5 _ rfl;(with_reducible repeat (first | refine blk_drewN ?_ _ | refine blk_drew ?_ | refine blk_alloc ?_ _));refine blk_put (cs := #[.string ((rd_T26 l0 x10_1).f0),.int .i64 ((rd_T26 l0 x10_1).f1),.int .i64 ((rd_T26 l0 x10_1).f2),.int .i64 ((rd_T26 l0 x10_1).f3.f0),.int .i64 0,.int .i64 0]) ?_ 4 _ rfl;(with_reducible repeat (first | refine blk_drewN ?_ _ | refine blk_drew ?_ | refine blk_alloc ?_ _));refine blk_put (cs := #[.string ((rd_T26 l0 x10_1).f0),.int .i64 ((rd_T26 l0 x10_1).f1),.int .i64 ((rd_T26 l0 x10_1).f2),.int .i64 0,.int .i64 0,.int .i64 0]) ?_ 3 _ rfl;(with_reducible repeat (first | refine blk_drewN ?_ _ | refine blk_drew ?_ | refine blk_alloc ?_ _));refine blk_put (cs := #[.string ((rd_T26 l0 x10_1).f0),.int .i64 ((rd_T26 l0 x10_1).f1),.int .i64 0,.int .i64 0,.int .i64 0,.int .i64 0]) ?_ 2 _ rfl;(with_reducible repeat (first | refine blk_drewN ?_ _ | refine blk_drew ?_ | refine blk_alloc ?_ _));refine blk_put (cs := #[.string ((rd_T26 l0 x10_1).f0),.int .i64 0,.int .i64 0,.int .i64 0,.int .i64 0,.int .i64 0]) ?_ 1 _ rfl;(with_reducible repeat (first | refine blk_drewN ?_ _ | refine blk_drew ?_ | refine blk_alloc ?_ _));refine blk_put (cs := #[.string (⟨#[]⟩ : ByteArray),.int .i64 0,.int .i64 0,.int .i64 0,.int .i64 0,.int .i64 0]) ?_ 0 _ rfl;(with_reducible repeat (first | refine blk_drewN ?_ _ | refine blk_drew ?_ | refine blk_alloc ?_ _));exact BK163.out⟩,⟨by repeat (first | (with_reducible first | exact HB.out | apply below_alloc | apply Y15 | apply below_drew1 | refine below_set ?_ GE163.out) | exact HB.out)⟩⟩
       ·rw [if_neg c11] at H
        have c11b0 : decide (x5_1 < 0) = false := decide_eq_false c11
        clear c11
        by_cases c13 : 0 ≤ x5_1
        case neg => rw [if_neg c13] at H;exact absurd H (by simp)
        rw [if_pos c13] at H
        have c13b0 : decide (0 ≤ x5_1) = true := decide_eq_true c13
        clear c13
        by_cases c14 : x5_1 < (l0.length : Int)
        case neg => rw [if_neg c14] at H;exact absurd H (by simp)
        rw [if_pos c14] at H
        have c14b0 : decide (x5_1 < (l0.length : Int)) = true := decide_eq_true c14
        clear c14
        have H' := Yd H
        clear H
        have hcz15_0 : w7.cell? ⟨gb163,0,none⟩ = some (.string (⟨#[]⟩ : ByteArray)) := (blk_cell BK163.out 0).trans rfl
        have hcz15_1 : w7.cell? ⟨gb163,1,none⟩ = some (.int .i64 0) := (blk_cell BK163.out 1).trans rfl
        have hcz15_2 : w7.cell? ⟨gb163,2,none⟩ = some (.int .i64 0) := (blk_cell BK163.out 2).trans rfl
        have hcz15_3 : w7.cell? ⟨gb163,3,none⟩ = some (.int .i64 0) := (blk_cell BK163.out 3).trans rfl
        have hcz15_4 : w7.cell? ⟨gb163,4,none⟩ = some (.int .i64 0) := (blk_cell BK163.out 4).trans rfl
        have hcz15_5 : w7.cell? ⟨gb163,5,none⟩ = some (.int .i64 0) := (blk_cell BK163.out 5).trans rfl
        have hfz15_0 := blk_frozen BK163.out 0
        have hfz15_1 := blk_frozen BK163.out 1
        have hfz15_2 := blk_frozen BK163.out 2
        have hfz15_3 := blk_frozen BK163.out 3
        have hfz15_4 := blk_frozen BK163.out 4
        have hfz15_5 := blk_frozen BK163.out 5
        have p164 : 0 ≤ (x5_1 : Int) := Y9
        have q164 : x5_1 < (l0.length : Int) := Y9
        obtain ⟨ad164,e164,hx164_0,hx164_1,hx164_2,hx164_3,hx164_4,hx164_5⟩ := at_T26 HR0.out x5_1 p164 q164
        obtain rfl : ad162 = ad164 := (by injection e164)
        have hn164_0 : ad162.block ≠ gb163 := Y1 (Y2 hx164_0 GW163.out)
        have hn164_1 : ad162.block ≠ gb163 := Y1 (Y2 hx164_0 GW163.out)
        have hn164_2 : ad162.block ≠ gb163 := Y1 (Y2 hx164_0 GW163.out)
        have hn164_3 : ad162.block ≠ gb163 := Y1 (Y2 hx164_0 GW163.out)
        have hn164_4 : ad162.block ≠ gb163 := Y1 (Y2 hx164_0 GW163.out)
        have hn164_5 : ad162.block ≠ gb163 := Y1 (Y2 hx164_0 GW163.out)
        replace hx164_0 := Y10 HB.out hx164_0
        replace hx164_1 := Y10 HB.out hx164_1
        replace hx164_2 := Y10 HB.out hx164_2
        replace hx164_3 := Y10 HB.out hx164_3
        replace hx164_4 := Y10 HB.out hx164_4
        replace hx164_5 := Y10 HB.out hx164_5
        replace hx164_0 := (cell_far (p := ⟨gb163,0,none⟩) (by first | (rw [add_block];exact hn164_0) | (show (Addr.add _ _).block ≠ _;rw [add_block];exact hn164_0) | exact hn164_0) (.string ((rd_T26 l0 x10_1).f0))).trans hx164_0
        replace hx164_1 := (cell_far (p := ⟨gb163,0,none⟩) (by first | (rw [add_block];exact hn164_0) | (show (Addr.add _ _).block ≠ _;rw [add_block];exact hn164_0) | exact hn164_0) (.string ((rd_T26 l0 x10_1).f0))).trans hx164_1
        replace hx164_2 := (cell_far (p := ⟨gb163,0,none⟩) (by first | (rw [add_block];exact hn164_0) | (show (Addr.add _ _).block ≠ _;rw [add_block];exact hn164_0) | exact hn164_0) (.string ((rd_T26 l0 x10_1).f0))).trans hx164_2
        replace hx164_3 := (cell_far (p := ⟨gb163,0,none⟩) (by first | (rw [add_block];exact hn164_0) | (show (Addr.add _ _).block ≠ _;rw [add_block];exact hn164_0) | exact hn164_0) (.string ((rd_T26 l0 x10_1).f0))).trans hx164_3
        replace hx164_4 := (cell_far (p := ⟨gb163,0,none⟩) (by first | (rw [add_block];exact hn164_0) | (show (Addr.add _ _).block ≠ _;rw [add_block];exact hn164_0) | exact hn164_0) (.string ((rd_T26 l0 x10_1).f0))).trans hx164_4
        replace hx164_5 := (cell_far (p := ⟨gb163,0,none⟩) (by first | (rw [add_block];exact hn164_0) | (show (Addr.add _ _).block ≠ _;rw [add_block];exact hn164_0) | exact hn164_0) (.string ((rd_T26 l0 x10_1).f0))).trans hx164_5
        replace hx164_0 := (cell_far (p := ⟨gb163,1,none⟩) (by first | (rw [add_block];exact hn164_1) | (show (Addr.add _ _).block ≠ _;rw [add_block];exact hn164_1) | exact hn164_1) (.int .i64 ((rd_T26 l0 x10_1).f1))).trans hx164_0
        replace hx164_1 := (cell_far (p := ⟨gb163,1,none⟩) (by first | (rw [add_block];exact hn164_1) | (show (Addr.add _ _).block ≠ _;rw [add_block];exact hn164_1) | exact hn164_1) (.int .i64 ((rd_T26 l0 x10_1).f1))).trans hx164_1
        replace hx164_2 := (cell_far (p := ⟨gb163,1,none⟩) (by first | (rw [add_block];exact hn164_1) | (show (Addr.add _ _).block ≠ _;rw [add_block];exact hn164_1) | exact hn164_1) (.int .i64 ((rd_T26 l0 x10_1).f1))).trans hx164_2
        replace hx164_3 := (cell_far (p := ⟨gb163,1,none⟩) (by first | (rw [add_block];exact hn164_1) | (show (Addr.add _ _).block ≠ _;rw [add_block];exact hn164_1) | exact hn164_1) (.int .i64 ((rd_T26 l0 x10_1).f1))).trans hx164_3
        replace hx164_4 := (cell_far (p := ⟨gb163,1,none⟩) (by first | (rw [add_block];exact hn164_1) | (show (Addr.add _ _).block ≠ _;rw [add_block];exact hn164_1) | exact hn164_1) (.int .i64 ((rd_T26 l0 x10_1).f1))).trans hx164_4
        replace hx164_5 := (cell_far (p := ⟨gb163,1,none⟩) (by first | (rw [add_block];exact hn164_1) | (show (Addr.add _ _).block ≠ _;rw [add_block];exact hn164_1) | exact hn164_1) (.int .i64 ((rd_T26 l0 x10_1).f1))).trans hx164_5
        replace hx164_0 := (cell_far (p := ⟨gb163,2,none⟩) (by first | (rw [add_block];exact hn164_2) | (show (Addr.add _ _).block ≠ _;rw [add_block];exact hn164_2) | exact hn164_2) (.int .i64 ((rd_T26 l0 x10_1).f2))).trans hx164_0
        replace hx164_1 := (cell_far (p := ⟨gb163,2,none⟩) (by first | (rw [add_block];exact hn164_2) | (show (Addr.add _ _).block ≠ _;rw [add_block];exact hn164_2) | exact hn164_2) (.int .i64 ((rd_T26 l0 x10_1).f2))).trans hx164_1
        replace hx164_2 := (cell_far (p := ⟨gb163,2,none⟩) (by first | (rw [add_block];exact hn164_2) | (show (Addr.add _ _).block ≠ _;rw [add_block];exact hn164_2) | exact hn164_2) (.int .i64 ((rd_T26 l0 x10_1).f2))).trans hx164_2
        replace hx164_3 := (cell_far (p := ⟨gb163,2,none⟩) (by first | (rw [add_block];exact hn164_2) | (show (Addr.add _ _).block ≠ _;rw [add_block];exact hn164_2) | exact hn164_2) (.int .i64 ((rd_T26 l0 x10_1).f2))).trans hx164_3
        replace hx164_4 := (cell_far (p := ⟨gb163,2,none⟩) (by first | (rw [add_block];exact hn164_2) | (show (Addr.add _ _).block ≠ _;rw [add_block];exact hn164_2) | exact hn164_2) (.int .i64 ((rd_T26 l0 x10_1).f2))).trans hx164_4
        replace hx164_5 := (cell_far (p := ⟨gb163,2,none⟩) (by first | (rw [add_block];exact hn164_2) | (show (Addr.add _ _).block ≠ _;rw [add_block];exact hn164_2) | exact hn164_2) (.int .i64 ((rd_T26 l0 x10_1).f2))).trans hx164_5
        replace hx164_0 := (cell_far (p := ⟨gb163,3,none⟩) (by first | (rw [add_block];exact hn164_3) | (show (Addr.add _ _).block ≠ _;rw [add_block];exact hn164_3) | exact hn164_3) (.int .i64 ((rd_T26 l0 x10_1).f3.f0))).trans hx164_0
        replace hx164_1 := (cell_far (p := ⟨gb163,3,none⟩) (by first | (rw [add_block];exact hn164_3) | (show (Addr.add _ _).block ≠ _;rw [add_block];exact hn164_3) | exact hn164_3) (.int .i64 ((rd_T26 l0 x10_1).f3.f0))).trans hx164_1
        replace hx164_2 := (cell_far (p := ⟨gb163,3,none⟩) (by first | (rw [add_block];exact hn164_3) | (show (Addr.add _ _).block ≠ _;rw [add_block];exact hn164_3) | exact hn164_3) (.int .i64 ((rd_T26 l0 x10_1).f3.f0))).trans hx164_2
        replace hx164_3 := (cell_far (p := ⟨gb163,3,none⟩) (by first | (rw [add_block];exact hn164_3) | (show (Addr.add _ _).block ≠ _;rw [add_block];exact hn164_3) | exact hn164_3) (.int .i64 ((rd_T26 l0 x10_1).f3.f0))).trans hx164_3
        replace hx164_4 := (cell_far (p := ⟨gb163,3,none⟩) (by first | (rw [add_block];exact hn164_3) | (show (Addr.add _ _).block ≠ _;rw [add_block];exact hn164_3) | exact hn164_3) (.int .i64 ((rd_T26 l0 x10_1).f3.f0))).trans hx164_4
        replace hx164_5 := (cell_far (p := ⟨gb163,3,none⟩) (by first | (rw [add_block];exact hn164_3) | (show (Addr.add _ _).block ≠ _;rw [add_block];exact hn164_3) | exact hn164_3) (.int .i64 ((rd_T26 l0 x10_1).f3.f0))).trans hx164_5
        replace hx164_0 := (cell_far (p := ⟨gb163,4,none⟩) (by first | (rw [add_block];exact hn164_4) | (show (Addr.add _ _).block ≠ _;rw [add_block];exact hn164_4) | exact hn164_4) (.int .i64 ((rd_T26 l0 x10_1).f3.f1))).trans hx164_0
        replace hx164_1 := (cell_far (p := ⟨gb163,4,none⟩) (by first | (rw [add_block];exact hn164_4) | (show (Addr.add _ _).block ≠ _;rw [add_block];exact hn164_4) | exact hn164_4) (.int .i64 ((rd_T26 l0 x10_1).f3.f1))).trans hx164_1
        replace hx164_2 := (cell_far (p := ⟨gb163,4,none⟩) (by first | (rw [add_block];exact hn164_4) | (show (Addr.add _ _).block ≠ _;rw [add_block];exact hn164_4) | exact hn164_4) (.int .i64 ((rd_T26 l0 x10_1).f3.f1))).trans hx164_2
        replace hx164_3 := (cell_far (p := ⟨gb163,4,none⟩) (by first | (rw [add_block];exact hn164_4) | (show (Addr.add _ _).block ≠ _;rw [add_block];exact hn164_4) | exact hn164_4) (.int .i64 ((rd_T26 l0 x10_1).f3.f1))).trans hx164_3
        replace hx164_4 := (cell_far (p := ⟨gb163,4,none⟩) (by first | (rw [add_block];exact hn164_4) | (show (Addr.add _ _).block ≠ _;rw [add_block];exact hn164_4) | exact hn164_4) (.int .i64 ((rd_T26 l0 x10_1).f3.f1))).trans hx164_4
        replace hx164_5 := (cell_far (p := ⟨gb163,4,none⟩) (by first | (rw [add_block];exact hn164_4) | (show (Addr.add _ _).block ≠ _;rw [add_block];exact hn164_4) | exact hn164_4) (.int .i64 ((rd_T26 l0 x10_1).f3.f1))).trans hx164_5
        replace hx164_0 := (cell_far (p := ⟨gb163,5,none⟩) (by first | (rw [add_block];exact hn164_5) | (show (Addr.add _ _).block ≠ _;rw [add_block];exact hn164_5) | exact hn164_5) (.int .i64 ((rd_T26 l0 x10_1).f4))).trans hx164_0
        replace hx164_1 := (cell_far (p := ⟨gb163,5,none⟩) (by first | (rw [add_block];exact hn164_5) | (show (Addr.add _ _).block ≠ _;rw [add_block];exact hn164_5) | exact hn164_5) (.int .i64 ((rd_T26 l0 x10_1).f4))).trans hx164_1
        replace hx164_2 := (cell_far (p := ⟨gb163,5,none⟩) (by first | (rw [add_block];exact hn164_5) | (show (Addr.add _ _).block ≠ _;rw [add_block];exact hn164_5) | exact hn164_5) (.int .i64 ((rd_T26 l0 x10_1).f4))).trans hx164_2
        replace hx164_3 := (cell_far (p := ⟨gb163,5,none⟩) (by first | (rw [add_block];exact hn164_5) | (show (Addr.add _ _).block ≠ _;rw [add_block];exact hn164_5) | exact hn164_5) (.int .i64 ((rd_T26 l0 x10_1).f4))).trans hx164_3
        replace hx164_4 := (cell_far (p := ⟨gb163,5,none⟩) (by first | (rw [add_block];exact hn164_5) | (show (Addr.add _ _).block ≠ _;rw [add_block];exact hn164_5) | exact hn164_5) (.int .i64 ((rd_T26 l0 x10_1).f4))).trans hx164_4
        replace hx164_5 := (cell_far (p := ⟨gb163,5,none⟩) (by first | (rw [add_block];exact hn164_5) | (show (Addr.add _ _).block ≠ _;rw [add_block];exact hn164_5) | exact hn164_5) (.int .i64 ((rd_T26 l0 x10_1).f4))).trans hx164_5
        (try have hy164_0 := fun (n_ : Nat) => (show ((((((((w7.drewN n_).setCell ⟨gb163,0,none⟩ (.string ((rd_T26 l0 x10_1).f0))).setCell ⟨gb163,1,none⟩ (.int .i64 ((rd_T26 l0 x10_1).f1))).setCell ⟨gb163,2,none⟩ (.int .i64 ((rd_T26 l0 x10_1).f2))).setCell ⟨gb163,3,none⟩ (.int .i64 ((rd_T26 l0 x10_1).f3.f0))).setCell ⟨gb163,4,none⟩ (.int .i64 ((rd_T26 l0 x10_1).f3.f1))).setCell ⟨gb163,5,none⟩ (.int .i64 ((rd_T26 l0 x10_1).f4)))).cell? _ = some _ from (congrArg (fun W_ : World => W_.cell? _) (show (((((((w7.drewN n_).setCell ⟨gb163,0,none⟩ (.string ((rd_T26 l0 x10_1).f0))).setCell ⟨gb163,1,none⟩ (.int .i64 ((rd_T26 l0 x10_1).f1))).setCell ⟨gb163,2,none⟩ (.int .i64 ((rd_T26 l0 x10_1).f2))).setCell ⟨gb163,3,none⟩ (.int .i64 ((rd_T26 l0 x10_1).f3.f0))).setCell ⟨gb163,4,none⟩ (.int .i64 ((rd_T26 l0 x10_1).f3.f1))).setCell ⟨gb163,5,none⟩ (.int .i64 ((rd_T26 l0 x10_1).f4))) = World.drewN ((((((w7.setCell ⟨gb163,0,none⟩ (.string ((rd_T26 l0 x10_1).f0))).setCell ⟨gb163,1,none⟩ (.int .i64 ((rd_T26 l0 x10_1).f1))).setCell ⟨gb163,2,none⟩ (.int .i64 ((rd_T26 l0 x10_1).f2))).setCell ⟨gb163,3,none⟩ (.int .i64 ((rd_T26 l0 x10_1).f3.f0))).setCell ⟨gb163,4,none⟩ (.int .i64 ((rd_T26 l0 x10_1).f3.f1))).setCell ⟨gb163,5,none⟩ (.int .i64 ((rd_T26 l0 x10_1).f4))) n_ from by simp only [show ∀ (W : World) (n : Nat) (a : Addr) (v : Value),(W.drewN n).setCell a v = (W.setCell a v).drewN n from fun _ _ _ _ => rfl])).trans (World.cell?_drewN.trans hx164_0)))
        (try have hy164_1 := fun (n_ : Nat) => (show ((((((((w7.drewN n_).setCell ⟨gb163,0,none⟩ (.string ((rd_T26 l0 x10_1).f0))).setCell ⟨gb163,1,none⟩ (.int .i64 ((rd_T26 l0 x10_1).f1))).setCell ⟨gb163,2,none⟩ (.int .i64 ((rd_T26 l0 x10_1).f2))).setCell ⟨gb163,3,none⟩ (.int .i64 ((rd_T26 l0 x10_1).f3.f0))).setCell ⟨gb163,4,none⟩ (.int .i64 ((rd_T26 l0 x10_1).f3.f1))).setCell ⟨gb163,5,none⟩ (.int .i64 ((rd_T26 l0 x10_1).f4)))).cell? _ = some _ from (congrArg (fun W_ : World => W_.cell? _) (show (((((((w7.drewN n_).setCell ⟨gb163,0,none⟩ (.string ((rd_T26 l0 x10_1).f0))).setCell ⟨gb163,1,none⟩ (.int .i64 ((rd_T26 l0 x10_1).f1))).setCell ⟨gb163,2,none⟩ (.int .i64 ((rd_T26 l0 x10_1).f2))).setCell ⟨gb163,3,none⟩ (.int .i64 ((rd_T26 l0 x10_1).f3.f0))).setCell ⟨gb163,4,none⟩ (.int .i64 ((rd_T26 l0 x10_1).f3.f1))).setCell ⟨gb163,5,none⟩ (.int .i64 ((rd_T26 l0 x10_1).f4))) = World.drewN ((((((w7.setCell ⟨gb163,0,none⟩ (.string ((rd_T26 l0 x10_1).f0))).setCell ⟨gb163,1,none⟩ (.int .i64 ((rd_T26 l0 x10_1).f1))).setCell ⟨gb163,2,none⟩ (.int .i64 ((rd_T26 l0 x10_1).f2))).setCell ⟨gb163,3,none⟩ (.int .i64 ((rd_T26 l0 x10_1).f3.f0))).setCell ⟨gb163,4,none⟩ (.int .i64 ((rd_T26 l0 x10_1).f3.f1))).setCell ⟨gb163,5,none⟩ (.int .i64 ((rd_T26 l0 x10_1).f4))) n_ from by simp only [show ∀ (W : World) (n : Nat) (a : Addr) (v : Value),(W.drewN n).setCell a v = (W.setCell a v).drewN n from fun _ _ _ _ => rfl])).trans (World.cell?_drewN.trans hx164_1)))
        (try have hy164_2 := fun (n_ : Nat) => (show ((((((((w7.drewN n_).setCell ⟨gb163,0,none⟩ (.string ((rd_T26 l0 x10_1).f0))).setCell ⟨gb163,1,none⟩ (.int .i64 ((rd_T26 l0 x10_1).f1))).setCell ⟨gb163,2,none⟩ (.int .i64 ((rd_T26 l0 x10_1).f2))).setCell ⟨gb163,3,none⟩ (.int .i64 ((rd_T26 l0 x10_1).f3.f0))).setCell ⟨gb163,4,none⟩ (.int .i64 ((rd_T26 l0 x10_1).f3.f1))).setCell ⟨gb163,5,none⟩ (.int .i64 ((rd_T26 l0 x10_1).f4)))).cell? _ = some _ from (congrArg (fun W_ : World => W_.cell? _) (show (((((((w7.drewN n_).setCell ⟨gb163,0,none⟩ (.string ((rd_T26 l0 x10_1).f0))).setCell ⟨gb163,1,none⟩ (.int .i64 ((rd_T26 l0 x10_1).f1))).setCell ⟨gb163,2,none⟩ (.int .i64 ((rd_T26 l0 x10_1).f2))).setCell ⟨gb163,3,none⟩ (.int .i64 ((rd_T26 l0 x10_1).f3.f0))).setCell ⟨gb163,4,none⟩ (.int .i64 ((rd_T26 l0 x10_1).f3.f1))).setCell ⟨gb163,5,none⟩ (.int .i64 ((rd_T26 l0 x10_1).f4))) = World.drewN ((((((w7.setCell ⟨gb163,0,none⟩ (.string ((rd_T26 l0 x10_1).f0))).setCell ⟨gb163,1,none⟩ (.int .i64 ((rd_T26 l0 x10_1).f1))).setCell ⟨gb163,2,none⟩ (.int .i64 ((rd_T26 l0 x10_1).f2))).setCell ⟨gb163,3,none⟩ (.int .i64 ((rd_T26 l0 x10_1).f3.f0))).setCell ⟨gb163,4,none⟩ (.int .i64 ((rd_T26 l0 x10_1).f3.f1))).setCell ⟨gb163,5,none⟩ (.int .i64 ((rd_T26 l0 x10_1).f4))) n_ from by simp only [show ∀ (W : World) (n : Nat) (a : Addr) (v : Value),(W.drewN n).setCell a v = (W.setCell a v).drewN n from fun _ _ _ _ => rfl])).trans (World.cell?_drewN.trans hx164_2)))
        (try have hy164_3 := fun (n_ : Nat) => (show ((((((((w7.drewN n_).setCell ⟨gb163,0,none⟩ (.string ((rd_T26 l0 x10_1).f0))).setCell ⟨gb163,1,none⟩ (.int .i64 ((rd_T26 l0 x10_1).f1))).setCell ⟨gb163,2,none⟩ (.int .i64 ((rd_T26 l0 x10_1).f2))).setCell ⟨gb163,3,none⟩ (.int .i64 ((rd_T26 l0 x10_1).f3.f0))).setCell ⟨gb163,4,none⟩ (.int .i64 ((rd_T26 l0 x10_1).f3.f1))).setCell ⟨gb163,5,none⟩ (.int .i64 ((rd_T26 l0 x10_1).f4)))).cell? _ = some _ from (congrArg (fun W_ : World => W_.cell? _) (show (((((((w7.drewN n_).setCell ⟨gb163,0,none⟩ (.string ((rd_T26 l0 x10_1).f0))).setCell ⟨gb163,1,none⟩ (.int .i64 ((rd_T26 l0 x10_1).f1))).setCell ⟨gb163,2,none⟩ (.int .i64 ((rd_T26 l0 x10_1).f2))).setCell ⟨gb163,3,none⟩ (.int .i64 ((rd_T26 l0 x10_1).f3.f0))).setCell ⟨gb163,4,none⟩ (.int .i64 ((rd_T26 l0 x10_1).f3.f1))).setCell ⟨gb163,5,none⟩ (.int .i64 ((rd_T26 l0 x10_1).f4))) = World.drewN ((((((w7.setCell ⟨gb163,0,none⟩ (.string ((rd_T26 l0 x10_1).f0))).setCell ⟨gb163,1,none⟩ (.int .i64 ((rd_T26 l0 x10_1).f1))).setCell ⟨gb163,2,none⟩ (.int .i64 ((rd_T26 l0 x10_1).f2))).setCell ⟨gb163,3,none⟩ (.int .i64 ((rd_T26 l0 x10_1).f3.f0))).setCell ⟨gb163,4,none⟩ (.int .i64 ((rd_T26 l0 x10_1).f3.f1))).setCell ⟨gb163,5,none⟩ (.int .i64 ((rd_T26 l0 x10_1).f4))) n_ from by simp only [show ∀ (W : World) (n : Nat) (a : Addr) (v : Value),(W.drewN n).setCell a v = (W.setCell a v).drewN n from fun _ _ _ _ => rfl])).trans (World.cell?_drewN.trans hx164_3)))
        (try have hy164_4 := fun (n_ : Nat) => (show ((((((((w7.drewN n_).setCell ⟨gb163,0,none⟩ (.string ((rd_T26 l0 x10_1).f0))).setCell ⟨gb163,1,none⟩ (.int .i64 ((rd_T26 l0 x10_1).f1))).setCell ⟨gb163,2,none⟩ (.int .i64 ((rd_T26 l0 x10_1).f2))).setCell ⟨gb163,3,none⟩ (.int .i64 ((rd_T26 l0 x10_1).f3.f0))).setCell ⟨gb163,4,none⟩ (.int .i64 ((rd_T26 l0 x10_1).f3.f1))).setCell ⟨gb163,5,none⟩ (.int .i64 ((rd_T26 l0 x10_1).f4)))).cell? _ = some _ from (congrArg (fun W_ : World => W_.cell? _) (show (((((((w7.drewN n_).setCell ⟨gb163,0,none⟩ (.string ((rd_T26 l0 x10_1).f0))).setCell ⟨gb163,1,none⟩ (.int .i64 ((rd_T26 l0 x10_1).f1))).setCell ⟨gb163,2,none⟩ (.int .i64 ((rd_T26 l0 x10_1).f2))).setCell ⟨gb163,3,none⟩ (.int .i64 ((rd_T26 l0 x10_1).f3.f0))).setCell ⟨gb163,4,none⟩ (.int .i64 ((rd_T26 l0 x10_1).f3.f1))).setCell ⟨gb163,5,none⟩ (.int .i64 ((rd_T26 l0 x10_1).f4))) = World.drewN ((((((w7.setCell ⟨gb163,0,none⟩ (.string ((rd_T26 l0 x10_1).f0))).setCell ⟨gb163,1,none⟩ (.int .i64 ((rd_T26 l0 x10_1).f1))).setCell ⟨gb163,2,none⟩ (.int .i64 ((rd_T26 l0 x10_1).f2))).setCell ⟨gb163,3,none⟩ (.int .i64 ((rd_T26 l0 x10_1).f3.f0))).setCell ⟨gb163,4,none⟩ (.int .i64 ((rd_T26 l0 x10_1).f3.f1))).setCell ⟨gb163,5,none⟩ (.int .i64 ((rd_T26 l0 x10_1).f4))) n_ from by simp only [show ∀ (W : World) (n : Nat) (a : Addr) (v : Value),(W.drewN n).setCell a v = (W.setCell a v).drewN n from fun _ _ _ _ => rfl])).trans (World.cell?_drewN.trans hx164_4)))
        (try have hy164_5 := fun (n_ : Nat) => (show ((((((((w7.drewN n_).setCell ⟨gb163,0,none⟩ (.string ((rd_T26 l0 x10_1).f0))).setCell ⟨gb163,1,none⟩ (.int .i64 ((rd_T26 l0 x10_1).f1))).setCell ⟨gb163,2,none⟩ (.int .i64 ((rd_T26 l0 x10_1).f2))).setCell ⟨gb163,3,none⟩ (.int .i64 ((rd_T26 l0 x10_1).f3.f0))).setCell ⟨gb163,4,none⟩ (.int .i64 ((rd_T26 l0 x10_1).f3.f1))).setCell ⟨gb163,5,none⟩ (.int .i64 ((rd_T26 l0 x10_1).f4)))).cell? _ = some _ from (congrArg (fun W_ : World => W_.cell? _) (show (((((((w7.drewN n_).setCell ⟨gb163,0,none⟩ (.string ((rd_T26 l0 x10_1).f0))).setCell ⟨gb163,1,none⟩ (.int .i64 ((rd_T26 l0 x10_1).f1))).setCell ⟨gb163,2,none⟩ (.int .i64 ((rd_T26 l0 x10_1).f2))).setCell ⟨gb163,3,none⟩ (.int .i64 ((rd_T26 l0 x10_1).f3.f0))).setCell ⟨gb163,4,none⟩ (.int .i64 ((rd_T26 l0 x10_1).f3.f1))).setCell ⟨gb163,5,none⟩ (.int .i64 ((rd_T26 l0 x10_1).f4))) = World.drewN ((((((w7.setCell ⟨gb163,0,none⟩ (.string ((rd_T26 l0 x10_1).f0))).setCell ⟨gb163,1,none⟩ (.int .i64 ((rd_T26 l0 x10_1).f1))).setCell ⟨gb163,2,none⟩ (.int .i64 ((rd_T26 l0 x10_1).f2))).setCell ⟨gb163,3,none⟩ (.int .i64 ((rd_T26 l0 x10_1).f3.f0))).setCell ⟨gb163,4,none⟩ (.int .i64 ((rd_T26 l0 x10_1).f3.f1))).setCell ⟨gb163,5,none⟩ (.int .i64 ((rd_T26 l0 x10_1).f4))) n_ from by simp only [show ∀ (W : World) (n : Nat) (a : Addr) (v : Value),(W.drewN n).setCell a v = (W.setCell a v).drewN n from fun _ _ _ _ => rfl])).trans (World.cell?_drewN.trans hx164_5)))
        clear hn164_0
        clear hn164_1
        clear hn164_2
        clear hn164_3
        clear hn164_4
        clear hn164_5
        replace p164 := eq_true p164
        replace q164 := eq_true q164
        go_wp2
        repeat (go_quiet (fail);try go_wp2)
        go_meet
        case rel => exact ⟨_,(decide (((rd_T26 l0 x10_1).f4) > ((rd_T26 l0 x5_1).f4))),Y12,H',⟨by have := HK1.out;first | omega | exact Nat.le_refl _⟩,⟨by (with_reducible repeat (first | refine blk_drewN ?_ _ | refine blk_drew ?_ | refine blk_alloc ?_ _));refine blk_put (cs := #[.string ((rd_T26 l0 x10_1).f0),.int .i64 ((rd_T26 l0 x10_1).f1),.int .i64 ((rd_T26 l0 x10_1).f2),.int .i64 ((rd_T26 l0 x10_1).f3.f0),.int .i64 ((rd_T26 l0 x10_1).f3.f1),.int .i64 0]) ?_ 5 _ rfl;(with_reducible repeat (first | refine blk_drewN ?_ _ | refine blk_drew ?_ | refine blk_alloc ?_ _));refine blk_put (cs := #[.string ((rd_T26 l0 x10_1).f0),.int .i64 ((rd_T26 l0 x10_1).f1),.int .i64 ((rd_T26 l0 x10_1).f2),.int .i64 ((rd_T26 l0 x10_1).f3.f0),.int .i64 0,.int .i64 0]) ?_ 4 _ rfl;(with_reducible repeat (first | refine blk_drewN ?_ _ | refine blk_drew ?_ | refine blk_alloc ?_ _));refine blk_put (cs := #[.string ((rd_T26 l0 x10_1).f0),.int .i64 ((rd_T26 l0 x10_1).f1),.int .i64 ((rd_T26 l0 x10_1).f2),.int .i64 0,.int .i64 0,.int .i64 0]) ?_ 3 _ rfl;(with_reducible repeat (first | refine blk_drewN ?_ _ | refine blk_drew ?_ | refine blk_alloc ?_ _));refine blk_put (cs := #[.string ((rd_T26 l0 x10_1).f0),.int .i64 ((rd_T26 l0 x10_1).f1),.int .i64 0,.int .i64 0,.int .i64 0,.int .i64 0]) ?_ 2 _ rfl;(with_reducible repeat (first | refine blk_drewN ?_ _ | refine blk_drew ?_ | refine blk_alloc ?_ _));refine blk_put (cs := #[.string ((rd_T26 l0 x10_1).f0),.int .i64 0,.int .i64 0,.int .i64 0,.int .i64 0,.int .i64 0]) ?_ 1 _ rfl;(with_reducible repeat (first | refine blk_drewN ?_ _ | refine blk_drew ?_ | refine blk_alloc ?_ _));refine blk_put (cs := #[.string (⟨#[]⟩ : ByteArray),.int .i64 0,.int .i64 0,.int .i64 0,.int .i64 0,.int .i64 0]) ?_ 0 _ rfl;(with_reducible repeat (first | refine blk_drewN ?_ _ | refine blk_drew ?_ | refine blk_alloc ?_ _));exact BK163.out⟩,⟨by repeat (first | (with_reducible first | exact HB.out | apply below_alloc | apply Y15 | apply below_drew1 | refine below_set ?_ GE163.out) | exact HB.out)⟩⟩
      ·rw [if_neg c10] at H
       have c10b0 : decide (a1 < ((rd_T26 l0 x10_1).f2)) = false := decide_eq_false c10
       clear c10
       have H' := Yd H
       clear H
       have hcz16_0 : w7.cell? ⟨gb163,0,none⟩ = some (.string (⟨#[]⟩ : ByteArray)) := (blk_cell BK163.out 0).trans rfl
       have hcz16_1 : w7.cell? ⟨gb163,1,none⟩ = some (.int .i64 0) := (blk_cell BK163.out 1).trans rfl
       have hcz16_2 : w7.cell? ⟨gb163,2,none⟩ = some (.int .i64 0) := (blk_cell BK163.out 2).trans rfl
       have hcz16_3 : w7.cell? ⟨gb163,3,none⟩ = some (.int .i64 0) := (blk_cell BK163.out 3).trans rfl
       have hcz16_4 : w7.cell? ⟨gb163,4,none⟩ = some (.int .i64 0) := (blk_cell BK163.out 4).trans rfl
       have hcz16_5 : w7.cell? ⟨gb163,5,none⟩ = some (.int .i64 0) := (blk_cell BK163.out 5).trans rfl
       have hfz16_0 := blk_frozen BK163.out 0
       have hfz16_1 := blk_frozen BK163.out 1
       have hfz16_2 := blk_frozen BK163.out 2
       have hfz16_3 := blk_frozen BK163.out 3
       have hfz16_4 := blk_frozen BK163.out 4
       have hfz16_5 := blk_frozen BK163.out 5
       go_wp2
       repeat (go_quiet (fail);try go_wp2)
       go_meet
       case rel => exact ⟨_,(false),Y12,H',⟨by have := HK1.out;first | omega | exact Nat.le_refl _⟩,⟨by (with_reducible repeat (first | refine blk_drewN ?_ _ | refine blk_drew ?_ | refine blk_alloc ?_ _));refine blk_put (cs := #[.string ((rd_T26 l0 x10_1).f0),.int .i64 ((rd_T26 l0 x10_1).f1),.int .i64 ((rd_T26 l0 x10_1).f2),.int .i64 ((rd_T26 l0 x10_1).f3.f0),.int .i64 ((rd_T26 l0 x10_1).f3.f1),.int .i64 0]) ?_ 5 _ rfl;(with_reducible repeat (first | refine blk_drewN ?_ _ | refine blk_drew ?_ | refine blk_alloc ?_ _));refine blk_put (cs := #[.string ((rd_T26 l0 x10_1).f0),.int .i64 ((rd_T26 l0 x10_1).f1),.int .i64 ((rd_T26 l0 x10_1).f2),.int .i64 ((rd_T26 l0 x10_1).f3.f0),.int .i64 0,.int .i64 0]) ?_ 4 _ rfl;(with_reducible repeat (first | refine blk_drewN ?_ _ | refine blk_drew ?_ | refine blk_alloc ?_ _));refine blk_put (cs := #[.string ((rd_T26 l0 x10_1).f0),.int .i64 ((rd_T26 l0 x10_1).f1),.int .i64 ((rd_T26 l0 x10_1).f2),.int .i64 0,.int .i64 0,.int .i64 0]) ?_ 3 _ rfl;(with_reducible repeat (first | refine blk_drewN ?_ _ | refine blk_drew ?_ | refine blk_alloc ?_ _));refine blk_put (cs := #[.string ((rd_T26 l0 x10_1).f0),.int .i64 ((rd_T26 l0 x10_1).f1),.int .i64 0,.int .i64 0,.int .i64 0,.int .i64 0]) ?_ 2 _ rfl;(with_reducible repeat (first | refine blk_drewN ?_ _ | refine blk_drew ?_ | refine blk_alloc ?_ _));refine blk_put (cs := #[.string ((rd_T26 l0 x10_1).f0),.int .i64 0,.int .i64 0,.int .i64 0,.int .i64 0,.int .i64 0]) ?_ 1 _ rfl;(with_reducible repeat (first | refine blk_drewN ?_ _ | refine blk_drew ?_ | refine blk_alloc ?_ _));refine blk_put (cs := #[.string (⟨#[]⟩ : ByteArray),.int .i64 0,.int .i64 0,.int .i64 0,.int .i64 0,.int .i64 0]) ?_ 0 _ rfl;(with_reducible repeat (first | refine blk_drewN ?_ _ | refine blk_drew ?_ | refine blk_alloc ?_ _));exact BK163.out⟩,⟨by repeat (first | (with_reducible first | exact HB.out | apply below_alloc | apply Y15 | apply below_drew1 | refine below_set ?_ GE163.out) | exact HB.out)⟩⟩
     ·rw [if_neg c9] at H
      have c9b0 : decide (((rd_T26 l0 x10_1).f1) ≤ a1) = false := decide_eq_false c9
      clear c9
      (first | rw [c9b0] | (simp only [i64_w,i32_w];rw [c9b0]) | skip)
      have H' := Yd H
      clear H
      have hcz17_0 : w7.cell? ⟨gb163,0,none⟩ = some (.string (⟨#[]⟩ : ByteArray)) := (blk_cell BK163.out 0).trans rfl
      have hcz17_1 : w7.cell? ⟨gb163,1,none⟩ = some (.int .i64 0) := (blk_cell BK163.out 1).trans rfl
      have hcz17_2 : w7.cell? ⟨gb163,2,none⟩ = some (.int .i64 0) := (blk_cell BK163.out 2).trans rfl
      have hcz17_3 : w7.cell? ⟨gb163,3,none⟩ = some (.int .i64 0) := (blk_cell BK163.out 3).trans rfl
      have hcz17_4 : w7.cell? ⟨gb163,4,none⟩ = some (.int .i64 0) := (blk_cell BK163.out 4).trans rfl
      have hcz17_5 : w7.cell? ⟨gb163,5,none⟩ = some (.int .i64 0) := (blk_cell BK163.out 5).trans rfl
      have hfz17_0 := blk_frozen BK163.out 0
      have hfz17_1 := blk_frozen BK163.out 1
      have hfz17_2 := blk_frozen BK163.out 2
      have hfz17_3 := blk_frozen BK163.out 3
      have hfz17_4 := blk_frozen BK163.out 4
      have hfz17_5 := blk_frozen BK163.out 5
      go_wp2
      repeat (go_quiet (fail);try go_wp2)
      go_meet
      case rel => exact ⟨_,(false),Y12,H',⟨by have := HK1.out;first | omega | exact Nat.le_refl _⟩,⟨by (with_reducible repeat (first | refine blk_drewN ?_ _ | refine blk_drew ?_ | refine blk_alloc ?_ _));refine blk_put (cs := #[.string ((rd_T26 l0 x10_1).f0),.int .i64 ((rd_T26 l0 x10_1).f1),.int .i64 ((rd_T26 l0 x10_1).f2),.int .i64 ((rd_T26 l0 x10_1).f3.f0),.int .i64 ((rd_T26 l0 x10_1).f3.f1),.int .i64 0]) ?_ 5 _ rfl;(with_reducible repeat (first | refine blk_drewN ?_ _ | refine blk_drew ?_ | refine blk_alloc ?_ _));refine blk_put (cs := #[.string ((rd_T26 l0 x10_1).f0),.int .i64 ((rd_T26 l0 x10_1).f1),.int .i64 ((rd_T26 l0 x10_1).f2),.int .i64 ((rd_T26 l0 x10_1).f3.f0),.int .i64 0,.int .i64 0]) ?_ 4 _ rfl;(with_reducible repeat (first | refine blk_drewN ?_ _ | refine blk_drew ?_ | refine blk_alloc ?_ _));refine blk_put (cs := #[.string ((rd_T26 l0 x10_1).f0),.int .i64 ((rd_T26 l0 x10_1).f1),.int .i64 ((rd_T26 l0 x10_1).f2),.int .i64 0,.int .i64 0,.int .i64 0]) ?_ 3 _ rfl;(with_reducible repeat (first | refine blk_drewN ?_ _ | refine blk_drew ?_ | refine blk_alloc ?_ _));refine blk_put (cs := #[.string ((rd_T26 l0 x10_1).f0),.int .i64 ((rd_T26 l0 x10_1).f1),.int .i64 0,.int .i64 0,.int .i64 0,.int .i64 0]) ?_ 2 _ rfl;(with_reducible repeat (first | refine blk_drewN ?_ _ | refine blk_drew ?_ | refine blk_alloc ?_ _));refine blk_put (cs := #[.string ((rd_T26 l0 x10_1).f0),.int .i64 0,.int .i64 0,.int .i64 0,.int .i64 0,.int .i64 0]) ?_ 1 _ rfl;(with_reducible repeat (first | refine blk_drewN ?_ _ | refine blk_drew ?_ | refine blk_alloc ?_ _));refine blk_put (cs := #[.string (⟨#[]⟩ : ByteArray),.int .i64 0,.int .i64 0,.int .i64 0,.int .i64 0,.int .i64 0]) ?_ 0 _ rfl;(with_reducible repeat (first | refine blk_drewN ?_ _ | refine blk_drew ?_ | refine blk_alloc ?_ _));exact BK163.out⟩,⟨by repeat (first | (with_reducible first | exact HB.out | apply below_alloc | apply Y15 | apply below_drew1 | refine below_set ?_ GE163.out) | exact HB.out)⟩⟩
    case rest =>
     clear HC6
     try clear c1
     try clear p1
     try clear q1
     try clear hx1
     try clear p2
     try clear c3
     try clear c3b0
     try clear c4
     try clear c4b0
     try clear c5
     try clear c5b0
     try clear c9
     try clear c9b0
     try clear c10
     try clear c10b0
     try clear c11
     try clear c11b0
     try clear c13
     try clear c13b0
     try clear c14
     try clear c14b0
     try clear p16
     try clear q16
     try clear hx16
     try clear hcz12_0
     try clear hcz12_1
     try clear hcz12_2
     try clear hcz12_3
     try clear hcz12_4
     try clear hcz12_5
     try clear hcz15_0
     try clear hcz15_1
     try clear hcz15_2
     try clear hcz15_3
     try clear hcz15_4
     try clear hcz15_5
     try clear hcz16_0
     try clear hcz16_1
     try clear hcz16_2
     try clear hcz16_3
     try clear hcz16_4
     try clear hcz16_5
     try clear hcz17_0
     try clear hcz17_1
     try clear hcz17_2
     try clear hcz17_3
     try clear hcz17_4
     try clear hcz17_5
     try clear hcz8_0
     try clear hcz8_1
     try clear hcz8_2
     try clear hcz8_3
     try clear hcz8_4
     try clear hcz8_5
     try clear hfz12_0
     try clear hfz12_1
     try clear hfz12_2
     try clear hfz12_3
     try clear hfz12_4
     try clear hfz12_5
     try clear hfz15_0
     try clear hfz15_1
     try clear hfz15_2
     try clear hfz15_3
     try clear hfz15_4
     try clear hfz15_5
     try clear hfz16_0
     try clear hfz16_1
     try clear hfz16_2
     try clear hfz16_3
     try clear hfz16_4
     try clear hfz16_5
     try clear hfz17_0
     try clear hfz17_1
     try clear hfz17_2
     try clear hfz17_3
     try clear hfz17_4
     try clear hfz17_5
     try clear hfz8_0
     try clear hfz8_1
     try clear hfz8_2
     try clear hfz8_3
     try clear hfz8_4
     try clear hfz8_5
     try clear hx162_0
     try clear hx162_1
     try clear hx162_2
     try clear hx162_3
     try clear hx162_4
     try clear hx162_5
     try clear hx164_0
     try clear hx164_1
     try clear hx164_2
     try clear hx164_3
     try clear hx164_4
     try clear hx164_5
     try clear p162
     try clear p164
     try clear p2
     try clear q162
     try clear q164
     obtain ⟨kq,x38_5,rfl,HA,HJ5,BK163,HB⟩ := hcut
     cases kq with
     | zero => exact absurd HA.out (by simp [override_governs.j1])
     | succ kj5 =>
      have H := HA.out
      clear HA
      simp only [override_governs.j1] at H
      by_cases c18 : x38_5 = true
      ·subst c18
       have H1 : (override_governs.l0 kj5 l0 a1 x10_1 l0 (l0.length : Int) (wrap64 (x10_1 + 1))) = some r := by rw [if_pos rfl] at H;exact H
       clear H
       have H := H1
       clear H1
       have H' := Yd H
       clear H
       go_wp2
       repeat (go_quiet (fail);try go_wp2)
       go_roundg kj5
       case measure => have := HK1.out;have := HJ5.out;omega
       case rel => exact ⟨(x10_1),(wrap64 (x10_1 + 1)),Y12,Y12,H',⟨by have := HK1.out;have := HJ5.out;omega⟩,⟨by repeat (first | (with_reducible first | exact HB.out | apply below_alloc | apply Y15 | apply below_drew1 | refine below_set ?_ GE163.out) | exact HB.out)⟩⟩
      ·replace c18 := Bool.eq_false_iff.mpr c18
       subst c18
       have H1 : (override_governs.l0 kj5 l0 a1 x5_1 l0 (l0.length : Int) (wrap64 (x10_1 + 1))) = some r := by rw [if_neg (show ¬ (false = true) by decide)] at H;exact H
       clear H
       have H := H1
       clear H1
       have H' := Yd H
       clear H
       go_wp2
       repeat (go_quiet (fail);try go_wp2)
       go_roundg kj5
       case measure => have := HK1.out;have := HJ5.out;omega
       case rel => exact ⟨(x5_1),(wrap64 (x10_1 + 1)),Y12,Y12,H',⟨by have := HK1.out;have := HJ5.out;omega⟩,⟨by repeat (first | (with_reducible first | exact HB.out | apply below_alloc | apply Y15 | apply below_drew1 | refine below_set ?_ GE163.out) | exact HB.out)⟩⟩
   ·rw [if_neg c3] at H
    have c3b0 : decide (x10_1 < (l0.length : Int)) = false := decide_eq_false c3
    clear c3
    obtain rfl := Option.some.inj H
    go_wp2
    repeat (go_quiet (fail);try go_wp2)
    go_ret
    exact ⟨by first | rfl | (simp [errW_none,errW_some] <;> rfl) | (simp [*,errW_none,errW_some] <;> rfl),Y3 HB.out⟩
def override_At.f (k : Nat) (l0 : List (S26)) (a1 : Int) : Option (Int) := (override_Check.f k l0).bind fun t165 => (if t165 = 0 then ((override_governs.f k l0 a1).bind fun t166 => (some t166)) else (some (-1)))
theorem override_At.mono : ∀ a0 a1 k,LeO (override_At.f k a0 a1) (override_At.f (k + 1) a0 a1) := by
 intro a0 a1 k
 unfold override_At.f
 repeat' first
   | (with_reducible exact override_Check.mono _ _)
   | (with_reducible exact override_governs.mono _ _ _)
   | (with_reducible exact LeO.refl _)
   | (with_reducible exact LeO.none _)
   | (with_reducible refine LeO.ite ?_ ?_)
   | (with_reducible refine LeO.bind ?_ (fun _ => ?_))
   | exact override_Check.mono _ _
   | exact override_governs.mono _ _ _
   | exact LeO.none _
   | refine LeO.ite ?_ ?_
   | refine LeO.bind ?_ (fun _ => ?_)
set_option maxHeartbeats 100000000 in
set_option maxRecDepth 100000 in
theorem override_At.calls (k : Nat) (A0 : Option Addr) (c0 : Nat) (l0 : List (S26)) (a1 : Int) (r : Int) (w : World) (hr0 : Kd.C k26 w A0 l0.length l0) (hc0 : l0.length ≤ c0) (h : override_At.f k l0 a1 = some r) :
  Calls Try.prog 17 #[.slice A0 l0.length c0,.int .i64 a1] w fun e w' => e = .returned (.int .i64 r) ∧ Below w.heap.size w w' := by
 have HR0 := Yd hr0
 have HC0 := Yd hc0
 clear hr0 hc0
 have HB := Yd (Below.refl w.heap.size w)
 have H : ((override_Check.f k l0).bind fun t165 => (if t165 = 0 then ((override_governs.f k l0 a1).bind fun t166 => (some t166)) else (some (-1)))) = some r := h
 clear h
 replace H := Option.bind_eq_some_iff.mp H
 obtain ⟨t165,A30,H⟩ := H
 replace H : (if t165 = 0 then ((override_governs.f k l0 a1).bind fun t166 => (some t166)) else (some (-1))) = some r := H
 have A3 := Yd A30
 clear A30
 by_cases c4 : t165 = 0
 ·rw [if_pos c4] at H
  have c4b0 : (t165 == 0) = true := beq_iff_eq.mpr c4
  have c4b1 : (t165 != 0) = false := bne_eq_false_iff_eq.mpr c4
  clear c4
  replace H := Option.bind_eq_some_iff.mp H
  obtain ⟨t166,A50,H⟩ := H
  replace H : (some t166) = some r := H
  have A5 := Yd A50
  clear A50
  obtain rfl := Option.some.inj H
  go_enter Try.func17,Try.ntmps17
  go_wp2_with (first | ((with_reducible refine gate_callee (f := 16) rfl ?_);refine goesL_ (some 6) rfl rfl Try.func16 (by kernel_rfl) rfl #[.slice A0 l0.length c0] rfl Y8 ?_;(with_reducible refine (override_Check.calls k _ _ l0 t165 _ ?side1 ?side2 A3.out).mono ?_);(case side1 => repeat (first | exact HR0.out | (with_reducible refine Kd.C_alloc ?_ _) | (with_reducible refine Kd.C_drewN ?_ _) | (with_reducible refine Kd.C_drew ?_)));(case side2 => exact HC0.out);rintro e w6 ⟨rfl,hb⟩;refine ⟨_,rfl,?_⟩;have n0_ := Yd (below_step (Y3 HB.out) hb);clear HB;have HB := n0_;clear n0_;(try clear hb);(try clear hb2);(try clear hk);(try clear hi)) | ((with_reducible refine gate_callee (f := 37) rfl ?_);refine goesL_ (some 10) rfl rfl Try.func37 (by kernel_rfl) rfl #[.slice A0 l0.length c0,.int .i64 a1] rfl Y8 ?_;(with_reducible refine (override_governs.calls k _ _ l0 a1 t166 _ ?side1 ?side2 A5.out).mono ?_);(case side1 => exact Y11 (Kd.C_below HR0.out HB.out));(case side2 => exact HC0.out);rintro e w7 ⟨rfl,hb⟩;refine ⟨_,rfl,?_⟩;have n0_ := Yd (below_step (Y3 HB.out) hb);clear HB;have HB := n0_;clear n0_;(try clear hb);(try clear hb2);(try clear hk);(try clear hi)))
  go_ret
  exact ⟨by first | rfl | (simp [errW_none,errW_some] <;> rfl) | (simp [*,errW_none,errW_some] <;> rfl),Y3 HB.out⟩
 ·rw [if_neg c4] at H
  have c4b0 : (t165 == 0) = false := beq_eq_false_iff_ne.mpr c4
  have c4b1 : (t165 != 0) = true := bne_iff_ne.mpr c4
  obtain rfl := Option.some.inj H
  go_enter Try.func17,Try.ntmps17
  go_wp2_with (first | ((with_reducible refine gate_callee (f := 16) rfl ?_);refine goesL_ (some 6) rfl rfl Try.func16 (by kernel_rfl) rfl #[.slice A0 l0.length c0] rfl Y8 ?_;(with_reducible refine (override_Check.calls k _ _ l0 t165 _ ?side1 ?side2 A3.out).mono ?_);(case side1 => repeat (first | exact HR0.out | (with_reducible refine Kd.C_alloc ?_ _) | (with_reducible refine Kd.C_drewN ?_ _) | (with_reducible refine Kd.C_drew ?_)));(case side2 => exact HC0.out);rintro e w8 ⟨rfl,hb⟩;refine ⟨_,rfl,?_⟩;have n0_ := Yd (below_step (Y3 HB.out) hb);clear HB;have HB := n0_;clear n0_;(try clear hb);(try clear hb2);(try clear hk);(try clear hi)))
  go_ret
  exact ⟨by first | rfl | (simp [errW_none,errW_some] <;> rfl) | (simp [*,errW_none,errW_some] <;> rfl),Y3 HB.out⟩
end Go.Proofs.Ytaoicdkjjjlmeaa.PD34
namespace Go.Proofs.Ytaoicdkjjjlmeaa.PD34
open Go.RowKit Go.Proofs.YtaoicdkjjjlmeaaW.PrintWords Go.Proofs.YtaoicdkjjjlmeaaW.PrintLast Go.Proofs.YtaoicdkjjjlmeaaW.PrintMore
attribute [local go_sem] max2_int min2_int max_two min_two max_three min_three max_four min_four
theorem eqA49 (d : Nat) (w : World) (x0 y0 : Int) (x1 y1 : Int) (x2 y2 : Int) :
  (Op.equalIn (d + 2) 49 (.agg #[.int .i64 x0,.int .i64 x1,.int .i64 x2]) (.agg #[.int .i64 y0,.int .i64 y1,.int .i64 y2])).run Try.prog w = .ok (x0 == y0 && (x1 == y1 && (x2 == y2))) w := by
 refine eqA_of Try.underlying49 (by kernel_rfl) ?_
 refine eqf_cons (by rfl) (by go_simp;rfl) (by go_simp;rfl) (by go_simp) ?_
 refine eqf_cons (by rfl) (by go_simp;rfl) (by go_simp;rfl) (by go_simp) ?_
 exact eqf_last (by rfl) (by go_simp;rfl) (by go_simp;rfl) (by go_simp)
end Go.Proofs.Ytaoicdkjjjlmeaa.PD34
namespace Go.Proofs
open Go.Shelf
def Try.lays189_ren : Go.Shelf.Ren := ⟨fun | 189 => 42 | 125 => 45 | 257 => 44 | 128 => 56 | 129 => 57 | 294 => 47 | 295 => 48 | 296 => 49 | 297 => 50 | 298 => 51 | 299 => 52 | 216 => 53 | 300 => 54 | 301 => 55 | 328 => 58 | 329 => 59 | 330 => 60 | 331 => 61 | 332 => 62 | 215 => 63 | 343 => 64 | n => n, fun | 28 => 58 | 3 => 3 | 46 => 66 | 0 => 0 | 51 => 78 | 53 => 80 | 4 => 4 | 183 => 70 | 182 => 69 | 131 => 75 | 5 => 5 | 9 => 9 | 218 => 81 | 222 => 85 | 228 => 88 | 229 => 89 | n => n, fun | n => n⟩
theorem Try.lays189 : Go.Proofs.Lays.n189 Try.prog Try.lays189_ren := {
 mixed := by kernel_rfl
 f125 := Try.func45.trans (congrArg some (by kernel_rfl))
 f128 := Try.func56.trans (congrArg some (by kernel_rfl))
 f129 := Try.func57.trans (congrArg some (by kernel_rfl))
 f189 := Try.func42.trans (congrArg some (by kernel_rfl))
 f215 := Try.func63.trans (congrArg some (by kernel_rfl))
 f216 := Try.func53.trans (congrArg some (by kernel_rfl))
 f257 := Try.func44.trans (congrArg some (by kernel_rfl))
 f294 := Try.func47.trans (congrArg some (by kernel_rfl))
 f295 := Try.func48.trans (congrArg some (by kernel_rfl))
 f296 := Try.func49.trans (congrArg some (by kernel_rfl))
 f297 := Try.func50.trans (congrArg some (by kernel_rfl))
 f298 := Try.func51.trans (congrArg some (by kernel_rfl))
 f299 := Try.func52.trans (congrArg some (by kernel_rfl))
 f300 := Try.func54.trans (congrArg some (by kernel_rfl))
 f301 := Try.func55.trans (congrArg some (by kernel_rfl))
 f328 := Try.func58.trans (congrArg some (by kernel_rfl))
 f329 := Try.func59.trans (congrArg some (by kernel_rfl))
 f330 := Try.func60.trans (congrArg some (by kernel_rfl))
 f331 := Try.func61.trans (congrArg some (by kernel_rfl))
 f332 := Try.func62.trans (congrArg some (by kernel_rfl))
 f343 := Try.func64.trans (congrArg some (by kernel_rfl))
 t0 := Try.underlying0
 a0 := Try.isAgg0
 z0 := Try.sizeOf0
 v0 := Try.zeroValue0
 t3 := Try.underlying3
 a3 := Try.isAgg3
 z3 := Try.sizeOf3
 v3 := Try.zeroValue3
 t4 := Try.underlying4
 a4 := Try.isAgg4
 z4 := Try.sizeOf4
 v4 := Try.zeroValue4
 t5 := Try.underlying5
 a5 := Try.isAgg5
 z5 := Try.sizeOf5
 v5 := Try.zeroValue5
 t9 := Try.underlying9
 a9 := Try.isAgg9
 z9 := Try.sizeOf9
 v9 := Try.zeroValue9
 t28 := Try.underlying58
 a28 := Try.isAgg58
 z28 := Try.sizeOf58
 v28 := Try.zeroValue58
 t46 := Try.underlying66
 a46 := Try.isAgg66
 z46 := Try.sizeOf66
 v46 := Try.zeroValue66
 t51 := Try.underlying78
 a51 := Try.isAgg78
 z51 := Try.sizeOf78
 v51 := Try.zeroValue78
 t53 := Try.underlying80
 a53 := Try.isAgg80
 z53 := Try.sizeOf80
 v53 := Try.zeroValue80
 t131 := Try.underlying75
 a131 := Try.isAgg75
 z131 := Try.sizeOf75
 v131 := Try.zeroValue75
 t182 := Try.underlying69
 a182 := Try.isAgg69
 z182 := Try.sizeOf69
 v182 := Try.zeroValue69
 t183 := Try.underlying70
 a183 := Try.isAgg70
 z183 := Try.sizeOf70
 v183 := Try.zeroValue70
 t218 := Try.underlying81
 a218 := Try.isAgg81
 z218 := Try.sizeOf81
 v218 := Try.zeroValue81
 t222 := Try.underlying85
 a222 := Try.isAgg85
 z222 := Try.sizeOf85
 v222 := Try.zeroValue85
 t228 := Try.underlying88
 a228 := Try.isAgg88
 z228 := Try.sizeOf88
 v228 := Try.zeroValue88
 t229 := Try.underlying89
 a229 := Try.isAgg89
 z229 := Try.sizeOf89
 v229 := Try.zeroValue89 }
open Go.Sort Go.RowKit in
theorem Try.slices_Sort_int (blk off cap : Nat) (zs : List Int) (w : World) (hH : Holds (Value.int .i64) w blk off zs.toArray) (hblk : blk < w.heap.size) (hsz : zs.length < 4611686018427387904) :
  Calls Try.prog 42 #[.slice (some ⟨blk, off, none⟩) zs.length cap] w fun e w' =>
   e = .returned (.tuple #[]) ∧ ∃ n os, w' = grow (putRow (Value.int .i64) (Sort.ahead w n) blk off (zs.mergeSort fun x y => decide (x ≤ y)).toArray) os := Any.slices_Sort_int Try.lays189 blk off cap zs w hH hblk hsz
open Go.RowKit Go.Sort in
theorem Try.slices_Sort_int_none (p : Option Addr) (cap : Nat) (w : World) :
  Calls Try.prog 42 #[.slice p 0 cap] w fun e w' => e = .returned (.tuple #[]) ∧ w' = w := Any.slices_Sort_int_none Try.lays189 p cap w
end Go.Proofs
namespace Go.Proofs.YtaoicdkjjjlmeaaXI
open Go.RowKit Go.Sort Go.Shelf Go.Lib Go.Proofs.YtaoicdkjjjlmeaaW.PrintWords Go.Proofs.YtaoicdkjjjlmeaaW.PrintLast Go.Proofs.YtaoicdkjjjlmeaaW.PrintMore
theorem nums_of_reps {w : World} {base : Nat} {ok : Nat → Prop} {k : IntKind} : ∀ {l : List Int} {cs : List Value}, Reps ((Kd.int k).M w base ok) 1 l cs → cs = nums k l := by
 intro l cs h
 apply List.ext_getElem?
 intro i
 rcases Nat.lt_or_ge i l.length with hi | hi
 ·have h2 : (cs.drop (i * 1)).take 1 = [Value.int k l[i]] := h.2 i _ (List.getElem?_eq_getElem hi)
  rw [Nat.mul_one] at h2
  have h3 : ((cs.drop i).take 1)[0]? = some (Value.int k l[i]) := by rw [h2]; rfl
  rw [List.getElem?_take_of_lt (by omega), List.getElem?_drop, Nat.add_zero] at h3
  rw [h3]
  simp [nums, List.getElem?_eq_getElem hi]
 ·have hl : cs.length = l.length := by have := h.1; omega
  rw [List.getElem?_eq_none (by omega), List.getElem?_eq_none (by simp [nums]; omega)]
theorem reps_of_nums (w : World) (base : Nat) (ok : Nat → Prop) (k : IntKind) (l : List Int) : Reps ((Kd.int k).M w base ok) 1 l (nums k l) := by
 refine ⟨by simp [nums], fun j p hj => ?_⟩
 show (List.drop (j * 1) (nums k l)).take 1 = [Value.int k p]
 have hl := (List.getElem?_eq_some_iff.1 hj).1
 rw [Nat.mul_one]
 apply List.ext_getElem?
 intro i
 rcases Nat.eq_zero_or_pos i with rfl | hi
 ·rw [List.getElem?_take_of_lt (by omega), List.getElem?_drop, Nat.add_zero]
  simp [nums, hj]
 ·rw [List.getElem?_eq_none (by simp; omega), List.getElem?_eq_none (by simp; omega)]
theorem R_int_mk {k : IntKind} {w : World} {base g cap e : Nat} {ok : Nat → Prop} {l : List Int} {cur : Array Value} (hg : ok g) (hb : base ≤ g) (hh : w.heap[g]? = some (.cells cur e (0, 0))) (h1 : l.length ≤ cap) (h2 : cap ≤ maxLen) (h3 : cur.size = cap * 1) (h4 : cur.toList.take (l.length * 1) = nums k l) :
  Kd.R (Kd.int k) e w base ok (.slice (some ⟨g, 0, none⟩) l.length cap) l := by
 refine ⟨fun q hq => ?_, nums k l, ⟨by show (nums k l).length = l.length * 1; simp [nums], .inr ⟨g, cap, cur, rfl, hb, hh, h1, h2, h3, h4⟩⟩, reps_of_nums _ _ _ _ _⟩
 have : g = q := by simpa [Value.ownBlock] using hq
 subst this
 exact hg
theorem heap_put {α : Type} [Inhabited α] (enc : α → Value) (w : World) (g off m : Nat) (d : Array α) (os : Array Obj) {i : Nat} (hi : i < w.heap.size) :
  (grow (putRow enc (Go.Sort.ahead w m) g off d) os).heap[i]? = if g = i then (w.heap[i]?).map (onCells (putCells enc off d)) else w.heap[i]? := by
 rw [heap_grow_old _ _ (by simpa using hi)]
 unfold putRow mapBlock
 simp only [Array.getElem?_modify, heap_ahead]
theorem size_put {α : Type} [Inhabited α] (enc : α → Value) (w : World) (g off m : Nat) (d : Array α) (os : Array Obj) : (grow (putRow enc (Go.Sort.ahead w m) g off d) os).heap.size = w.heap.size + os.size := by simp
theorem SortI {P_ : Nat → Prop} {u : Value} {l0 : List Int} {w0 w : World} (hB : Below w0.heap.size w0 w) (ho0 : Kd.R (Kd.int .i64) 3 w w0.heap.size P_ u l0) (hsz : l0.length < 4611686018427387904) :
  Calls Try.prog 42 #[u] w fun e w' => e = .returned (.tuple #[]) ∧ Kd.R (Kd.int .i64) 3 w' w0.heap.size (fun k_ => (P_ k_ ∨ w.heap.size ≤ k_)) u (l0.mergeSort (fun x y => decide (x ≤ y))) ∧ Below w0.heap.size w0 w' ∧ Kept w w' (fun k_ => P_ k_) := by
 have hz : ∀ p cap, u = .slice p 0 cap → l0 = [] → Calls Try.prog 42 #[u] w fun e w' => e = .returned (.tuple #[]) ∧ Kd.R (Kd.int .i64) 3 w' w0.heap.size (fun k_ => (P_ k_ ∨ w.heap.size ≤ k_)) u (l0.mergeSort (fun x y => decide (x ≤ y))) ∧ Below w0.heap.size w0 w' ∧ Kept w w' (fun k_ => P_ k_) := by
  intro p cap hu hl
  subst hu
  refine Calls.mono (Try.slices_Sort_int_none p cap w) ?_
  rintro e w' ⟨he, rfl⟩
  subst hl
  refine ⟨he, ?_, hB, Kept.refl _ _⟩
  rw [List.mergeSort_nil]
  exact Kd.R_mono ho0 (fun _ hk => .inl hk)
 obtain ⟨hok, inner, ⟨hlen, hcase⟩, hreps⟩ := ho0
 rcases hcase with ⟨hu, hn⟩ | ⟨gb, cap, cur, hu, hb, hh, h1, h2, h3, h4⟩
 ·exact hz none 0 hu (List.length_eq_zero_iff.1 hn)
 ·replace h3 : cur.size = cap * 1 := h3
  replace h4 : cur.toList.take (l0.length * 1) = inner := h4
  have hin : inner = nums .i64 l0 := nums_of_reps hreps
  have hcur : ∀ j, j < l0.length → cur[j]? = some (Value.int .i64 (l0.getD j 0)) := by
   intro j hj
   have e1 : (cur.toList.take (l0.length * 1))[j]? = (nums .i64 l0)[j]? := by rw [h4, hin]
   rw [List.getElem?_take_of_lt (by omega), Array.getElem?_toList] at e1
   rw [e1]
   simp [nums, List.getElem?_eq_getElem hj]
  have hH : Holds (Value.int .i64) w gb 0 l0.toArray := by
   intro j hj
   have hj' : j < l0.length := by simpa using hj
   refine ⟨?_, ?_⟩
   ·simp only [World.cell?, hh, Nat.zero_add]
    rw [hcur j hj']
    congr 2
    rw [getElem!_pos l0.toArray j hj, List.getD_eq_getElem?_getD, List.getElem?_eq_getElem hj']
    simp
   ·simp only [World.frozen?, hh]
    simp
  have hblk : gb < w.heap.size := (Array.getElem?_eq_some_iff.1 hh).1
  have hPg : P_ gb := hok gb (by rw [hu]; simp [Value.ownBlock])
  have hcall := Try.slices_Sort_int gb 0 cap l0 w hH hblk hsz
  rw [hu]
  refine Calls.mono hcall ?_
  rintro e w' ⟨he, n, os, rfl⟩
  have hkept : Kept w (grow (putRow (Value.int .i64) (Go.Sort.ahead w n) gb 0 (l0.mergeSort fun x y => decide (x ≤ y)).toArray) os) (fun k_ => P_ k_) := by
   refine ⟨by rw [size_put]; omega, fun i hi hn => ?_⟩
   rw [heap_put _ _ _ _ _ _ _ hi, if_neg (by rintro rfl; exact hn hPg)]
  have hlen2 : (l0.mergeSort fun x y => decide (x ≤ y)).length = l0.length := List.length_mergeSort l0
  have hnew : (grow (putRow (Value.int .i64) (Go.Sort.ahead w n) gb 0 (l0.mergeSort fun x y => decide (x ≤ y)).toArray) os).heap[gb]? = some (.cells (putCells (Value.int .i64) 0 (l0.mergeSort fun x y => decide (x ≤ y)).toArray cur) 3 (0, 0)) := by
   rw [heap_put _ _ _ _ _ _ _ hblk, if_pos rfl, hh]
   rfl
  refine ⟨he, ?_, ?_, hkept⟩
  ·rw [← hlen2]
   refine R_int_mk (.inl hPg) hb hnew (by rw [hlen2]; exact h1) h2 (by simp only [putCells, Array.size_mapIdx]; exact h3) ?_
   apply List.ext_getElem?
   intro i
   rcases Nat.lt_or_ge i l0.length with hi | hi
   ·have hci : i < cur.size := by omega
    have hi2 : i < (l0.mergeSort fun x y => decide (x ≤ y)).length := by omega
    rw [List.getElem?_take_of_lt (by omega), Array.getElem?_toList]
    simp only [putCells, Array.getElem?_mapIdx, Array.getElem?_eq_getElem hci, Option.map_some, List.size_toArray]
    rw [if_pos ⟨by omega, by omega⟩, Nat.sub_zero, getElem!_pos _ i (by simpa using hi2)]
    simp only [nums, List.getElem?_map, List.getElem?_eq_getElem hi2, Option.map_some]
    simp
   ·rw [List.getElem?_eq_none (by simp; omega), List.getElem?_eq_none (by simp [nums]; omega)]
  ·refine ⟨hB.os, hB.tape, hB.output, by rw [size_put]; have := hB.size; omega, fun k hk => ?_⟩
   have hkw : k < w.heap.size := Nat.lt_of_lt_of_le hk hB.size
   rw [heap_put _ _ _ _ _ _ _ hkw, if_neg (by omega)]
   exact hB.block k hk
end Go.Proofs.YtaoicdkjjjlmeaaXI
namespace Go.Proofs.Ytaoicdkjjjlmeaa.PD34
open Go.RowKit Go.Proofs.YtaoicdkjjjlmeaaW.PrintWords Go.Proofs.YtaoicdkjjjlmeaaW.PrintLast Go.Proofs.YtaoicdkjjjlmeaaW.PrintMore
def slices_Sort_int_int.f (l0 : List Int) : Option (List Int) := if l0.length < 4611686018427387904 then some (l0.mergeSort fun x y => decide (x ≤ y)) else none
theorem slices_Sort_int_int.calls (P0_ : Nat → Prop) (u9000_ : Value) (l0 : List Int) (r : List Int) (w0 w : World) (hB : Below w0.heap.size w0 w) (ho0 : Kd.R (Kd.int .i64) 3 w w0.heap.size P0_ u9000_ l0)
  (h : slices_Sort_int_int.f l0 = some r) :
  Calls Try.prog 42 #[u9000_] w fun e w' => e = .returned (.tuple #[]) ∧ Kd.R (Kd.int .i64) 3 w' w0.heap.size (fun k_ => (P0_ k_ ∨ w.heap.size ≤ k_)) u9000_ r ∧ Below w0.heap.size w0 w' ∧ Kept w w' (fun k_ => P0_ k_) := by
 unfold slices_Sort_int_int.f at h
 split at h
 ·rename_i hs
  rw [Option.some.injEq] at h
  subst h
  exact Go.Proofs.YtaoicdkjjjlmeaaXI.SortI hB ho0 hs
 ·exact absurd h (by simp)
end Go.Proofs.Ytaoicdkjjjlmeaa.PD34
