/- Proved: the law CanonsizeKeeps returns true for every node whose reading is of bulk at most 1048576, and the node reads afterwards as it did before. Condition: the package table listsize.bits holds what its initialiser lays. Part 4 of 4. -/
import Derived.Test.YtomjnaakkfimhaaDoorKk0
import Derived.Test.YtomjnaakkfimhaaDoorKk1
import Derived.Test.YtomjnaakkfimhaaDoorKk2
import Derived.Deep.Slices
import Derived.ChangeArms
import Derived.ChangeSlices
import Derived.Test.YtomjnaakkfimhaaDoorRows
import Derived.Lib.LaidTab
import Derived.Deep.DeepHandedRow
import Derived.Test.YtomjnaakkfimhaaDoorCards
import Derived.Test.YtomjnaakkfimhaaDoorTie
import Derived.WalkKit
import Derived.ProofKit
import Derived.OpenShut
import Derived.ChangeOld
import Derived.Carry
namespace Go.Proofs.YtomjnaakkfimhaaDoor.D
open Go.RowKit Go.Proofs.YtomjnaakkfimhaaDoorW.PrintWords Go.Proofs.YtomjnaakkfimhaaDoorW.PrintLast Go.Proofs.YtomjnaakkfimhaaDoorW.PrintMore
attribute [local go_sem] max2_int min2_int max_two min_two max_three min_three max_four min_four
set_option linter.unusedVariables false
set_option linter.unusedSimpArgs false

/-! ### capnplaw13_CanonsizeKeeps: function 4 -/
def capnplaw13_CanonsizeKeeps.j0 : Nat → Bool → Int → Int → Int → List Int → List (S30) → Option (Bool)
  | 0, _, _, _, _, _, _ => none
  | k + 1, x13, x102000, x102001, x102002, x102003, x102004 => if x13 = true then ((capnplaw13_awake.f).bind fun t104 => (some t104)) else ((capnpref10_Copy.f k x102000 x102001 x102002 x102003 x102004).bind fun bt105 => ((canonsize_Object.f k bt105.1 bt105.2.1 bt105.2.2.1 bt105.2.2.2.1 bt105.2.2.2.2).bind fun t115 => ((canonsize_Node.f k bt105.1 bt105.2.1 bt105.2.2.1 bt105.2.2.2.1 bt105.2.2.2.2).bind fun t116 => ((canonsize_Total.f k bt105.1 bt105.2.1 bt105.2.2.1 bt105.2.2.2.1 bt105.2.2.2.2).bind fun t117 => ((capnpref10_Equal.f k bt105.1 bt105.2.1 bt105.2.2.1 bt105.2.2.2.1 bt105.2.2.2.2 x102000 x102001 x102002 x102003 x102004).bind fun t118 => (if t118 = true then (if t115 ≥ 0 then (if t115 ≤ t116 then (if t117 = (wrap64 (t116 + 1)) then ((canonsize_Node.f k x102000 x102001 x102002 x102003 x102004).bind fun t119 => (some (t119 == t116))) else (some false)) else (some false)) else (some false)) else (some false)))))))
def capnplaw13_CanonsizeKeeps.f (k : Nat) (a0_0 : Int) (a0_1 : Int) (a0_2 : Int) (l0_3 : List Int) (l0_4 : List (S30)) : Option (Bool) := (capnplaw13_awake.f).bind fun t102 => (if t102 = true then ((capnpref13_Right.f k a0_0 a0_1 a0_2 l0_3 l0_4).bind fun t103 => (capnplaw13_CanonsizeKeeps.j0 k (!t103) a0_0 a0_1 a0_2 l0_3 l0_4)) else (capnplaw13_CanonsizeKeeps.j0 k true a0_0 a0_1 a0_2 l0_3 l0_4))
theorem capnplaw13_CanonsizeKeeps.mono_l : ∀ k, (∀ y0 y1 y2 y3 y4 y5, LeO (capnplaw13_CanonsizeKeeps.j0 k y0 y1 y2 y3 y4 y5) (capnplaw13_CanonsizeKeeps.j0 (k + 1) y0 y1 y2 y3 y4 y5))
  | 0 => fun _ _ _ _ _ _ r h => by simp [capnplaw13_CanonsizeKeeps.j0] at h
  | k + 1 => by
    have ih0 := capnplaw13_CanonsizeKeeps.mono_l k
    · intro y0 y1 y2 y3 y4 y5
      unfold capnplaw13_CanonsizeKeeps.j0
      repeat' first
      | (with_reducible exact ih0 _ _ _ _ _ _)
      | (with_reducible exact canonsize_Node.mono _ _ _ _ _ _)
      | (with_reducible exact canonsize_Object.mono _ _ _ _ _ _)
      | (with_reducible exact canonsize_Total.mono _ _ _ _ _ _)
      | (with_reducible exact capnpref10_Copy.mono _ _ _ _ _ _)
      | (with_reducible exact capnpref10_Equal.mono _ _ _ _ _ _ _ _ _ _ _)
      | (with_reducible exact capnpref13_Right.mono _ _ _ _ _ _)
      | (with_reducible exact LeO.refl _)
      | (with_reducible exact LeO.none _)
      | (with_reducible refine LeO.ite ?_ ?_)
      | (with_reducible refine LeO.bind ?_ (fun _ => ?_))
      | exact ih0 _ _ _ _ _ _
      | exact canonsize_Node.mono _ _ _ _ _ _
      | exact canonsize_Object.mono _ _ _ _ _ _
      | exact canonsize_Total.mono _ _ _ _ _ _
      | exact capnpref10_Copy.mono _ _ _ _ _ _
      | exact capnpref10_Equal.mono _ _ _ _ _ _ _ _ _ _ _
      | exact capnpref13_Right.mono _ _ _ _ _ _
      | exact LeO.none _
      | refine LeO.ite ?_ ?_
      | refine LeO.bind ?_ (fun _ => ?_)
theorem capnplaw13_CanonsizeKeeps.mono : ∀ a0 a1 a2 a3 a4 k, LeO (capnplaw13_CanonsizeKeeps.f k a0 a1 a2 a3 a4) (capnplaw13_CanonsizeKeeps.f (k + 1) a0 a1 a2 a3 a4) := by
  intro a0 a1 a2 a3 a4 k
  have ih0 := capnplaw13_CanonsizeKeeps.mono_l k
  unfold capnplaw13_CanonsizeKeeps.f
  repeat' first
      | (with_reducible exact ih0 _ _ _ _ _ _)
      | (with_reducible exact canonsize_Node.mono _ _ _ _ _ _)
      | (with_reducible exact canonsize_Object.mono _ _ _ _ _ _)
      | (with_reducible exact canonsize_Total.mono _ _ _ _ _ _)
      | (with_reducible exact capnpref10_Copy.mono _ _ _ _ _ _)
      | (with_reducible exact capnpref10_Equal.mono _ _ _ _ _ _ _ _ _ _ _)
      | (with_reducible exact capnpref13_Right.mono _ _ _ _ _ _)
      | (with_reducible exact LeO.refl _)
      | (with_reducible exact LeO.none _)
      | (with_reducible refine LeO.ite ?_ ?_)
      | (with_reducible refine LeO.bind ?_ (fun _ => ?_))
      | exact ih0 _ _ _ _ _ _
      | exact canonsize_Node.mono _ _ _ _ _ _
      | exact canonsize_Object.mono _ _ _ _ _ _
      | exact canonsize_Total.mono _ _ _ _ _ _
      | exact capnpref10_Copy.mono _ _ _ _ _ _
      | exact capnpref10_Equal.mono _ _ _ _ _ _ _ _ _ _ _
      | exact capnpref13_Right.mono _ _ _ _ _ _
      | exact LeO.none _
      | refine LeO.ite ?_ ?_
      | refine LeO.bind ?_ (fun _ => ?_)
set_option maxHeartbeats 8000000 in
set_option maxRecDepth 100000 in
theorem capnplaw13_CanonsizeKeeps.calls (k : Nat) (a0_0 : Int) (a0_1 : Int) (a0_2 : Int) (A0_3 : Option Addr) (c0_3 : Nat) (l0_3 : List Int) (A0_4 : Option Addr) (c0_4 : Nat) (l0_4 : List (S30)) (r : Bool) (w : World) (hGLB : GLB w) (hr0_3 : Kd.C (Kd.int .u8) w A0_3 l0_3.length l0_3) (hc0_3 : l0_3.length ≤ c0_3) (hr0_4 : Kd.C k30 w A0_4 l0_4.length l0_4) (hc0_4 : l0_4.length ≤ c0_4) (h : capnplaw13_CanonsizeKeeps.f k a0_0 a0_1 a0_2 l0_3 l0_4 = some r) :
    Calls Tryd.prog 4 #[.agg #[.int .i64 a0_0, .int .i64 a0_1, .int .i64 a0_2, .slice A0_3 l0_3.length c0_3, .slice A0_4 l0_4.length c0_4]] w fun e w' => e = .returned (.bool r) ∧ Below w.heap.size w w' := by
  have hu30 := Tryd.underlying30
  have HR0_3 := Aside0.mk hr0_3
  have HC0_3 := Aside0.mk hc0_3
  clear hr0_3 hc0_3
  have HR0_4 := Aside0.mk hr0_4
  have HC0_4 := Aside0.mk hc0_4
  clear hr0_4 hc0_4
  have HGLB := Aside0.mk hGLB
  clear hGLB
  have HB := Aside0.mk (Below.refl w.heap.size w)
  have H : ((capnplaw13_awake.f).bind fun t102 => (if t102 = true then ((capnpref13_Right.f k a0_0 a0_1 a0_2 l0_3 l0_4).bind fun t103 => (capnplaw13_CanonsizeKeeps.j0 k (!t103) a0_0 a0_1 a0_2 l0_3 l0_4)) else (capnplaw13_CanonsizeKeeps.j0 k true a0_0 a0_1 a0_2 l0_3 l0_4))) = some r := h
  clear h
  have HC2 := Aside0.mk H
  clear H
  go_enter Tryd.func4, Tryd.ntmps4
  go_upto_region 1 with (first | ((with_reducible refine gate_dst (N := 1) rfl ?_); refine box_event ?hg (N := 1) ?hd (cs := #[.int .i64 a0_0, .int .i64 a0_1, .int .i64 a0_2, .slice A0_3 l0_3.length c0_3, .slice A0_4 l0_4.length c0_4]) (t := 30) ?hr ?_; (case hd => rfl); (case hg => rfl); (case hr => first | (go_simp; done) | (go_simp; rfl)); intro gb101 hg w3 hbox hb; have n0_ := Aside0.mk (below_step (by repeat (first | (with_reducible first | exact HB.out | apply below_alloc | apply pw_below_drewN | apply below_drew1) | exact HB.out)) hb); have n1_ := Aside0.mk (hbox); have n2_ := Aside0.mk ((by rw [hg]; exact (below_size (by repeat (first | (with_reducible first | exact HB.out | apply below_alloc | apply pw_below_drewN | apply below_drew1) | exact HB.out))) : w.heap.size ≤ gb101)); have n3_ := Aside0.mk ((by rw [hg]; exact (below_size (by repeat (first | (with_reducible first | exact HB.out | apply below_alloc | apply pw_below_drewN | apply below_drew1) | exact HB.out))) : w.heap.size ≤ gb101)); clear HB; have HB := n0_; have BK101 := n1_; have GW101 := n2_; have GE101 := n3_; clear n0_ n1_ n2_ n3_; clear hb hbox hg))
  (try simp only [Act.put, List.setIfInBounds_toArray, List.set_cons_zero, List.set_cons_succ])
  go_cut [13] (fun v13 wc => ∃ (kq : Nat) (x13_1 : Bool), v13 = .bool x13_1 ∧ Aside0 (capnplaw13_CanonsizeKeeps.j0 kq x13_1 a0_0 a0_1 a0_2 l0_3 l0_4 = some r) ∧ Aside0 (kq ≤ k) ∧ Aside0 (wc.heap[gb101]? = some (.cells #[.int .i64 a0_0, .int .i64 a0_1, .int .i64 a0_2, (.slice A0_3 l0_3.length c0_3), (.slice A0_4 l0_4.length c0_4)] 30 (0, 0))) ∧ Aside0 (Below w.heap.size w wc))
  case first =>
    have H := HC2.out
    clear HC2
    replace H := Option.bind_eq_some_iff.mp H
    obtain ⟨t102, A40, H⟩ := H
    replace H : (if t102 = true then ((capnpref13_Right.f k a0_0 a0_1 a0_2 l0_3 l0_4).bind fun t103 => (capnplaw13_CanonsizeKeeps.j0 k (!t103) a0_0 a0_1 a0_2 l0_3 l0_4)) else (capnplaw13_CanonsizeKeeps.j0 k true a0_0 a0_1 a0_2 l0_3 l0_4)) = some r := H
    have A4 := Aside0.mk A40
    clear A40
    by_cases c5 : t102 = true
    · subst c5
      have H1 : ((capnpref13_Right.f k a0_0 a0_1 a0_2 l0_3 l0_4).bind fun t103 => (capnplaw13_CanonsizeKeeps.j0 k (!t103) a0_0 a0_1 a0_2 l0_3 l0_4)) = some r := by rw [if_pos rfl] at H; exact H
      clear H
      have H := H1
      clear H1
      replace H := Option.bind_eq_some_iff.mp H
      obtain ⟨t103, A60, H⟩ := H
      replace H : (capnplaw13_CanonsizeKeeps.j0 k (!t103) a0_0 a0_1 a0_2 l0_3 l0_4) = some r := H
      have A6 := Aside0.mk A60
      clear A60
      have H' := Aside0.mk H
      clear H
      go_wp2_with (first | ((with_reducible refine gate_callee (f := 16) rfl ?_); refine goesL_ (some 7) rfl rfl Tryd.func16 (by kernel_rfl) rfl #[] rfl (by (try simp only [List.map_toArray, List.map_cons, List.map_nil]); first | done | rfl | (simp only [List.length_drop, List.length_take]; rfl)) ?_; (with_reducible refine (capnplaw13_awake.calls  true _ ?side1 A4.out).mono ?_); (case side1 => exact GLB.below HGLB.out (by repeat (first | (with_reducible first | exact HB.out | apply below_alloc | apply pw_below_drewN | apply below_drew1 | refine below_set ?_ GE101.out) | exact HB.out))); rintro e w7 ⟨rfl, hb⟩; refine ⟨_, rfl, ?_⟩; have n0_ := Aside0.mk (blk_below (g := gb101) (o := .cells #[.int .i64 a0_0, .int .i64 a0_1, .int .i64 a0_2, .slice A0_3 l0_3.length c0_3, .slice A0_4 l0_4.length c0_4] 30 (0, 0)) (by (with_reducible repeat (first | refine blk_drewN ?_ _ | refine blk_drew ?_ | refine blk_alloc ?_ _)); exact BK101.out) hb); have n1_ := Aside0.mk (below_step (by repeat (first | (with_reducible first | exact HB.out | apply below_alloc | apply pw_below_drewN | apply below_drew1 | refine below_set ?_ GE101.out) | exact HB.out)) hb); clear BK101; clear HB; have BK101 := n0_; have HB := n1_; clear n0_ n1_; (try clear hb); (try clear hb2); (try clear hk); (try clear hi); have hcz8_0 : w7.cell? ⟨gb101, 0, none⟩ = some (.int .i64 a0_0) := (blk_cell BK101.out 0).trans rfl; have hcz8_1 : w7.cell? ⟨gb101, 1, none⟩ = some (.int .i64 a0_1) := (blk_cell BK101.out 1).trans rfl; have hcz8_2 : w7.cell? ⟨gb101, 2, none⟩ = some (.int .i64 a0_2) := (blk_cell BK101.out 2).trans rfl; have hcz8_3 : w7.cell? ⟨gb101, 3, none⟩ = some (.slice A0_3 l0_3.length c0_3) := (blk_cell BK101.out 3).trans rfl; have hcz8_4 : w7.cell? ⟨gb101, 4, none⟩ = some (.slice A0_4 l0_4.length c0_4) := (blk_cell BK101.out 4).trans rfl; have hfz8_0 := blk_frozen BK101.out 0; have hfz8_1 := blk_frozen BK101.out 1; have hfz8_2 := blk_frozen BK101.out 2; have hfz8_3 := blk_frozen BK101.out 3; have hfz8_4 := blk_frozen BK101.out 4) | (go_at_call 20; (with_reducible refine (capnpref13_Right.calls k a0_0 a0_1 a0_2 _ _ l0_3 _ _ l0_4 t103 _ ?side1 ?side2 ?side3 ?side4 A6.out).mono ?_); (case side1 => repeat (first | exact (Kd.C_below HR0_3.out HB.out) | (with_reducible refine Kd.C_alloc ?_ _) | (with_reducible refine Kd.C_drewN ?_ _) | (with_reducible refine Kd.C_drew ?_))); (case side2 => exact HC0_3.out); (case side3 => repeat (first | exact (Kd.C_below HR0_4.out HB.out) | (with_reducible refine Kd.C_alloc ?_ _) | (with_reducible refine Kd.C_drewN ?_ _) | (with_reducible refine Kd.C_drew ?_))); (case side4 => exact HC0_4.out); rintro e w9 ⟨rfl, hb⟩; have n0_ := Aside0.mk (blk_below (g := gb101) (o := .cells #[.int .i64 a0_0, .int .i64 a0_1, .int .i64 a0_2, .slice A0_3 l0_3.length c0_3, .slice A0_4 l0_4.length c0_4] 30 (0, 0)) (by (with_reducible repeat (first | refine blk_drewN ?_ _ | refine blk_drew ?_ | refine blk_alloc ?_ _)); exact BK101.out) hb); have n1_ := Aside0.mk (below_step (by repeat (first | (with_reducible first | exact HB.out | apply below_alloc | apply pw_below_drewN | apply below_drew1 | refine below_set ?_ GE101.out) | exact HB.out)) hb); clear BK101; clear HB; have BK101 := n0_; have HB := n1_; clear n0_ n1_; (try clear hb); (try clear hb2); (try clear hk); (try clear hi)))
      go_meet
      case rel => exact ⟨_, (!t103), (by first | rfl | (simp; done) | (simp [*]; done)), H', ⟨by first | omega | exact Nat.le_refl _⟩, ⟨by (with_reducible repeat (first | refine blk_drewN ?_ _ | refine blk_drew ?_ | refine blk_alloc ?_ _)); exact BK101.out⟩, ⟨by repeat (first | (with_reducible first | exact HB.out | apply below_alloc | apply pw_below_drewN | apply below_drew1 | refine below_set ?_ GE101.out) | exact HB.out)⟩⟩
    · replace c5 := Bool.eq_false_iff.mpr c5
      subst c5
      have H1 : (capnplaw13_CanonsizeKeeps.j0 k true a0_0 a0_1 a0_2 l0_3 l0_4) = some r := by rw [if_neg (show ¬ (false = true) by decide)] at H; exact H
      clear H
      have H := H1
      clear H1
      have H' := Aside0.mk H
      clear H
      go_wp2_with (first | ((with_reducible refine gate_callee (f := 16) rfl ?_); refine goesL_ (some 7) rfl rfl Tryd.func16 (by kernel_rfl) rfl #[] rfl (by (try simp only [List.map_toArray, List.map_cons, List.map_nil]); first | done | rfl | (simp only [List.length_drop, List.length_take]; rfl)) ?_; (with_reducible refine (capnplaw13_awake.calls  false _ ?side1 A4.out).mono ?_); (case side1 => exact GLB.below HGLB.out (by repeat (first | (with_reducible first | exact HB.out | apply below_alloc | apply pw_below_drewN | apply below_drew1 | refine below_set ?_ GE101.out) | exact HB.out))); rintro e w10 ⟨rfl, hb⟩; refine ⟨_, rfl, ?_⟩; have n0_ := Aside0.mk (blk_below (g := gb101) (o := .cells #[.int .i64 a0_0, .int .i64 a0_1, .int .i64 a0_2, .slice A0_3 l0_3.length c0_3, .slice A0_4 l0_4.length c0_4] 30 (0, 0)) (by (with_reducible repeat (first | refine blk_drewN ?_ _ | refine blk_drew ?_ | refine blk_alloc ?_ _)); exact BK101.out) hb); have n1_ := Aside0.mk (below_step (by repeat (first | (with_reducible first | exact HB.out | apply below_alloc | apply pw_below_drewN | apply below_drew1 | refine below_set ?_ GE101.out) | exact HB.out)) hb); clear BK101; clear HB; have BK101 := n0_; have HB := n1_; clear n0_ n1_; (try clear hb); (try clear hb2); (try clear hk); (try clear hi)))
      go_meet
      case rel => exact ⟨_, (true), (by first | rfl | (simp; done) | (simp [*]; done)), H', ⟨by first | omega | exact Nat.le_refl _⟩, ⟨by (with_reducible repeat (first | refine blk_drewN ?_ _ | refine blk_drew ?_ | refine blk_alloc ?_ _)); exact BK101.out⟩, ⟨by repeat (first | (with_reducible first | exact HB.out | apply below_alloc | apply pw_below_drewN | apply below_drew1 | refine below_set ?_ GE101.out) | exact HB.out)⟩⟩
  case rest =>
    clear HC2
    try clear c1
    try clear p2
    try clear c4
    try clear c5
    try clear hcz8_0
    try clear hcz8_1
    try clear hcz8_2
    try clear hcz8_3
    try clear hcz8_4
    try clear hfz8_0
    try clear hfz8_1
    try clear hfz8_2
    try clear hfz8_3
    try clear hfz8_4
    try clear BK101
    try clear HB
    obtain ⟨kq, x13_1, rfl, HA, HJ1, BK101, HB⟩ := hcut
    cases kq with
    | zero => exact absurd HA.out (by simp [capnplaw13_CanonsizeKeeps.j0])
    | succ kj1 =>
      have H := HA.out
      clear HA
      simp only [capnplaw13_CanonsizeKeeps.j0] at H
      by_cases c11 : x13_1 = true
      · subst c11
        have H1 : ((capnplaw13_awake.f).bind fun t104 => (some t104)) = some r := by rw [if_pos rfl] at H; exact H
        clear H
        have H := H1
        clear H1
        replace H := Option.bind_eq_some_iff.mp H
        obtain ⟨t104, A120, H⟩ := H
        replace H : (some t104) = some r := H
        have A12 := Aside0.mk A120
        clear A120
        obtain rfl := Option.some.inj H
        go_wp2_with (first | ((with_reducible refine gate_callee (f := 16) rfl ?_); refine goesL_ (some 14) rfl rfl Tryd.func16 (by kernel_rfl) rfl #[] rfl (by (try simp only [List.map_toArray, List.map_cons, List.map_nil]); first | done | rfl | (simp only [List.length_drop, List.length_take]; rfl)) ?_; (with_reducible refine (capnplaw13_awake.calls  t104 _ ?side1 A12.out).mono ?_); (case side1 => exact GLB.below HGLB.out (by repeat (first | (with_reducible first | exact HB.out | apply below_alloc | apply pw_below_drewN | apply below_drew1 | refine below_set ?_ GE101.out) | exact HB.out))); rintro e w13 ⟨rfl, hb⟩; refine ⟨_, rfl, ?_⟩; have n0_ := Aside0.mk (blk_below (g := gb101) (o := .cells #[.int .i64 a0_0, .int .i64 a0_1, .int .i64 a0_2, .slice A0_3 l0_3.length c0_3, .slice A0_4 l0_4.length c0_4] 30 (0, 0)) (by (with_reducible repeat (first | refine blk_drewN ?_ _ | refine blk_drew ?_ | refine blk_alloc ?_ _)); exact BK101.out) hb); have n1_ := Aside0.mk (below_step (by repeat (first | (with_reducible first | exact HB.out | apply below_alloc | apply pw_below_drewN | apply below_drew1 | refine below_set ?_ GE101.out) | exact HB.out)) hb); clear BK101; clear HB; have BK101 := n0_; have HB := n1_; clear n0_ n1_; (try clear hb); (try clear hb2); (try clear hk); (try clear hi)))
        go_ret
        exact ⟨by first | rfl | (simp [errW_none, errW_some] <;> rfl) | (simp [*, errW_none, errW_some] <;> rfl), by repeat (first | (with_reducible first | exact HB.out | apply below_alloc | apply pw_below_drewN | apply below_drew1 | refine below_set ?_ GE101.out) | exact HB.out)⟩
      · replace c11 := Bool.eq_false_iff.mpr c11
        subst c11
        have H1 : ((capnpref10_Copy.f kj1 a0_0 a0_1 a0_2 l0_3 l0_4).bind fun bt105 => ((canonsize_Object.f kj1 bt105.1 bt105.2.1 bt105.2.2.1 bt105.2.2.2.1 bt105.2.2.2.2).bind fun t115 => ((canonsize_Node.f kj1 bt105.1 bt105.2.1 bt105.2.2.1 bt105.2.2.2.1 bt105.2.2.2.2).bind fun t116 => ((canonsize_Total.f kj1 bt105.1 bt105.2.1 bt105.2.2.1 bt105.2.2.2.1 bt105.2.2.2.2).bind fun t117 => ((capnpref10_Equal.f kj1 bt105.1 bt105.2.1 bt105.2.2.1 bt105.2.2.2.1 bt105.2.2.2.2 a0_0 a0_1 a0_2 l0_3 l0_4).bind fun t118 => (if t118 = true then (if t115 ≥ 0 then (if t115 ≤ t116 then (if t117 = (wrap64 (t116 + 1)) then ((canonsize_Node.f kj1 a0_0 a0_1 a0_2 l0_3 l0_4).bind fun t119 => (some (t119 == t116))) else (some false)) else (some false)) else (some false)) else (some false))))))) = some r := by rw [if_neg (show ¬ (false = true) by decide)] at H; exact H
        clear H
        have H := H1
        clear H1
        replace H := Option.bind_eq_some_iff.mp H
        obtain ⟨⟨t105, t106, t107, t108, t111⟩, A140, H⟩ := H
        replace H : ((canonsize_Object.f kj1 t105 t106 t107 t108 t111).bind fun t115 => ((canonsize_Node.f kj1 t105 t106 t107 t108 t111).bind fun t116 => ((canonsize_Total.f kj1 t105 t106 t107 t108 t111).bind fun t117 => ((capnpref10_Equal.f kj1 t105 t106 t107 t108 t111 a0_0 a0_1 a0_2 l0_3 l0_4).bind fun t118 => (if t118 = true then (if t115 ≥ 0 then (if t115 ≤ t116 then (if t117 = (wrap64 (t116 + 1)) then ((canonsize_Node.f kj1 a0_0 a0_1 a0_2 l0_3 l0_4).bind fun t119 => (some (t119 == t116))) else (some false)) else (some false)) else (some false)) else (some false)))))) = some r := H
        have A14 := Aside0.mk A140
        clear A140
        replace H := Option.bind_eq_some_iff.mp H
        obtain ⟨t115, A150, H⟩ := H
        replace H : ((canonsize_Node.f kj1 t105 t106 t107 t108 t111).bind fun t116 => ((canonsize_Total.f kj1 t105 t106 t107 t108 t111).bind fun t117 => ((capnpref10_Equal.f kj1 t105 t106 t107 t108 t111 a0_0 a0_1 a0_2 l0_3 l0_4).bind fun t118 => (if t118 = true then (if t115 ≥ 0 then (if t115 ≤ t116 then (if t117 = (wrap64 (t116 + 1)) then ((canonsize_Node.f kj1 a0_0 a0_1 a0_2 l0_3 l0_4).bind fun t119 => (some (t119 == t116))) else (some false)) else (some false)) else (some false)) else (some false))))) = some r := H
        have A15 := Aside0.mk A150
        clear A150
        replace H := Option.bind_eq_some_iff.mp H
        obtain ⟨t116, A160, H⟩ := H
        replace H : ((canonsize_Total.f kj1 t105 t106 t107 t108 t111).bind fun t117 => ((capnpref10_Equal.f kj1 t105 t106 t107 t108 t111 a0_0 a0_1 a0_2 l0_3 l0_4).bind fun t118 => (if t118 = true then (if t115 ≥ 0 then (if t115 ≤ t116 then (if t117 = (wrap64 (t116 + 1)) then ((canonsize_Node.f kj1 a0_0 a0_1 a0_2 l0_3 l0_4).bind fun t119 => (some (t119 == t116))) else (some false)) else (some false)) else (some false)) else (some false)))) = some r := H
        have A16 := Aside0.mk A160
        clear A160
        replace H := Option.bind_eq_some_iff.mp H
        obtain ⟨t117, A170, H⟩ := H
        replace H : ((capnpref10_Equal.f kj1 t105 t106 t107 t108 t111 a0_0 a0_1 a0_2 l0_3 l0_4).bind fun t118 => (if t118 = true then (if t115 ≥ 0 then (if t115 ≤ t116 then (if t117 = (wrap64 (t116 + 1)) then ((canonsize_Node.f kj1 a0_0 a0_1 a0_2 l0_3 l0_4).bind fun t119 => (some (t119 == t116))) else (some false)) else (some false)) else (some false)) else (some false))) = some r := H
        have A17 := Aside0.mk A170
        clear A170
        replace H := Option.bind_eq_some_iff.mp H
        obtain ⟨t118, A180, H⟩ := H
        replace H : (if t118 = true then (if t115 ≥ 0 then (if t115 ≤ t116 then (if t117 = (wrap64 (t116 + 1)) then ((canonsize_Node.f kj1 a0_0 a0_1 a0_2 l0_3 l0_4).bind fun t119 => (some (t119 == t116))) else (some false)) else (some false)) else (some false)) else (some false)) = some r := H
        have A18 := Aside0.mk A180
        clear A180
        by_cases c19 : t118 = true
        · subst c19
          have H1 : (if t115 ≥ 0 then (if t115 ≤ t116 then (if t117 = (wrap64 (t116 + 1)) then ((canonsize_Node.f kj1 a0_0 a0_1 a0_2 l0_3 l0_4).bind fun t119 => (some (t119 == t116))) else (some false)) else (some false)) else (some false)) = some r := by rw [if_pos rfl] at H; exact H
          clear H
          have H := H1
          clear H1
          by_cases c20 : t115 ≥ 0
          · rw [if_pos c20] at H
            have c20b0 : decide (0 ≤ t115) = true := decide_eq_true c20
            clear c20
            by_cases c21 : t115 ≤ t116
            · rw [if_pos c21] at H
              have c21b0 : decide (t115 ≤ t116) = true := decide_eq_true c21
              clear c21
              by_cases c22 : t117 = (wrap64 (t116 + 1))
              · rw [if_pos c22] at H
                have c22b0 : (t117 == (wrap64 (t116 + 1))) = true := beq_iff_eq.mpr c22
                have c22b1 : (t117 != (wrap64 (t116 + 1))) = false := bne_eq_false_iff_eq.mpr c22
                clear c22
                replace H := Option.bind_eq_some_iff.mp H
                obtain ⟨t119, A230, H⟩ := H
                replace H : (some (t119 == t116)) = some r := H
                have A23 := Aside0.mk A230
                clear A230
                obtain rfl := Option.some.inj H
                have hcz24_0 : wc.cell? ⟨gb101, 0, none⟩ = some (.int .i64 a0_0) := (blk_cell BK101.out 0).trans rfl
                have hcz24_1 : wc.cell? ⟨gb101, 1, none⟩ = some (.int .i64 a0_1) := (blk_cell BK101.out 1).trans rfl
                have hcz24_2 : wc.cell? ⟨gb101, 2, none⟩ = some (.int .i64 a0_2) := (blk_cell BK101.out 2).trans rfl
                have hcz24_3 : wc.cell? ⟨gb101, 3, none⟩ = some (.slice A0_3 l0_3.length c0_3) := (blk_cell BK101.out 3).trans rfl
                have hcz24_4 : wc.cell? ⟨gb101, 4, none⟩ = some (.slice A0_4 l0_4.length c0_4) := (blk_cell BK101.out 4).trans rfl
                have hfz24_0 := blk_frozen BK101.out 0
                have hfz24_1 := blk_frozen BK101.out 1
                have hfz24_2 := blk_frozen BK101.out 2
                have hfz24_3 := blk_frozen BK101.out 3
                have hfz24_4 := blk_frozen BK101.out 4
                go_wp2_with (first | ((with_reducible refine gate_callee (f := 23) rfl ?_); refine goesL_ (some 16) rfl rfl Tryd.func23 (by kernel_rfl) rfl #[.agg #[.int .i64 a0_0, .int .i64 a0_1, .int .i64 a0_2, .slice A0_3 l0_3.length c0_3, .slice A0_4 l0_4.length c0_4]] rfl (by (try simp only [List.map_toArray, List.map_cons, List.map_nil]); first | done | rfl | (simp only [List.length_drop, List.length_take]; rfl)) ?_; (with_reducible refine (capnpref10_Copy.calls kj1 a0_0 a0_1 a0_2 _ _ l0_3 _ _ l0_4 t105 t106 t107 t108 t111 _ ?side1 ?side2 ?side3 ?side4 A14.out).mono ?_); (case side1 => repeat (first | exact (Kd.C_below HR0_3.out HB.out) | (with_reducible refine Kd.C_alloc ?_ _) | (with_reducible refine Kd.C_drewN ?_ _) | (with_reducible refine Kd.C_drew ?_))); (case side2 => exact HC0_3.out); (case side3 => repeat (first | exact (Kd.C_below HR0_4.out HB.out) | (with_reducible refine Kd.C_alloc ?_ _) | (with_reducible refine Kd.C_drewN ?_ _) | (with_reducible refine Kd.C_drew ?_))); (case side4 => exact HC0_4.out); rintro e w25 ⟨v109, v112, rfl, ho0, ho1, hb⟩; refine ⟨_, rfl, ?_⟩; have n0_ := Aside0.mk (Kd.R_lower ho0 (below_size (by repeat (first | (with_reducible first | exact HB.out | apply below_alloc | apply pw_below_drewN | apply below_drew1 | refine below_set ?_ GE101.out) | exact HB.out)))); have n1_ := Aside0.mk (Kd.R_lower (Kd.R_newB ho1 (g := gb101) (o := .cells #[.int .i64 a0_0, .int .i64 a0_1, .int .i64 a0_2, .slice A0_3 l0_3.length c0_3, .slice A0_4 l0_4.length c0_4] 30 (0, 0)) (by (with_reducible repeat (first | refine blk_drewN ?_ _ | refine blk_drew ?_ | refine blk_alloc ?_ _)); exact BK101.out)) (below_size (by repeat (first | (with_reducible first | exact HB.out | apply below_alloc | apply pw_below_drewN | apply below_drew1 | refine below_set ?_ GE101.out) | exact HB.out)))); have n2_ := Aside0.mk (blk_below (g := gb101) (o := .cells #[.int .i64 a0_0, .int .i64 a0_1, .int .i64 a0_2, .slice A0_3 l0_3.length c0_3, .slice A0_4 l0_4.length c0_4] 30 (0, 0)) (by (with_reducible repeat (first | refine blk_drewN ?_ _ | refine blk_drew ?_ | refine blk_alloc ?_ _)); exact BK101.out) hb); have n3_ := Aside0.mk (below_step (by repeat (first | (with_reducible first | exact HB.out | apply below_alloc | apply pw_below_drewN | apply below_drew1 | refine below_set ?_ GE101.out) | exact HB.out)) hb); clear BK101; clear HB; have HO110 := n0_; have HO113 := n1_; have BK101 := n2_; have HB := n3_; clear n0_ n1_ n2_ n3_; (try clear hb); (try clear hb2); (try clear hk); (try clear hi); (try clear ho0); (try clear ho1)) | ((with_reducible refine gate_dst (N := 3) rfl ?_); refine box_event ?hg (N := 3) ?hd (cs := #[.int .i64 0, .int .i64 0, .int .i64 0, .slice none 0 0, .slice none 0 0]) (t := 30) ?hr ?_; (case hd => rfl); (case hg => rfl); (case hr => first | (go_simp; done) | (go_simp; rfl)); intro gb114 hg w26 hbox hb; have n0_ := Aside0.mk (Kd.R_below (by (with_reducible repeat (first | apply Kd.R_alloc | apply Kd.R_drewN | apply Kd.R_drew)); exact HO110.out) hb); have n1_ := Aside0.mk (Kd.R_below (Kd.R_elderB (by (with_reducible repeat (first | apply Kd.R_alloc | apply Kd.R_drewN | apply Kd.R_drew)); exact HO113.out) gb114 (Nat.le_of_eq hg.symm)) hb); have n2_ := Aside0.mk (blk_below (g := gb101) (o := .cells #[.int .i64 a0_0, .int .i64 a0_1, .int .i64 a0_2, .slice A0_3 l0_3.length c0_3, .slice A0_4 l0_4.length c0_4] 30 (0, 0)) (by (with_reducible repeat (first | refine blk_drewN ?_ _ | refine blk_drew ?_ | refine blk_alloc ?_ _)); exact BK101.out) hb); have n3_ := Aside0.mk (below_step (by repeat (first | (with_reducible first | exact HB.out | apply below_alloc | apply pw_below_drewN | apply below_drew1 | refine below_set ?_ GE101.out) | exact HB.out)) hb); have n4_ := Aside0.mk (hbox); have n5_ := Aside0.mk ((by rw [hg]; exact (below_size (by repeat (first | (with_reducible first | exact HB.out | apply below_alloc | apply pw_below_drewN | apply below_drew1 | refine below_set ?_ GE101.out) | exact HB.out))) : w.heap.size ≤ gb114)); have n6_ := Aside0.mk ((by rw [hg]; exact (below_size (by repeat (first | (with_reducible first | exact HB.out | apply below_alloc | apply pw_below_drewN | apply below_drew1 | refine below_set ?_ GE101.out) | exact HB.out))) : w.heap.size ≤ gb114)); have n7_ := Aside0.mk ((by rw [hg]; exact Nat.ne_of_lt (blk_lt (g := gb101) (o := .cells #[.int .i64 a0_0, .int .i64 a0_1, .int .i64 a0_2, .slice A0_3 l0_3.length c0_3, .slice A0_4 l0_4.length c0_4] 30 (0, 0)) (by (with_reducible repeat (first | refine blk_drewN ?_ _ | refine blk_drew ?_ | refine blk_alloc ?_ _)); exact BK101.out)) : gb101 ≠ gb114)); have n8_ := Aside0.mk ((by rw [hg]; exact Nat.ne_of_gt (blk_lt (g := gb101) (o := .cells #[.int .i64 a0_0, .int .i64 a0_1, .int .i64 a0_2, .slice A0_3 l0_3.length c0_3, .slice A0_4 l0_4.length c0_4] 30 (0, 0)) (by (with_reducible repeat (first | refine blk_drewN ?_ _ | refine blk_drew ?_ | refine blk_alloc ?_ _)); exact BK101.out)) : gb114 ≠ gb101)); clear HO110; clear HO113; clear BK101; clear HB; have HO110 := n0_; have HO113 := n1_; have BK101 := n2_; have HB := n3_; have BK114 := n4_; have GW114 := n5_; have GE114 := n6_; have NB101_114 := n7_; have NB114_101 := n8_; clear n0_ n1_ n2_ n3_ n4_ n5_ n6_ n7_ n8_; clear hb hbox hg; have hnb27 := NB114_101.out; have hnc27 := NB101_114.out; have hcz28_0 : w26.cell? ⟨gb114, 0, none⟩ = some (.int .i64 0) := (blk_cell BK114.out 0).trans rfl; have hcz28_1 : w26.cell? ⟨gb114, 1, none⟩ = some (.int .i64 0) := (blk_cell BK114.out 1).trans rfl; have hcz28_2 : w26.cell? ⟨gb114, 2, none⟩ = some (.int .i64 0) := (blk_cell BK114.out 2).trans rfl; have hcz28_3 : w26.cell? ⟨gb114, 3, none⟩ = some (.slice none 0 0) := (blk_cell BK114.out 3).trans rfl; have hcz28_4 : w26.cell? ⟨gb114, 4, none⟩ = some (.slice none 0 0) := (blk_cell BK114.out 4).trans rfl; have hfz28_0 := blk_frozen BK114.out 0; have hfz28_1 := blk_frozen BK114.out 1; have hfz28_2 := blk_frozen BK114.out 2; have hfz28_3 := blk_frozen BK114.out 3; have hfz28_4 := blk_frozen BK114.out 4; obtain ⟨Ao29, co29, eo29⟩ := Kd.R_slice HO110.out; subst eo29; obtain ⟨Ao30, co30, eo30⟩ := Kd.R_slice HO113.out; subst eo30) | ((with_reducible refine gate_callee (f := 24) rfl ?_); refine goesL_ (some 18) rfl rfl Tryd.func24 (by kernel_rfl) rfl #[.agg #[.int .i64 t105, .int .i64 t106, .int .i64 t107, .slice Ao29 t108.length co29, .slice Ao30 t111.length co30]] rfl (by (try simp only [List.map_toArray, List.map_cons, List.map_nil]); first | done | rfl | (simp only [List.length_drop, List.length_take]; rfl)) ?_; (with_reducible refine (canonsize_Object.calls kj1 t105 t106 t107 _ _ t108 _ _ t111 t115 _ ?side1 ?side2 ?side3 ?side4 ?side5 A15.out).mono ?_); (case side1 => exact GLB.below HGLB.out (by repeat (first | (with_reducible first | exact HB.out | apply below_alloc | apply pw_below_drewN | apply below_drew1 | refine below_set ?_ GE101.out | refine below_set ?_ GE114.out) | exact HB.out))); (case side2 => refine (Kd.R_reads' (e := 5) (base := w.heap.size) (ok := fun k_ => True) (n := t108.length) (c := co29) ?_).2.2; exact (by (with_reducible repeat (first | apply Kd.R_alloc | apply Kd.R_drewN | apply Kd.R_drew)); exact (Kd.R_mono (Kd.R_far (p := ⟨gb114, 4, none⟩) (Kd.R_far (p := ⟨gb114, 3, none⟩) (Kd.R_far (p := ⟨gb114, 2, none⟩) (Kd.R_far (p := ⟨gb114, 1, none⟩) (Kd.R_far (p := ⟨gb114, 0, none⟩) (Kd.R_types HO110.out BK114.out (by decide)) (fun _ hk => hk.2) (.int .i64 t105)) (fun _ hk => hk.2) (.int .i64 t106)) (fun _ hk => hk.2) (.int .i64 t107)) (fun _ hk => hk.2) (.slice Ao29 t108.length co29)) (fun _ hk => hk.2) (.slice Ao30 t111.length co30)) (fun _ h_ => h_.1)))); (case side3 => exact (Kd.R_reads' HO110.out).2.1); (case side4 => refine (Kd.R_reads' (e := 30) (base := w.heap.size) (ok := fun k_ => ((some k_ ≠ (.slice Ao29 t108.length co29 : Value).ownBlock ∧ k_ ≠ gb101) ∧ k_ ≠ gb114)) (n := t111.length) (c := co30) ?_).2.2; exact (by (with_reducible repeat (first | apply Kd.R_alloc | apply Kd.R_drewN | apply Kd.R_drew)); exact (Kd.R_mono (Kd.R_far (p := ⟨gb114, 4, none⟩) (Kd.R_far (p := ⟨gb114, 3, none⟩) (Kd.R_far (p := ⟨gb114, 2, none⟩) (Kd.R_far (p := ⟨gb114, 1, none⟩) (Kd.R_far (p := ⟨gb114, 0, none⟩) (Kd.R_mono HO113.out (fun k_ hk => (⟨hk, hk.2⟩ : _ ∧ k_ ≠ gb114))) (fun _ hk => hk.2) (.int .i64 t105)) (fun _ hk => hk.2) (.int .i64 t106)) (fun _ hk => hk.2) (.int .i64 t107)) (fun _ hk => hk.2) (.slice Ao29 t108.length co29)) (fun _ hk => hk.2) (.slice Ao30 t111.length co30)) (fun _ h_ => h_.1)))); (case side5 => exact (Kd.R_reads' HO113.out).2.1); rintro e w31 ⟨rfl, hb⟩; refine ⟨_, rfl, ?_⟩; have n0_ := Aside0.mk (Kd.R_below (by (with_reducible repeat (first | apply Kd.R_alloc | apply Kd.R_drewN | apply Kd.R_drew)); exact (Kd.R_mono (Kd.R_far (p := ⟨gb114, 4, none⟩) (Kd.R_far (p := ⟨gb114, 3, none⟩) (Kd.R_far (p := ⟨gb114, 2, none⟩) (Kd.R_far (p := ⟨gb114, 1, none⟩) (Kd.R_far (p := ⟨gb114, 0, none⟩) (Kd.R_types HO110.out BK114.out (by decide)) (fun _ hk => hk.2) (.int .i64 t105)) (fun _ hk => hk.2) (.int .i64 t106)) (fun _ hk => hk.2) (.int .i64 t107)) (fun _ hk => hk.2) (.slice Ao29 t108.length co29)) (fun _ hk => hk.2) (.slice Ao30 t111.length co30)) (fun _ h_ => h_.1))) hb); have n1_ := Aside0.mk (Kd.R_below (by (with_reducible repeat (first | apply Kd.R_alloc | apply Kd.R_drewN | apply Kd.R_drew)); exact (Kd.R_mono (Kd.R_far (p := ⟨gb114, 4, none⟩) (Kd.R_far (p := ⟨gb114, 3, none⟩) (Kd.R_far (p := ⟨gb114, 2, none⟩) (Kd.R_far (p := ⟨gb114, 1, none⟩) (Kd.R_far (p := ⟨gb114, 0, none⟩) (Kd.R_mono HO113.out (fun k_ hk => (⟨hk, hk.2⟩ : _ ∧ k_ ≠ gb114))) (fun _ hk => hk.2) (.int .i64 t105)) (fun _ hk => hk.2) (.int .i64 t106)) (fun _ hk => hk.2) (.int .i64 t107)) (fun _ hk => hk.2) (.slice Ao29 t108.length co29)) (fun _ hk => hk.2) (.slice Ao30 t111.length co30)) (fun _ h_ => h_.1))) hb); have n2_ := Aside0.mk (blk_below (g := gb101) (o := .cells #[.int .i64 a0_0, .int .i64 a0_1, .int .i64 a0_2, .slice A0_3 l0_3.length c0_3, .slice A0_4 l0_4.length c0_4] 30 (0, 0)) (by (with_reducible repeat (first | refine blk_drewN ?_ _ | refine blk_drew ?_ | refine blk_alloc ?_ _)); refine blk_far ?_ NB101_114.out _; (with_reducible repeat (first | refine blk_drewN ?_ _ | refine blk_drew ?_ | refine blk_alloc ?_ _)); refine blk_far ?_ NB101_114.out _; (with_reducible repeat (first | refine blk_drewN ?_ _ | refine blk_drew ?_ | refine blk_alloc ?_ _)); refine blk_far ?_ NB101_114.out _; (with_reducible repeat (first | refine blk_drewN ?_ _ | refine blk_drew ?_ | refine blk_alloc ?_ _)); refine blk_far ?_ NB101_114.out _; (with_reducible repeat (first | refine blk_drewN ?_ _ | refine blk_drew ?_ | refine blk_alloc ?_ _)); refine blk_far ?_ NB101_114.out _; (with_reducible repeat (first | refine blk_drewN ?_ _ | refine blk_drew ?_ | refine blk_alloc ?_ _)); exact BK101.out) hb); have n3_ := Aside0.mk (blk_below (g := gb114) (o := .cells #[.int .i64 t105, .int .i64 t106, .int .i64 t107, .slice Ao29 t108.length co29, .slice Ao30 t111.length co30] 30 (0, 0)) (by (with_reducible repeat (first | refine blk_drewN ?_ _ | refine blk_drew ?_ | refine blk_alloc ?_ _)); refine blk_put (cs := #[.int .i64 t105, .int .i64 t106, .int .i64 t107, .slice Ao29 t108.length co29, .slice none 0 0]) ?_ 4 _ rfl; (with_reducible repeat (first | refine blk_drewN ?_ _ | refine blk_drew ?_ | refine blk_alloc ?_ _)); refine blk_put (cs := #[.int .i64 t105, .int .i64 t106, .int .i64 t107, .slice none 0 0, .slice none 0 0]) ?_ 3 _ rfl; (with_reducible repeat (first | refine blk_drewN ?_ _ | refine blk_drew ?_ | refine blk_alloc ?_ _)); refine blk_put (cs := #[.int .i64 t105, .int .i64 t106, .int .i64 0, .slice none 0 0, .slice none 0 0]) ?_ 2 _ rfl; (with_reducible repeat (first | refine blk_drewN ?_ _ | refine blk_drew ?_ | refine blk_alloc ?_ _)); refine blk_put (cs := #[.int .i64 t105, .int .i64 0, .int .i64 0, .slice none 0 0, .slice none 0 0]) ?_ 1 _ rfl; (with_reducible repeat (first | refine blk_drewN ?_ _ | refine blk_drew ?_ | refine blk_alloc ?_ _)); refine blk_put (cs := #[.int .i64 0, .int .i64 0, .int .i64 0, .slice none 0 0, .slice none 0 0]) ?_ 0 _ rfl; (with_reducible repeat (first | refine blk_drewN ?_ _ | refine blk_drew ?_ | refine blk_alloc ?_ _)); exact BK114.out) hb); have n4_ := Aside0.mk (below_step (by repeat (first | (with_reducible first | exact HB.out | apply below_alloc | apply pw_below_drewN | apply below_drew1 | refine below_set ?_ GE101.out | refine below_set ?_ GE114.out) | exact HB.out)) hb); clear HO110; clear HO113; clear BK101; clear BK114; clear HB; have HO110 := n0_; have HO113 := n1_; have BK101 := n2_; have BK114 := n3_; have HB := n4_; clear n0_ n1_ n2_ n3_ n4_; (try clear hb); (try clear hb2); (try clear hk); (try clear hi); have hcz32_0 : w31.cell? ⟨gb114, 0, none⟩ = some (.int .i64 t105) := (blk_cell BK114.out 0).trans rfl; have hcz32_1 : w31.cell? ⟨gb114, 1, none⟩ = some (.int .i64 t106) := (blk_cell BK114.out 1).trans rfl; have hcz32_2 : w31.cell? ⟨gb114, 2, none⟩ = some (.int .i64 t107) := (blk_cell BK114.out 2).trans rfl; have hcz32_3 : w31.cell? ⟨gb114, 3, none⟩ = some (.slice Ao29 t108.length co29) := (blk_cell BK114.out 3).trans rfl; have hcz32_4 : w31.cell? ⟨gb114, 4, none⟩ = some (.slice Ao30 t111.length co30) := (blk_cell BK114.out 4).trans rfl; have hfz32_0 := blk_frozen BK114.out 0; have hfz32_1 := blk_frozen BK114.out 1; have hfz32_2 := blk_frozen BK114.out 2; have hfz32_3 := blk_frozen BK114.out 3; have hfz32_4 := blk_frozen BK114.out 4) | ((with_reducible refine gate_callee (f := 21) rfl ?_); refine goesL_ (some 20) rfl rfl Tryd.func21 (by kernel_rfl) rfl #[.agg #[.int .i64 t105, .int .i64 t106, .int .i64 t107, .slice Ao29 t108.length co29, .slice Ao30 t111.length co30]] rfl (by (try simp only [List.map_toArray, List.map_cons, List.map_nil]); first | done | rfl | (simp only [List.length_drop, List.length_take]; rfl)) ?_; (with_reducible refine (canonsize_Node.calls kj1 t105 t106 t107 _ _ t108 _ _ t111 t116 _ ?side1 ?side2 ?side3 ?side4 ?side5 A16.out).mono ?_); (case side1 => exact GLB.below HGLB.out (by repeat (first | (with_reducible first | exact HB.out | apply below_alloc | apply pw_below_drewN | apply below_drew1 | refine below_set ?_ GE101.out | refine below_set ?_ GE114.out) | exact HB.out))); (case side2 => repeat (first | exact (Kd.R_reads' HO110.out).2.2 | (with_reducible refine Kd.C_alloc ?_ _) | (with_reducible refine Kd.C_drewN ?_ _) | (with_reducible refine Kd.C_drew ?_))); (case side3 => exact (Kd.R_reads' HO110.out).2.1); (case side4 => repeat (first | exact (Kd.R_reads' HO113.out).2.2 | (with_reducible refine Kd.C_alloc ?_ _) | (with_reducible refine Kd.C_drewN ?_ _) | (with_reducible refine Kd.C_drew ?_))); (case side5 => exact (Kd.R_reads' HO113.out).2.1); rintro e w33 ⟨rfl, hb⟩; refine ⟨_, rfl, ?_⟩; have n0_ := Aside0.mk (Kd.R_below (by (with_reducible repeat (first | apply Kd.R_alloc | apply Kd.R_drewN | apply Kd.R_drew)); exact HO110.out) hb); have n1_ := Aside0.mk (Kd.R_below (by (with_reducible repeat (first | apply Kd.R_alloc | apply Kd.R_drewN | apply Kd.R_drew)); exact HO113.out) hb); have n2_ := Aside0.mk (blk_below (g := gb101) (o := .cells #[.int .i64 a0_0, .int .i64 a0_1, .int .i64 a0_2, .slice A0_3 l0_3.length c0_3, .slice A0_4 l0_4.length c0_4] 30 (0, 0)) (by (with_reducible repeat (first | refine blk_drewN ?_ _ | refine blk_drew ?_ | refine blk_alloc ?_ _)); exact BK101.out) hb); have n3_ := Aside0.mk (blk_below (g := gb114) (o := .cells #[.int .i64 t105, .int .i64 t106, .int .i64 t107, .slice Ao29 t108.length co29, .slice Ao30 t111.length co30] 30 (0, 0)) (by (with_reducible repeat (first | refine blk_drewN ?_ _ | refine blk_drew ?_ | refine blk_alloc ?_ _)); exact BK114.out) hb); have n4_ := Aside0.mk (below_step (by repeat (first | (with_reducible first | exact HB.out | apply below_alloc | apply pw_below_drewN | apply below_drew1 | refine below_set ?_ GE101.out | refine below_set ?_ GE114.out) | exact HB.out)) hb); clear HO110; clear HO113; clear BK101; clear BK114; clear HB; have HO110 := n0_; have HO113 := n1_; have BK101 := n2_; have BK114 := n3_; have HB := n4_; clear n0_ n1_ n2_ n3_ n4_; (try clear hb); (try clear hb2); (try clear hk); (try clear hi); have hcz34_0 : w33.cell? ⟨gb114, 0, none⟩ = some (.int .i64 t105) := (blk_cell BK114.out 0).trans rfl; have hcz34_1 : w33.cell? ⟨gb114, 1, none⟩ = some (.int .i64 t106) := (blk_cell BK114.out 1).trans rfl; have hcz34_2 : w33.cell? ⟨gb114, 2, none⟩ = some (.int .i64 t107) := (blk_cell BK114.out 2).trans rfl; have hcz34_3 : w33.cell? ⟨gb114, 3, none⟩ = some (.slice Ao29 t108.length co29) := (blk_cell BK114.out 3).trans rfl; have hcz34_4 : w33.cell? ⟨gb114, 4, none⟩ = some (.slice Ao30 t111.length co30) := (blk_cell BK114.out 4).trans rfl; have hfz34_0 := blk_frozen BK114.out 0; have hfz34_1 := blk_frozen BK114.out 1; have hfz34_2 := blk_frozen BK114.out 2; have hfz34_3 := blk_frozen BK114.out 3; have hfz34_4 := blk_frozen BK114.out 4) | ((with_reducible refine gate_callee (f := 22) rfl ?_); refine goesL_ (some 22) rfl rfl Tryd.func22 (by kernel_rfl) rfl #[.agg #[.int .i64 t105, .int .i64 t106, .int .i64 t107, .slice Ao29 t108.length co29, .slice Ao30 t111.length co30]] rfl (by (try simp only [List.map_toArray, List.map_cons, List.map_nil]); first | done | rfl | (simp only [List.length_drop, List.length_take]; rfl)) ?_; (with_reducible refine (canonsize_Total.calls kj1 t105 t106 t107 _ _ t108 _ _ t111 t117 _ ?side1 ?side2 ?side3 ?side4 ?side5 A17.out).mono ?_); (case side1 => exact GLB.below HGLB.out (by repeat (first | (with_reducible first | exact HB.out | apply below_alloc | apply pw_below_drewN | apply below_drew1 | refine below_set ?_ GE101.out | refine below_set ?_ GE114.out) | exact HB.out))); (case side2 => repeat (first | exact (Kd.R_reads' HO110.out).2.2 | (with_reducible refine Kd.C_alloc ?_ _) | (with_reducible refine Kd.C_drewN ?_ _) | (with_reducible refine Kd.C_drew ?_))); (case side3 => exact (Kd.R_reads' HO110.out).2.1); (case side4 => repeat (first | exact (Kd.R_reads' HO113.out).2.2 | (with_reducible refine Kd.C_alloc ?_ _) | (with_reducible refine Kd.C_drewN ?_ _) | (with_reducible refine Kd.C_drew ?_))); (case side5 => exact (Kd.R_reads' HO113.out).2.1); rintro e w35 ⟨rfl, hb⟩; refine ⟨_, rfl, ?_⟩; have n0_ := Aside0.mk (Kd.R_below (by (with_reducible repeat (first | apply Kd.R_alloc | apply Kd.R_drewN | apply Kd.R_drew)); exact HO110.out) hb); have n1_ := Aside0.mk (Kd.R_below (by (with_reducible repeat (first | apply Kd.R_alloc | apply Kd.R_drewN | apply Kd.R_drew)); exact HO113.out) hb); have n2_ := Aside0.mk (blk_below (g := gb101) (o := .cells #[.int .i64 a0_0, .int .i64 a0_1, .int .i64 a0_2, .slice A0_3 l0_3.length c0_3, .slice A0_4 l0_4.length c0_4] 30 (0, 0)) (by (with_reducible repeat (first | refine blk_drewN ?_ _ | refine blk_drew ?_ | refine blk_alloc ?_ _)); exact BK101.out) hb); have n3_ := Aside0.mk (blk_below (g := gb114) (o := .cells #[.int .i64 t105, .int .i64 t106, .int .i64 t107, .slice Ao29 t108.length co29, .slice Ao30 t111.length co30] 30 (0, 0)) (by (with_reducible repeat (first | refine blk_drewN ?_ _ | refine blk_drew ?_ | refine blk_alloc ?_ _)); exact BK114.out) hb); have n4_ := Aside0.mk (below_step (by repeat (first | (with_reducible first | exact HB.out | apply below_alloc | apply pw_below_drewN | apply below_drew1 | refine below_set ?_ GE101.out | refine below_set ?_ GE114.out) | exact HB.out)) hb); clear HO110; clear HO113; clear BK101; clear BK114; clear HB; have HO110 := n0_; have HO113 := n1_; have BK101 := n2_; have BK114 := n3_; have HB := n4_; clear n0_ n1_ n2_ n3_ n4_; (try clear hb); (try clear hb2); (try clear hk); (try clear hi); have hcz36_0 : w35.cell? ⟨gb114, 0, none⟩ = some (.int .i64 t105) := (blk_cell BK114.out 0).trans rfl; have hcz36_1 : w35.cell? ⟨gb114, 1, none⟩ = some (.int .i64 t106) := (blk_cell BK114.out 1).trans rfl; have hcz36_2 : w35.cell? ⟨gb114, 2, none⟩ = some (.int .i64 t107) := (blk_cell BK114.out 2).trans rfl; have hcz36_3 : w35.cell? ⟨gb114, 3, none⟩ = some (.slice Ao29 t108.length co29) := (blk_cell BK114.out 3).trans rfl; have hcz36_4 : w35.cell? ⟨gb114, 4, none⟩ = some (.slice Ao30 t111.length co30) := (blk_cell BK114.out 4).trans rfl; have hfz36_0 := blk_frozen BK114.out 0; have hfz36_1 := blk_frozen BK114.out 1; have hfz36_2 := blk_frozen BK114.out 2; have hfz36_3 := blk_frozen BK114.out 3; have hfz36_4 := blk_frozen BK114.out 4; have hcz37_0 : w35.cell? ⟨gb101, 0, none⟩ = some (.int .i64 a0_0) := (blk_cell BK101.out 0).trans rfl; have hcz37_1 : w35.cell? ⟨gb101, 1, none⟩ = some (.int .i64 a0_1) := (blk_cell BK101.out 1).trans rfl; have hcz37_2 : w35.cell? ⟨gb101, 2, none⟩ = some (.int .i64 a0_2) := (blk_cell BK101.out 2).trans rfl; have hcz37_3 : w35.cell? ⟨gb101, 3, none⟩ = some (.slice A0_3 l0_3.length c0_3) := (blk_cell BK101.out 3).trans rfl; have hcz37_4 : w35.cell? ⟨gb101, 4, none⟩ = some (.slice A0_4 l0_4.length c0_4) := (blk_cell BK101.out 4).trans rfl; have hfz37_0 := blk_frozen BK101.out 0; have hfz37_1 := blk_frozen BK101.out 1; have hfz37_2 := blk_frozen BK101.out 2; have hfz37_3 := blk_frozen BK101.out 3; have hfz37_4 := blk_frozen BK101.out 4) | ((with_reducible refine gate_callee (f := 25) rfl ?_); refine goesL_ (some 25) rfl rfl Tryd.func25 (by kernel_rfl) rfl #[.agg #[.int .i64 t105, .int .i64 t106, .int .i64 t107, .slice Ao29 t108.length co29, .slice Ao30 t111.length co30], .agg #[.int .i64 a0_0, .int .i64 a0_1, .int .i64 a0_2, .slice A0_3 l0_3.length c0_3, .slice A0_4 l0_4.length c0_4]] rfl (by (try simp only [List.map_toArray, List.map_cons, List.map_nil]); first | done | rfl | (simp only [List.length_drop, List.length_take]; rfl)) ?_; (with_reducible refine (capnpref10_Equal.calls kj1 t105 t106 t107 _ _ t108 _ _ t111 a0_0 a0_1 a0_2 _ _ l0_3 _ _ l0_4 true _ ?side1 ?side2 ?side3 ?side4 ?side5 ?side6 ?side7 ?side8 A18.out).mono ?_); (case side1 => repeat (first | exact (Kd.R_reads' HO110.out).2.2 | (with_reducible refine Kd.C_alloc ?_ _) | (with_reducible refine Kd.C_drewN ?_ _) | (with_reducible refine Kd.C_drew ?_))); (case side2 => exact (Kd.R_reads' HO110.out).2.1); (case side3 => repeat (first | exact (Kd.R_reads' HO113.out).2.2 | (with_reducible refine Kd.C_alloc ?_ _) | (with_reducible refine Kd.C_drewN ?_ _) | (with_reducible refine Kd.C_drew ?_))); (case side4 => exact (Kd.R_reads' HO113.out).2.1); (case side5 => repeat (first | exact (Kd.C_below HR0_3.out HB.out) | (with_reducible refine Kd.C_alloc ?_ _) | (with_reducible refine Kd.C_drewN ?_ _) | (with_reducible refine Kd.C_drew ?_))); (case side6 => exact HC0_3.out); (case side7 => repeat (first | exact (Kd.C_below HR0_4.out HB.out) | (with_reducible refine Kd.C_alloc ?_ _) | (with_reducible refine Kd.C_drewN ?_ _) | (with_reducible refine Kd.C_drew ?_))); (case side8 => exact HC0_4.out); rintro e w38 ⟨rfl, hb⟩; refine ⟨_, rfl, ?_⟩; have n0_ := Aside0.mk (Kd.R_below (by (with_reducible repeat (first | apply Kd.R_alloc | apply Kd.R_drewN | apply Kd.R_drew)); exact HO110.out) hb); have n1_ := Aside0.mk (Kd.R_below (by (with_reducible repeat (first | apply Kd.R_alloc | apply Kd.R_drewN | apply Kd.R_drew)); exact HO113.out) hb); have n2_ := Aside0.mk (blk_below (g := gb101) (o := .cells #[.int .i64 a0_0, .int .i64 a0_1, .int .i64 a0_2, .slice A0_3 l0_3.length c0_3, .slice A0_4 l0_4.length c0_4] 30 (0, 0)) (by (with_reducible repeat (first | refine blk_drewN ?_ _ | refine blk_drew ?_ | refine blk_alloc ?_ _)); exact BK101.out) hb); have n3_ := Aside0.mk (blk_below (g := gb114) (o := .cells #[.int .i64 t105, .int .i64 t106, .int .i64 t107, .slice Ao29 t108.length co29, .slice Ao30 t111.length co30] 30 (0, 0)) (by (with_reducible repeat (first | refine blk_drewN ?_ _ | refine blk_drew ?_ | refine blk_alloc ?_ _)); exact BK114.out) hb); have n4_ := Aside0.mk (below_step (by repeat (first | (with_reducible first | exact HB.out | apply below_alloc | apply pw_below_drewN | apply below_drew1 | refine below_set ?_ GE101.out | refine below_set ?_ GE114.out) | exact HB.out)) hb); clear HO110; clear HO113; clear BK101; clear BK114; clear HB; have HO110 := n0_; have HO113 := n1_; have BK101 := n2_; have BK114 := n3_; have HB := n4_; clear n0_ n1_ n2_ n3_ n4_; (try clear hb); (try clear hb2); (try clear hk); (try clear hi); have hcz39_0 : w38.cell? ⟨gb101, 0, none⟩ = some (.int .i64 a0_0) := (blk_cell BK101.out 0).trans rfl; have hcz39_1 : w38.cell? ⟨gb101, 1, none⟩ = some (.int .i64 a0_1) := (blk_cell BK101.out 1).trans rfl; have hcz39_2 : w38.cell? ⟨gb101, 2, none⟩ = some (.int .i64 a0_2) := (blk_cell BK101.out 2).trans rfl; have hcz39_3 : w38.cell? ⟨gb101, 3, none⟩ = some (.slice A0_3 l0_3.length c0_3) := (blk_cell BK101.out 3).trans rfl; have hcz39_4 : w38.cell? ⟨gb101, 4, none⟩ = some (.slice A0_4 l0_4.length c0_4) := (blk_cell BK101.out 4).trans rfl; have hfz39_0 := blk_frozen BK101.out 0; have hfz39_1 := blk_frozen BK101.out 1; have hfz39_2 := blk_frozen BK101.out 2; have hfz39_3 := blk_frozen BK101.out 3; have hfz39_4 := blk_frozen BK101.out 4) | (go_at_call 21; (with_reducible refine (canonsize_Node.calls kj1 a0_0 a0_1 a0_2 _ _ l0_3 _ _ l0_4 t119 _ ?side1 ?side2 ?side3 ?side4 ?side5 A23.out).mono ?_); (case side1 => exact GLB.below HGLB.out (by repeat (first | (with_reducible first | exact HB.out | apply below_alloc | apply pw_below_drewN | apply below_drew1 | refine below_set ?_ GE101.out | refine below_set ?_ GE114.out) | exact HB.out))); (case side2 => repeat (first | exact (Kd.C_below HR0_3.out HB.out) | (with_reducible refine Kd.C_alloc ?_ _) | (with_reducible refine Kd.C_drewN ?_ _) | (with_reducible refine Kd.C_drew ?_))); (case side3 => exact HC0_3.out); (case side4 => repeat (first | exact (Kd.C_below HR0_4.out HB.out) | (with_reducible refine Kd.C_alloc ?_ _) | (with_reducible refine Kd.C_drewN ?_ _) | (with_reducible refine Kd.C_drew ?_))); (case side5 => exact HC0_4.out); rintro e w40 ⟨rfl, hb⟩; have n0_ := Aside0.mk (Kd.R_below (by (with_reducible repeat (first | apply Kd.R_alloc | apply Kd.R_drewN | apply Kd.R_drew)); exact HO110.out) hb); have n1_ := Aside0.mk (Kd.R_below (by (with_reducible repeat (first | apply Kd.R_alloc | apply Kd.R_drewN | apply Kd.R_drew)); exact HO113.out) hb); have n2_ := Aside0.mk (blk_below (g := gb101) (o := .cells #[.int .i64 a0_0, .int .i64 a0_1, .int .i64 a0_2, .slice A0_3 l0_3.length c0_3, .slice A0_4 l0_4.length c0_4] 30 (0, 0)) (by (with_reducible repeat (first | refine blk_drewN ?_ _ | refine blk_drew ?_ | refine blk_alloc ?_ _)); exact BK101.out) hb); have n3_ := Aside0.mk (blk_below (g := gb114) (o := .cells #[.int .i64 t105, .int .i64 t106, .int .i64 t107, .slice Ao29 t108.length co29, .slice Ao30 t111.length co30] 30 (0, 0)) (by (with_reducible repeat (first | refine blk_drewN ?_ _ | refine blk_drew ?_ | refine blk_alloc ?_ _)); exact BK114.out) hb); have n4_ := Aside0.mk (below_step (by repeat (first | (with_reducible first | exact HB.out | apply below_alloc | apply pw_below_drewN | apply below_drew1 | refine below_set ?_ GE101.out | refine below_set ?_ GE114.out) | exact HB.out)) hb); clear HO110; clear HO113; clear BK101; clear BK114; clear HB; have HO110 := n0_; have HO113 := n1_; have BK101 := n2_; have BK114 := n3_; have HB := n4_; clear n0_ n1_ n2_ n3_ n4_; (try clear hb); (try clear hb2); (try clear hk); (try clear hi)))
                go_ret
                exact ⟨by first | rfl | (simp [errW_none, errW_some] <;> rfl) | (simp [*, errW_none, errW_some] <;> rfl), by repeat (first | (with_reducible first | exact HB.out | apply below_alloc | apply pw_below_drewN | apply below_drew1 | refine below_set ?_ GE101.out | refine below_set ?_ GE114.out) | exact HB.out)⟩
              · rw [if_neg c22] at H
                have c22b0 : (t117 == (wrap64 (t116 + 1))) = false := beq_eq_false_iff_ne.mpr c22
                have c22b1 : (t117 != (wrap64 (t116 + 1))) = true := bne_iff_ne.mpr c22
                obtain rfl := Option.some.inj H
                have hcz41_0 : wc.cell? ⟨gb101, 0, none⟩ = some (.int .i64 a0_0) := (blk_cell BK101.out 0).trans rfl
                have hcz41_1 : wc.cell? ⟨gb101, 1, none⟩ = some (.int .i64 a0_1) := (blk_cell BK101.out 1).trans rfl
                have hcz41_2 : wc.cell? ⟨gb101, 2, none⟩ = some (.int .i64 a0_2) := (blk_cell BK101.out 2).trans rfl
                have hcz41_3 : wc.cell? ⟨gb101, 3, none⟩ = some (.slice A0_3 l0_3.length c0_3) := (blk_cell BK101.out 3).trans rfl
                have hcz41_4 : wc.cell? ⟨gb101, 4, none⟩ = some (.slice A0_4 l0_4.length c0_4) := (blk_cell BK101.out 4).trans rfl
                have hfz41_0 := blk_frozen BK101.out 0
                have hfz41_1 := blk_frozen BK101.out 1
                have hfz41_2 := blk_frozen BK101.out 2
                have hfz41_3 := blk_frozen BK101.out 3
                have hfz41_4 := blk_frozen BK101.out 4
                go_wp2_with (first | ((with_reducible refine gate_callee (f := 23) rfl ?_); refine goesL_ (some 16) rfl rfl Tryd.func23 (by kernel_rfl) rfl #[.agg #[.int .i64 a0_0, .int .i64 a0_1, .int .i64 a0_2, .slice A0_3 l0_3.length c0_3, .slice A0_4 l0_4.length c0_4]] rfl (by (try simp only [List.map_toArray, List.map_cons, List.map_nil]); first | done | rfl | (simp only [List.length_drop, List.length_take]; rfl)) ?_; (with_reducible refine (capnpref10_Copy.calls kj1 a0_0 a0_1 a0_2 _ _ l0_3 _ _ l0_4 t105 t106 t107 t108 t111 _ ?side1 ?side2 ?side3 ?side4 A14.out).mono ?_); (case side1 => repeat (first | exact (Kd.C_below HR0_3.out HB.out) | (with_reducible refine Kd.C_alloc ?_ _) | (with_reducible refine Kd.C_drewN ?_ _) | (with_reducible refine Kd.C_drew ?_))); (case side2 => exact HC0_3.out); (case side3 => repeat (first | exact (Kd.C_below HR0_4.out HB.out) | (with_reducible refine Kd.C_alloc ?_ _) | (with_reducible refine Kd.C_drewN ?_ _) | (with_reducible refine Kd.C_drew ?_))); (case side4 => exact HC0_4.out); rintro e w42 ⟨v109, v112, rfl, ho0, ho1, hb⟩; refine ⟨_, rfl, ?_⟩; have n0_ := Aside0.mk (Kd.R_lower ho0 (below_size (by repeat (first | (with_reducible first | exact HB.out | apply below_alloc | apply pw_below_drewN | apply below_drew1 | refine below_set ?_ GE101.out) | exact HB.out)))); have n1_ := Aside0.mk (Kd.R_lower (Kd.R_newB ho1 (g := gb101) (o := .cells #[.int .i64 a0_0, .int .i64 a0_1, .int .i64 a0_2, .slice A0_3 l0_3.length c0_3, .slice A0_4 l0_4.length c0_4] 30 (0, 0)) (by (with_reducible repeat (first | refine blk_drewN ?_ _ | refine blk_drew ?_ | refine blk_alloc ?_ _)); exact BK101.out)) (below_size (by repeat (first | (with_reducible first | exact HB.out | apply below_alloc | apply pw_below_drewN | apply below_drew1 | refine below_set ?_ GE101.out) | exact HB.out)))); have n2_ := Aside0.mk (blk_below (g := gb101) (o := .cells #[.int .i64 a0_0, .int .i64 a0_1, .int .i64 a0_2, .slice A0_3 l0_3.length c0_3, .slice A0_4 l0_4.length c0_4] 30 (0, 0)) (by (with_reducible repeat (first | refine blk_drewN ?_ _ | refine blk_drew ?_ | refine blk_alloc ?_ _)); exact BK101.out) hb); have n3_ := Aside0.mk (below_step (by repeat (first | (with_reducible first | exact HB.out | apply below_alloc | apply pw_below_drewN | apply below_drew1 | refine below_set ?_ GE101.out) | exact HB.out)) hb); clear BK101; clear HB; have HO110 := n0_; have HO113 := n1_; have BK101 := n2_; have HB := n3_; clear n0_ n1_ n2_ n3_; (try clear hb); (try clear hb2); (try clear hk); (try clear hi); (try clear ho0); (try clear ho1)) | ((with_reducible refine gate_dst (N := 3) rfl ?_); refine box_event ?hg (N := 3) ?hd (cs := #[.int .i64 0, .int .i64 0, .int .i64 0, .slice none 0 0, .slice none 0 0]) (t := 30) ?hr ?_; (case hd => rfl); (case hg => rfl); (case hr => first | (go_simp; done) | (go_simp; rfl)); intro gb114 hg w43 hbox hb; have n0_ := Aside0.mk (Kd.R_below (by (with_reducible repeat (first | apply Kd.R_alloc | apply Kd.R_drewN | apply Kd.R_drew)); exact HO110.out) hb); have n1_ := Aside0.mk (Kd.R_below (Kd.R_elderB (by (with_reducible repeat (first | apply Kd.R_alloc | apply Kd.R_drewN | apply Kd.R_drew)); exact HO113.out) gb114 (Nat.le_of_eq hg.symm)) hb); have n2_ := Aside0.mk (blk_below (g := gb101) (o := .cells #[.int .i64 a0_0, .int .i64 a0_1, .int .i64 a0_2, .slice A0_3 l0_3.length c0_3, .slice A0_4 l0_4.length c0_4] 30 (0, 0)) (by (with_reducible repeat (first | refine blk_drewN ?_ _ | refine blk_drew ?_ | refine blk_alloc ?_ _)); exact BK101.out) hb); have n3_ := Aside0.mk (below_step (by repeat (first | (with_reducible first | exact HB.out | apply below_alloc | apply pw_below_drewN | apply below_drew1 | refine below_set ?_ GE101.out) | exact HB.out)) hb); have n4_ := Aside0.mk (hbox); have n5_ := Aside0.mk ((by rw [hg]; exact (below_size (by repeat (first | (with_reducible first | exact HB.out | apply below_alloc | apply pw_below_drewN | apply below_drew1 | refine below_set ?_ GE101.out) | exact HB.out))) : w.heap.size ≤ gb114)); have n6_ := Aside0.mk ((by rw [hg]; exact (below_size (by repeat (first | (with_reducible first | exact HB.out | apply below_alloc | apply pw_below_drewN | apply below_drew1 | refine below_set ?_ GE101.out) | exact HB.out))) : w.heap.size ≤ gb114)); have n7_ := Aside0.mk ((by rw [hg]; exact Nat.ne_of_lt (blk_lt (g := gb101) (o := .cells #[.int .i64 a0_0, .int .i64 a0_1, .int .i64 a0_2, .slice A0_3 l0_3.length c0_3, .slice A0_4 l0_4.length c0_4] 30 (0, 0)) (by (with_reducible repeat (first | refine blk_drewN ?_ _ | refine blk_drew ?_ | refine blk_alloc ?_ _)); exact BK101.out)) : gb101 ≠ gb114)); have n8_ := Aside0.mk ((by rw [hg]; exact Nat.ne_of_gt (blk_lt (g := gb101) (o := .cells #[.int .i64 a0_0, .int .i64 a0_1, .int .i64 a0_2, .slice A0_3 l0_3.length c0_3, .slice A0_4 l0_4.length c0_4] 30 (0, 0)) (by (with_reducible repeat (first | refine blk_drewN ?_ _ | refine blk_drew ?_ | refine blk_alloc ?_ _)); exact BK101.out)) : gb114 ≠ gb101)); clear HO110; clear HO113; clear BK101; clear HB; have HO110 := n0_; have HO113 := n1_; have BK101 := n2_; have HB := n3_; have BK114 := n4_; have GW114 := n5_; have GE114 := n6_; have NB101_114 := n7_; have NB114_101 := n8_; clear n0_ n1_ n2_ n3_ n4_ n5_ n6_ n7_ n8_; clear hb hbox hg; have hnb44 := NB114_101.out; have hnc44 := NB101_114.out; have hcz45_0 : w43.cell? ⟨gb114, 0, none⟩ = some (.int .i64 0) := (blk_cell BK114.out 0).trans rfl; have hcz45_1 : w43.cell? ⟨gb114, 1, none⟩ = some (.int .i64 0) := (blk_cell BK114.out 1).trans rfl; have hcz45_2 : w43.cell? ⟨gb114, 2, none⟩ = some (.int .i64 0) := (blk_cell BK114.out 2).trans rfl; have hcz45_3 : w43.cell? ⟨gb114, 3, none⟩ = some (.slice none 0 0) := (blk_cell BK114.out 3).trans rfl; have hcz45_4 : w43.cell? ⟨gb114, 4, none⟩ = some (.slice none 0 0) := (blk_cell BK114.out 4).trans rfl; have hfz45_0 := blk_frozen BK114.out 0; have hfz45_1 := blk_frozen BK114.out 1; have hfz45_2 := blk_frozen BK114.out 2; have hfz45_3 := blk_frozen BK114.out 3; have hfz45_4 := blk_frozen BK114.out 4; obtain ⟨Ao46, co46, eo46⟩ := Kd.R_slice HO110.out; subst eo46; obtain ⟨Ao47, co47, eo47⟩ := Kd.R_slice HO113.out; subst eo47) | ((with_reducible refine gate_callee (f := 24) rfl ?_); refine goesL_ (some 18) rfl rfl Tryd.func24 (by kernel_rfl) rfl #[.agg #[.int .i64 t105, .int .i64 t106, .int .i64 t107, .slice Ao46 t108.length co46, .slice Ao47 t111.length co47]] rfl (by (try simp only [List.map_toArray, List.map_cons, List.map_nil]); first | done | rfl | (simp only [List.length_drop, List.length_take]; rfl)) ?_; (with_reducible refine (canonsize_Object.calls kj1 t105 t106 t107 _ _ t108 _ _ t111 t115 _ ?side1 ?side2 ?side3 ?side4 ?side5 A15.out).mono ?_); (case side1 => exact GLB.below HGLB.out (by repeat (first | (with_reducible first | exact HB.out | apply below_alloc | apply pw_below_drewN | apply below_drew1 | refine below_set ?_ GE101.out | refine below_set ?_ GE114.out) | exact HB.out))); (case side2 => refine (Kd.R_reads' (e := 5) (base := w.heap.size) (ok := fun k_ => True) (n := t108.length) (c := co46) ?_).2.2; exact (by (with_reducible repeat (first | apply Kd.R_alloc | apply Kd.R_drewN | apply Kd.R_drew)); exact (Kd.R_mono (Kd.R_far (p := ⟨gb114, 4, none⟩) (Kd.R_far (p := ⟨gb114, 3, none⟩) (Kd.R_far (p := ⟨gb114, 2, none⟩) (Kd.R_far (p := ⟨gb114, 1, none⟩) (Kd.R_far (p := ⟨gb114, 0, none⟩) (Kd.R_types HO110.out BK114.out (by decide)) (fun _ hk => hk.2) (.int .i64 t105)) (fun _ hk => hk.2) (.int .i64 t106)) (fun _ hk => hk.2) (.int .i64 t107)) (fun _ hk => hk.2) (.slice Ao46 t108.length co46)) (fun _ hk => hk.2) (.slice Ao47 t111.length co47)) (fun _ h_ => h_.1)))); (case side3 => exact (Kd.R_reads' HO110.out).2.1); (case side4 => refine (Kd.R_reads' (e := 30) (base := w.heap.size) (ok := fun k_ => ((some k_ ≠ (.slice Ao46 t108.length co46 : Value).ownBlock ∧ k_ ≠ gb101) ∧ k_ ≠ gb114)) (n := t111.length) (c := co47) ?_).2.2; exact (by (with_reducible repeat (first | apply Kd.R_alloc | apply Kd.R_drewN | apply Kd.R_drew)); exact (Kd.R_mono (Kd.R_far (p := ⟨gb114, 4, none⟩) (Kd.R_far (p := ⟨gb114, 3, none⟩) (Kd.R_far (p := ⟨gb114, 2, none⟩) (Kd.R_far (p := ⟨gb114, 1, none⟩) (Kd.R_far (p := ⟨gb114, 0, none⟩) (Kd.R_mono HO113.out (fun k_ hk => (⟨hk, hk.2⟩ : _ ∧ k_ ≠ gb114))) (fun _ hk => hk.2) (.int .i64 t105)) (fun _ hk => hk.2) (.int .i64 t106)) (fun _ hk => hk.2) (.int .i64 t107)) (fun _ hk => hk.2) (.slice Ao46 t108.length co46)) (fun _ hk => hk.2) (.slice Ao47 t111.length co47)) (fun _ h_ => h_.1)))); (case side5 => exact (Kd.R_reads' HO113.out).2.1); rintro e w48 ⟨rfl, hb⟩; refine ⟨_, rfl, ?_⟩; have n0_ := Aside0.mk (Kd.R_below (by (with_reducible repeat (first | apply Kd.R_alloc | apply Kd.R_drewN | apply Kd.R_drew)); exact (Kd.R_mono (Kd.R_far (p := ⟨gb114, 4, none⟩) (Kd.R_far (p := ⟨gb114, 3, none⟩) (Kd.R_far (p := ⟨gb114, 2, none⟩) (Kd.R_far (p := ⟨gb114, 1, none⟩) (Kd.R_far (p := ⟨gb114, 0, none⟩) (Kd.R_types HO110.out BK114.out (by decide)) (fun _ hk => hk.2) (.int .i64 t105)) (fun _ hk => hk.2) (.int .i64 t106)) (fun _ hk => hk.2) (.int .i64 t107)) (fun _ hk => hk.2) (.slice Ao46 t108.length co46)) (fun _ hk => hk.2) (.slice Ao47 t111.length co47)) (fun _ h_ => h_.1))) hb); have n1_ := Aside0.mk (Kd.R_below (by (with_reducible repeat (first | apply Kd.R_alloc | apply Kd.R_drewN | apply Kd.R_drew)); exact (Kd.R_mono (Kd.R_far (p := ⟨gb114, 4, none⟩) (Kd.R_far (p := ⟨gb114, 3, none⟩) (Kd.R_far (p := ⟨gb114, 2, none⟩) (Kd.R_far (p := ⟨gb114, 1, none⟩) (Kd.R_far (p := ⟨gb114, 0, none⟩) (Kd.R_mono HO113.out (fun k_ hk => (⟨hk, hk.2⟩ : _ ∧ k_ ≠ gb114))) (fun _ hk => hk.2) (.int .i64 t105)) (fun _ hk => hk.2) (.int .i64 t106)) (fun _ hk => hk.2) (.int .i64 t107)) (fun _ hk => hk.2) (.slice Ao46 t108.length co46)) (fun _ hk => hk.2) (.slice Ao47 t111.length co47)) (fun _ h_ => h_.1))) hb); have n2_ := Aside0.mk (blk_below (g := gb101) (o := .cells #[.int .i64 a0_0, .int .i64 a0_1, .int .i64 a0_2, .slice A0_3 l0_3.length c0_3, .slice A0_4 l0_4.length c0_4] 30 (0, 0)) (by (with_reducible repeat (first | refine blk_drewN ?_ _ | refine blk_drew ?_ | refine blk_alloc ?_ _)); refine blk_far ?_ NB101_114.out _; (with_reducible repeat (first | refine blk_drewN ?_ _ | refine blk_drew ?_ | refine blk_alloc ?_ _)); refine blk_far ?_ NB101_114.out _; (with_reducible repeat (first | refine blk_drewN ?_ _ | refine blk_drew ?_ | refine blk_alloc ?_ _)); refine blk_far ?_ NB101_114.out _; (with_reducible repeat (first | refine blk_drewN ?_ _ | refine blk_drew ?_ | refine blk_alloc ?_ _)); refine blk_far ?_ NB101_114.out _; (with_reducible repeat (first | refine blk_drewN ?_ _ | refine blk_drew ?_ | refine blk_alloc ?_ _)); refine blk_far ?_ NB101_114.out _; (with_reducible repeat (first | refine blk_drewN ?_ _ | refine blk_drew ?_ | refine blk_alloc ?_ _)); exact BK101.out) hb); have n3_ := Aside0.mk (blk_below (g := gb114) (o := .cells #[.int .i64 t105, .int .i64 t106, .int .i64 t107, .slice Ao46 t108.length co46, .slice Ao47 t111.length co47] 30 (0, 0)) (by (with_reducible repeat (first | refine blk_drewN ?_ _ | refine blk_drew ?_ | refine blk_alloc ?_ _)); refine blk_put (cs := #[.int .i64 t105, .int .i64 t106, .int .i64 t107, .slice Ao46 t108.length co46, .slice none 0 0]) ?_ 4 _ rfl; (with_reducible repeat (first | refine blk_drewN ?_ _ | refine blk_drew ?_ | refine blk_alloc ?_ _)); refine blk_put (cs := #[.int .i64 t105, .int .i64 t106, .int .i64 t107, .slice none 0 0, .slice none 0 0]) ?_ 3 _ rfl; (with_reducible repeat (first | refine blk_drewN ?_ _ | refine blk_drew ?_ | refine blk_alloc ?_ _)); refine blk_put (cs := #[.int .i64 t105, .int .i64 t106, .int .i64 0, .slice none 0 0, .slice none 0 0]) ?_ 2 _ rfl; (with_reducible repeat (first | refine blk_drewN ?_ _ | refine blk_drew ?_ | refine blk_alloc ?_ _)); refine blk_put (cs := #[.int .i64 t105, .int .i64 0, .int .i64 0, .slice none 0 0, .slice none 0 0]) ?_ 1 _ rfl; (with_reducible repeat (first | refine blk_drewN ?_ _ | refine blk_drew ?_ | refine blk_alloc ?_ _)); refine blk_put (cs := #[.int .i64 0, .int .i64 0, .int .i64 0, .slice none 0 0, .slice none 0 0]) ?_ 0 _ rfl; (with_reducible repeat (first | refine blk_drewN ?_ _ | refine blk_drew ?_ | refine blk_alloc ?_ _)); exact BK114.out) hb); have n4_ := Aside0.mk (below_step (by repeat (first | (with_reducible first | exact HB.out | apply below_alloc | apply pw_below_drewN | apply below_drew1 | refine below_set ?_ GE101.out | refine below_set ?_ GE114.out) | exact HB.out)) hb); clear HO110; clear HO113; clear BK101; clear BK114; clear HB; have HO110 := n0_; have HO113 := n1_; have BK101 := n2_; have BK114 := n3_; have HB := n4_; clear n0_ n1_ n2_ n3_ n4_; (try clear hb); (try clear hb2); (try clear hk); (try clear hi); have hcz49_0 : w48.cell? ⟨gb114, 0, none⟩ = some (.int .i64 t105) := (blk_cell BK114.out 0).trans rfl; have hcz49_1 : w48.cell? ⟨gb114, 1, none⟩ = some (.int .i64 t106) := (blk_cell BK114.out 1).trans rfl; have hcz49_2 : w48.cell? ⟨gb114, 2, none⟩ = some (.int .i64 t107) := (blk_cell BK114.out 2).trans rfl; have hcz49_3 : w48.cell? ⟨gb114, 3, none⟩ = some (.slice Ao46 t108.length co46) := (blk_cell BK114.out 3).trans rfl; have hcz49_4 : w48.cell? ⟨gb114, 4, none⟩ = some (.slice Ao47 t111.length co47) := (blk_cell BK114.out 4).trans rfl; have hfz49_0 := blk_frozen BK114.out 0; have hfz49_1 := blk_frozen BK114.out 1; have hfz49_2 := blk_frozen BK114.out 2; have hfz49_3 := blk_frozen BK114.out 3; have hfz49_4 := blk_frozen BK114.out 4) | ((with_reducible refine gate_callee (f := 21) rfl ?_); refine goesL_ (some 20) rfl rfl Tryd.func21 (by kernel_rfl) rfl #[.agg #[.int .i64 t105, .int .i64 t106, .int .i64 t107, .slice Ao46 t108.length co46, .slice Ao47 t111.length co47]] rfl (by (try simp only [List.map_toArray, List.map_cons, List.map_nil]); first | done | rfl | (simp only [List.length_drop, List.length_take]; rfl)) ?_; (with_reducible refine (canonsize_Node.calls kj1 t105 t106 t107 _ _ t108 _ _ t111 t116 _ ?side1 ?side2 ?side3 ?side4 ?side5 A16.out).mono ?_); (case side1 => exact GLB.below HGLB.out (by repeat (first | (with_reducible first | exact HB.out | apply below_alloc | apply pw_below_drewN | apply below_drew1 | refine below_set ?_ GE101.out | refine below_set ?_ GE114.out) | exact HB.out))); (case side2 => repeat (first | exact (Kd.R_reads' HO110.out).2.2 | (with_reducible refine Kd.C_alloc ?_ _) | (with_reducible refine Kd.C_drewN ?_ _) | (with_reducible refine Kd.C_drew ?_))); (case side3 => exact (Kd.R_reads' HO110.out).2.1); (case side4 => repeat (first | exact (Kd.R_reads' HO113.out).2.2 | (with_reducible refine Kd.C_alloc ?_ _) | (with_reducible refine Kd.C_drewN ?_ _) | (with_reducible refine Kd.C_drew ?_))); (case side5 => exact (Kd.R_reads' HO113.out).2.1); rintro e w50 ⟨rfl, hb⟩; refine ⟨_, rfl, ?_⟩; have n0_ := Aside0.mk (Kd.R_below (by (with_reducible repeat (first | apply Kd.R_alloc | apply Kd.R_drewN | apply Kd.R_drew)); exact HO110.out) hb); have n1_ := Aside0.mk (Kd.R_below (by (with_reducible repeat (first | apply Kd.R_alloc | apply Kd.R_drewN | apply Kd.R_drew)); exact HO113.out) hb); have n2_ := Aside0.mk (blk_below (g := gb101) (o := .cells #[.int .i64 a0_0, .int .i64 a0_1, .int .i64 a0_2, .slice A0_3 l0_3.length c0_3, .slice A0_4 l0_4.length c0_4] 30 (0, 0)) (by (with_reducible repeat (first | refine blk_drewN ?_ _ | refine blk_drew ?_ | refine blk_alloc ?_ _)); exact BK101.out) hb); have n3_ := Aside0.mk (blk_below (g := gb114) (o := .cells #[.int .i64 t105, .int .i64 t106, .int .i64 t107, .slice Ao46 t108.length co46, .slice Ao47 t111.length co47] 30 (0, 0)) (by (with_reducible repeat (first | refine blk_drewN ?_ _ | refine blk_drew ?_ | refine blk_alloc ?_ _)); exact BK114.out) hb); have n4_ := Aside0.mk (below_step (by repeat (first | (with_reducible first | exact HB.out | apply below_alloc | apply pw_below_drewN | apply below_drew1 | refine below_set ?_ GE101.out | refine below_set ?_ GE114.out) | exact HB.out)) hb); clear HO110; clear HO113; clear BK101; clear BK114; clear HB; have HO110 := n0_; have HO113 := n1_; have BK101 := n2_; have BK114 := n3_; have HB := n4_; clear n0_ n1_ n2_ n3_ n4_; (try clear hb); (try clear hb2); (try clear hk); (try clear hi); have hcz51_0 : w50.cell? ⟨gb114, 0, none⟩ = some (.int .i64 t105) := (blk_cell BK114.out 0).trans rfl; have hcz51_1 : w50.cell? ⟨gb114, 1, none⟩ = some (.int .i64 t106) := (blk_cell BK114.out 1).trans rfl; have hcz51_2 : w50.cell? ⟨gb114, 2, none⟩ = some (.int .i64 t107) := (blk_cell BK114.out 2).trans rfl; have hcz51_3 : w50.cell? ⟨gb114, 3, none⟩ = some (.slice Ao46 t108.length co46) := (blk_cell BK114.out 3).trans rfl; have hcz51_4 : w50.cell? ⟨gb114, 4, none⟩ = some (.slice Ao47 t111.length co47) := (blk_cell BK114.out 4).trans rfl; have hfz51_0 := blk_frozen BK114.out 0; have hfz51_1 := blk_frozen BK114.out 1; have hfz51_2 := blk_frozen BK114.out 2; have hfz51_3 := blk_frozen BK114.out 3; have hfz51_4 := blk_frozen BK114.out 4) | ((with_reducible refine gate_callee (f := 22) rfl ?_); refine goesL_ (some 22) rfl rfl Tryd.func22 (by kernel_rfl) rfl #[.agg #[.int .i64 t105, .int .i64 t106, .int .i64 t107, .slice Ao46 t108.length co46, .slice Ao47 t111.length co47]] rfl (by (try simp only [List.map_toArray, List.map_cons, List.map_nil]); first | done | rfl | (simp only [List.length_drop, List.length_take]; rfl)) ?_; (with_reducible refine (canonsize_Total.calls kj1 t105 t106 t107 _ _ t108 _ _ t111 t117 _ ?side1 ?side2 ?side3 ?side4 ?side5 A17.out).mono ?_); (case side1 => exact GLB.below HGLB.out (by repeat (first | (with_reducible first | exact HB.out | apply below_alloc | apply pw_below_drewN | apply below_drew1 | refine below_set ?_ GE101.out | refine below_set ?_ GE114.out) | exact HB.out))); (case side2 => repeat (first | exact (Kd.R_reads' HO110.out).2.2 | (with_reducible refine Kd.C_alloc ?_ _) | (with_reducible refine Kd.C_drewN ?_ _) | (with_reducible refine Kd.C_drew ?_))); (case side3 => exact (Kd.R_reads' HO110.out).2.1); (case side4 => repeat (first | exact (Kd.R_reads' HO113.out).2.2 | (with_reducible refine Kd.C_alloc ?_ _) | (with_reducible refine Kd.C_drewN ?_ _) | (with_reducible refine Kd.C_drew ?_))); (case side5 => exact (Kd.R_reads' HO113.out).2.1); rintro e w52 ⟨rfl, hb⟩; refine ⟨_, rfl, ?_⟩; have n0_ := Aside0.mk (Kd.R_below (by (with_reducible repeat (first | apply Kd.R_alloc | apply Kd.R_drewN | apply Kd.R_drew)); exact HO110.out) hb); have n1_ := Aside0.mk (Kd.R_below (by (with_reducible repeat (first | apply Kd.R_alloc | apply Kd.R_drewN | apply Kd.R_drew)); exact HO113.out) hb); have n2_ := Aside0.mk (blk_below (g := gb101) (o := .cells #[.int .i64 a0_0, .int .i64 a0_1, .int .i64 a0_2, .slice A0_3 l0_3.length c0_3, .slice A0_4 l0_4.length c0_4] 30 (0, 0)) (by (with_reducible repeat (first | refine blk_drewN ?_ _ | refine blk_drew ?_ | refine blk_alloc ?_ _)); exact BK101.out) hb); have n3_ := Aside0.mk (blk_below (g := gb114) (o := .cells #[.int .i64 t105, .int .i64 t106, .int .i64 t107, .slice Ao46 t108.length co46, .slice Ao47 t111.length co47] 30 (0, 0)) (by (with_reducible repeat (first | refine blk_drewN ?_ _ | refine blk_drew ?_ | refine blk_alloc ?_ _)); exact BK114.out) hb); have n4_ := Aside0.mk (below_step (by repeat (first | (with_reducible first | exact HB.out | apply below_alloc | apply pw_below_drewN | apply below_drew1 | refine below_set ?_ GE101.out | refine below_set ?_ GE114.out) | exact HB.out)) hb); clear HO110; clear HO113; clear BK101; clear BK114; clear HB; have HO110 := n0_; have HO113 := n1_; have BK101 := n2_; have BK114 := n3_; have HB := n4_; clear n0_ n1_ n2_ n3_ n4_; (try clear hb); (try clear hb2); (try clear hk); (try clear hi); have hcz53_0 : w52.cell? ⟨gb114, 0, none⟩ = some (.int .i64 t105) := (blk_cell BK114.out 0).trans rfl; have hcz53_1 : w52.cell? ⟨gb114, 1, none⟩ = some (.int .i64 t106) := (blk_cell BK114.out 1).trans rfl; have hcz53_2 : w52.cell? ⟨gb114, 2, none⟩ = some (.int .i64 t107) := (blk_cell BK114.out 2).trans rfl; have hcz53_3 : w52.cell? ⟨gb114, 3, none⟩ = some (.slice Ao46 t108.length co46) := (blk_cell BK114.out 3).trans rfl; have hcz53_4 : w52.cell? ⟨gb114, 4, none⟩ = some (.slice Ao47 t111.length co47) := (blk_cell BK114.out 4).trans rfl; have hfz53_0 := blk_frozen BK114.out 0; have hfz53_1 := blk_frozen BK114.out 1; have hfz53_2 := blk_frozen BK114.out 2; have hfz53_3 := blk_frozen BK114.out 3; have hfz53_4 := blk_frozen BK114.out 4; have hcz54_0 : w52.cell? ⟨gb101, 0, none⟩ = some (.int .i64 a0_0) := (blk_cell BK101.out 0).trans rfl; have hcz54_1 : w52.cell? ⟨gb101, 1, none⟩ = some (.int .i64 a0_1) := (blk_cell BK101.out 1).trans rfl; have hcz54_2 : w52.cell? ⟨gb101, 2, none⟩ = some (.int .i64 a0_2) := (blk_cell BK101.out 2).trans rfl; have hcz54_3 : w52.cell? ⟨gb101, 3, none⟩ = some (.slice A0_3 l0_3.length c0_3) := (blk_cell BK101.out 3).trans rfl; have hcz54_4 : w52.cell? ⟨gb101, 4, none⟩ = some (.slice A0_4 l0_4.length c0_4) := (blk_cell BK101.out 4).trans rfl; have hfz54_0 := blk_frozen BK101.out 0; have hfz54_1 := blk_frozen BK101.out 1; have hfz54_2 := blk_frozen BK101.out 2; have hfz54_3 := blk_frozen BK101.out 3; have hfz54_4 := blk_frozen BK101.out 4) | ((with_reducible refine gate_callee (f := 25) rfl ?_); refine goesL_ (some 25) rfl rfl Tryd.func25 (by kernel_rfl) rfl #[.agg #[.int .i64 t105, .int .i64 t106, .int .i64 t107, .slice Ao46 t108.length co46, .slice Ao47 t111.length co47], .agg #[.int .i64 a0_0, .int .i64 a0_1, .int .i64 a0_2, .slice A0_3 l0_3.length c0_3, .slice A0_4 l0_4.length c0_4]] rfl (by (try simp only [List.map_toArray, List.map_cons, List.map_nil]); first | done | rfl | (simp only [List.length_drop, List.length_take]; rfl)) ?_; (with_reducible refine (capnpref10_Equal.calls kj1 t105 t106 t107 _ _ t108 _ _ t111 a0_0 a0_1 a0_2 _ _ l0_3 _ _ l0_4 true _ ?side1 ?side2 ?side3 ?side4 ?side5 ?side6 ?side7 ?side8 A18.out).mono ?_); (case side1 => repeat (first | exact (Kd.R_reads' HO110.out).2.2 | (with_reducible refine Kd.C_alloc ?_ _) | (with_reducible refine Kd.C_drewN ?_ _) | (with_reducible refine Kd.C_drew ?_))); (case side2 => exact (Kd.R_reads' HO110.out).2.1); (case side3 => repeat (first | exact (Kd.R_reads' HO113.out).2.2 | (with_reducible refine Kd.C_alloc ?_ _) | (with_reducible refine Kd.C_drewN ?_ _) | (with_reducible refine Kd.C_drew ?_))); (case side4 => exact (Kd.R_reads' HO113.out).2.1); (case side5 => repeat (first | exact (Kd.C_below HR0_3.out HB.out) | (with_reducible refine Kd.C_alloc ?_ _) | (with_reducible refine Kd.C_drewN ?_ _) | (with_reducible refine Kd.C_drew ?_))); (case side6 => exact HC0_3.out); (case side7 => repeat (first | exact (Kd.C_below HR0_4.out HB.out) | (with_reducible refine Kd.C_alloc ?_ _) | (with_reducible refine Kd.C_drewN ?_ _) | (with_reducible refine Kd.C_drew ?_))); (case side8 => exact HC0_4.out); rintro e w55 ⟨rfl, hb⟩; refine ⟨_, rfl, ?_⟩; have n0_ := Aside0.mk (Kd.R_below (by (with_reducible repeat (first | apply Kd.R_alloc | apply Kd.R_drewN | apply Kd.R_drew)); exact HO110.out) hb); have n1_ := Aside0.mk (Kd.R_below (by (with_reducible repeat (first | apply Kd.R_alloc | apply Kd.R_drewN | apply Kd.R_drew)); exact HO113.out) hb); have n2_ := Aside0.mk (blk_below (g := gb101) (o := .cells #[.int .i64 a0_0, .int .i64 a0_1, .int .i64 a0_2, .slice A0_3 l0_3.length c0_3, .slice A0_4 l0_4.length c0_4] 30 (0, 0)) (by (with_reducible repeat (first | refine blk_drewN ?_ _ | refine blk_drew ?_ | refine blk_alloc ?_ _)); exact BK101.out) hb); have n3_ := Aside0.mk (blk_below (g := gb114) (o := .cells #[.int .i64 t105, .int .i64 t106, .int .i64 t107, .slice Ao46 t108.length co46, .slice Ao47 t111.length co47] 30 (0, 0)) (by (with_reducible repeat (first | refine blk_drewN ?_ _ | refine blk_drew ?_ | refine blk_alloc ?_ _)); exact BK114.out) hb); have n4_ := Aside0.mk (below_step (by repeat (first | (with_reducible first | exact HB.out | apply below_alloc | apply pw_below_drewN | apply below_drew1 | refine below_set ?_ GE101.out | refine below_set ?_ GE114.out) | exact HB.out)) hb); clear HO110; clear HO113; clear BK101; clear BK114; clear HB; have HO110 := n0_; have HO113 := n1_; have BK101 := n2_; have BK114 := n3_; have HB := n4_; clear n0_ n1_ n2_ n3_ n4_; (try clear hb); (try clear hb2); (try clear hk); (try clear hi)))
                go_ret
                exact ⟨by first | rfl | (simp [errW_none, errW_some] <;> rfl) | (simp [*, errW_none, errW_some] <;> rfl), by repeat (first | (with_reducible first | exact HB.out | apply below_alloc | apply pw_below_drewN | apply below_drew1 | refine below_set ?_ GE101.out | refine below_set ?_ GE114.out) | exact HB.out)⟩
            · rw [if_neg c21] at H
              have c21b0 : decide (t115 ≤ t116) = false := decide_eq_false c21
              clear c21
              obtain rfl := Option.some.inj H
              have hcz56_0 : wc.cell? ⟨gb101, 0, none⟩ = some (.int .i64 a0_0) := (blk_cell BK101.out 0).trans rfl
              have hcz56_1 : wc.cell? ⟨gb101, 1, none⟩ = some (.int .i64 a0_1) := (blk_cell BK101.out 1).trans rfl
              have hcz56_2 : wc.cell? ⟨gb101, 2, none⟩ = some (.int .i64 a0_2) := (blk_cell BK101.out 2).trans rfl
              have hcz56_3 : wc.cell? ⟨gb101, 3, none⟩ = some (.slice A0_3 l0_3.length c0_3) := (blk_cell BK101.out 3).trans rfl
              have hcz56_4 : wc.cell? ⟨gb101, 4, none⟩ = some (.slice A0_4 l0_4.length c0_4) := (blk_cell BK101.out 4).trans rfl
              have hfz56_0 := blk_frozen BK101.out 0
              have hfz56_1 := blk_frozen BK101.out 1
              have hfz56_2 := blk_frozen BK101.out 2
              have hfz56_3 := blk_frozen BK101.out 3
              have hfz56_4 := blk_frozen BK101.out 4
              go_wp2_with (first | ((with_reducible refine gate_callee (f := 23) rfl ?_); refine goesL_ (some 16) rfl rfl Tryd.func23 (by kernel_rfl) rfl #[.agg #[.int .i64 a0_0, .int .i64 a0_1, .int .i64 a0_2, .slice A0_3 l0_3.length c0_3, .slice A0_4 l0_4.length c0_4]] rfl (by (try simp only [List.map_toArray, List.map_cons, List.map_nil]); first | done | rfl | (simp only [List.length_drop, List.length_take]; rfl)) ?_; (with_reducible refine (capnpref10_Copy.calls kj1 a0_0 a0_1 a0_2 _ _ l0_3 _ _ l0_4 t105 t106 t107 t108 t111 _ ?side1 ?side2 ?side3 ?side4 A14.out).mono ?_); (case side1 => repeat (first | exact (Kd.C_below HR0_3.out HB.out) | (with_reducible refine Kd.C_alloc ?_ _) | (with_reducible refine Kd.C_drewN ?_ _) | (with_reducible refine Kd.C_drew ?_))); (case side2 => exact HC0_3.out); (case side3 => repeat (first | exact (Kd.C_below HR0_4.out HB.out) | (with_reducible refine Kd.C_alloc ?_ _) | (with_reducible refine Kd.C_drewN ?_ _) | (with_reducible refine Kd.C_drew ?_))); (case side4 => exact HC0_4.out); rintro e w57 ⟨v109, v112, rfl, ho0, ho1, hb⟩; refine ⟨_, rfl, ?_⟩; have n0_ := Aside0.mk (Kd.R_lower ho0 (below_size (by repeat (first | (with_reducible first | exact HB.out | apply below_alloc | apply pw_below_drewN | apply below_drew1 | refine below_set ?_ GE101.out) | exact HB.out)))); have n1_ := Aside0.mk (Kd.R_lower (Kd.R_newB ho1 (g := gb101) (o := .cells #[.int .i64 a0_0, .int .i64 a0_1, .int .i64 a0_2, .slice A0_3 l0_3.length c0_3, .slice A0_4 l0_4.length c0_4] 30 (0, 0)) (by (with_reducible repeat (first | refine blk_drewN ?_ _ | refine blk_drew ?_ | refine blk_alloc ?_ _)); exact BK101.out)) (below_size (by repeat (first | (with_reducible first | exact HB.out | apply below_alloc | apply pw_below_drewN | apply below_drew1 | refine below_set ?_ GE101.out) | exact HB.out)))); have n2_ := Aside0.mk (blk_below (g := gb101) (o := .cells #[.int .i64 a0_0, .int .i64 a0_1, .int .i64 a0_2, .slice A0_3 l0_3.length c0_3, .slice A0_4 l0_4.length c0_4] 30 (0, 0)) (by (with_reducible repeat (first | refine blk_drewN ?_ _ | refine blk_drew ?_ | refine blk_alloc ?_ _)); exact BK101.out) hb); have n3_ := Aside0.mk (below_step (by repeat (first | (with_reducible first | exact HB.out | apply below_alloc | apply pw_below_drewN | apply below_drew1 | refine below_set ?_ GE101.out) | exact HB.out)) hb); clear BK101; clear HB; have HO110 := n0_; have HO113 := n1_; have BK101 := n2_; have HB := n3_; clear n0_ n1_ n2_ n3_; (try clear hb); (try clear hb2); (try clear hk); (try clear hi); (try clear ho0); (try clear ho1)) | ((with_reducible refine gate_dst (N := 3) rfl ?_); refine box_event ?hg (N := 3) ?hd (cs := #[.int .i64 0, .int .i64 0, .int .i64 0, .slice none 0 0, .slice none 0 0]) (t := 30) ?hr ?_; (case hd => rfl); (case hg => rfl); (case hr => first | (go_simp; done) | (go_simp; rfl)); intro gb114 hg w58 hbox hb; have n0_ := Aside0.mk (Kd.R_below (by (with_reducible repeat (first | apply Kd.R_alloc | apply Kd.R_drewN | apply Kd.R_drew)); exact HO110.out) hb); have n1_ := Aside0.mk (Kd.R_below (Kd.R_elderB (by (with_reducible repeat (first | apply Kd.R_alloc | apply Kd.R_drewN | apply Kd.R_drew)); exact HO113.out) gb114 (Nat.le_of_eq hg.symm)) hb); have n2_ := Aside0.mk (blk_below (g := gb101) (o := .cells #[.int .i64 a0_0, .int .i64 a0_1, .int .i64 a0_2, .slice A0_3 l0_3.length c0_3, .slice A0_4 l0_4.length c0_4] 30 (0, 0)) (by (with_reducible repeat (first | refine blk_drewN ?_ _ | refine blk_drew ?_ | refine blk_alloc ?_ _)); exact BK101.out) hb); have n3_ := Aside0.mk (below_step (by repeat (first | (with_reducible first | exact HB.out | apply below_alloc | apply pw_below_drewN | apply below_drew1 | refine below_set ?_ GE101.out) | exact HB.out)) hb); have n4_ := Aside0.mk (hbox); have n5_ := Aside0.mk ((by rw [hg]; exact (below_size (by repeat (first | (with_reducible first | exact HB.out | apply below_alloc | apply pw_below_drewN | apply below_drew1 | refine below_set ?_ GE101.out) | exact HB.out))) : w.heap.size ≤ gb114)); have n6_ := Aside0.mk ((by rw [hg]; exact (below_size (by repeat (first | (with_reducible first | exact HB.out | apply below_alloc | apply pw_below_drewN | apply below_drew1 | refine below_set ?_ GE101.out) | exact HB.out))) : w.heap.size ≤ gb114)); have n7_ := Aside0.mk ((by rw [hg]; exact Nat.ne_of_lt (blk_lt (g := gb101) (o := .cells #[.int .i64 a0_0, .int .i64 a0_1, .int .i64 a0_2, .slice A0_3 l0_3.length c0_3, .slice A0_4 l0_4.length c0_4] 30 (0, 0)) (by (with_reducible repeat (first | refine blk_drewN ?_ _ | refine blk_drew ?_ | refine blk_alloc ?_ _)); exact BK101.out)) : gb101 ≠ gb114)); have n8_ := Aside0.mk ((by rw [hg]; exact Nat.ne_of_gt (blk_lt (g := gb101) (o := .cells #[.int .i64 a0_0, .int .i64 a0_1, .int .i64 a0_2, .slice A0_3 l0_3.length c0_3, .slice A0_4 l0_4.length c0_4] 30 (0, 0)) (by (with_reducible repeat (first | refine blk_drewN ?_ _ | refine blk_drew ?_ | refine blk_alloc ?_ _)); exact BK101.out)) : gb114 ≠ gb101)); clear HO110; clear HO113; clear BK101; clear HB; have HO110 := n0_; have HO113 := n1_; have BK101 := n2_; have HB := n3_; have BK114 := n4_; have GW114 := n5_; have GE114 := n6_; have NB101_114 := n7_; have NB114_101 := n8_; clear n0_ n1_ n2_ n3_ n4_ n5_ n6_ n7_ n8_; clear hb hbox hg; have hnb59 := NB114_101.out; have hnc59 := NB101_114.out; have hcz60_0 : w58.cell? ⟨gb114, 0, none⟩ = some (.int .i64 0) := (blk_cell BK114.out 0).trans rfl; have hcz60_1 : w58.cell? ⟨gb114, 1, none⟩ = some (.int .i64 0) := (blk_cell BK114.out 1).trans rfl; have hcz60_2 : w58.cell? ⟨gb114, 2, none⟩ = some (.int .i64 0) := (blk_cell BK114.out 2).trans rfl; have hcz60_3 : w58.cell? ⟨gb114, 3, none⟩ = some (.slice none 0 0) := (blk_cell BK114.out 3).trans rfl; have hcz60_4 : w58.cell? ⟨gb114, 4, none⟩ = some (.slice none 0 0) := (blk_cell BK114.out 4).trans rfl; have hfz60_0 := blk_frozen BK114.out 0; have hfz60_1 := blk_frozen BK114.out 1; have hfz60_2 := blk_frozen BK114.out 2; have hfz60_3 := blk_frozen BK114.out 3; have hfz60_4 := blk_frozen BK114.out 4; obtain ⟨Ao61, co61, eo61⟩ := Kd.R_slice HO110.out; subst eo61; obtain ⟨Ao62, co62, eo62⟩ := Kd.R_slice HO113.out; subst eo62) | ((with_reducible refine gate_callee (f := 24) rfl ?_); refine goesL_ (some 18) rfl rfl Tryd.func24 (by kernel_rfl) rfl #[.agg #[.int .i64 t105, .int .i64 t106, .int .i64 t107, .slice Ao61 t108.length co61, .slice Ao62 t111.length co62]] rfl (by (try simp only [List.map_toArray, List.map_cons, List.map_nil]); first | done | rfl | (simp only [List.length_drop, List.length_take]; rfl)) ?_; (with_reducible refine (canonsize_Object.calls kj1 t105 t106 t107 _ _ t108 _ _ t111 t115 _ ?side1 ?side2 ?side3 ?side4 ?side5 A15.out).mono ?_); (case side1 => exact GLB.below HGLB.out (by repeat (first | (with_reducible first | exact HB.out | apply below_alloc | apply pw_below_drewN | apply below_drew1 | refine below_set ?_ GE101.out | refine below_set ?_ GE114.out) | exact HB.out))); (case side2 => refine (Kd.R_reads' (e := 5) (base := w.heap.size) (ok := fun k_ => True) (n := t108.length) (c := co61) ?_).2.2; exact (by (with_reducible repeat (first | apply Kd.R_alloc | apply Kd.R_drewN | apply Kd.R_drew)); exact (Kd.R_mono (Kd.R_far (p := ⟨gb114, 4, none⟩) (Kd.R_far (p := ⟨gb114, 3, none⟩) (Kd.R_far (p := ⟨gb114, 2, none⟩) (Kd.R_far (p := ⟨gb114, 1, none⟩) (Kd.R_far (p := ⟨gb114, 0, none⟩) (Kd.R_types HO110.out BK114.out (by decide)) (fun _ hk => hk.2) (.int .i64 t105)) (fun _ hk => hk.2) (.int .i64 t106)) (fun _ hk => hk.2) (.int .i64 t107)) (fun _ hk => hk.2) (.slice Ao61 t108.length co61)) (fun _ hk => hk.2) (.slice Ao62 t111.length co62)) (fun _ h_ => h_.1)))); (case side3 => exact (Kd.R_reads' HO110.out).2.1); (case side4 => refine (Kd.R_reads' (e := 30) (base := w.heap.size) (ok := fun k_ => ((some k_ ≠ (.slice Ao61 t108.length co61 : Value).ownBlock ∧ k_ ≠ gb101) ∧ k_ ≠ gb114)) (n := t111.length) (c := co62) ?_).2.2; exact (by (with_reducible repeat (first | apply Kd.R_alloc | apply Kd.R_drewN | apply Kd.R_drew)); exact (Kd.R_mono (Kd.R_far (p := ⟨gb114, 4, none⟩) (Kd.R_far (p := ⟨gb114, 3, none⟩) (Kd.R_far (p := ⟨gb114, 2, none⟩) (Kd.R_far (p := ⟨gb114, 1, none⟩) (Kd.R_far (p := ⟨gb114, 0, none⟩) (Kd.R_mono HO113.out (fun k_ hk => (⟨hk, hk.2⟩ : _ ∧ k_ ≠ gb114))) (fun _ hk => hk.2) (.int .i64 t105)) (fun _ hk => hk.2) (.int .i64 t106)) (fun _ hk => hk.2) (.int .i64 t107)) (fun _ hk => hk.2) (.slice Ao61 t108.length co61)) (fun _ hk => hk.2) (.slice Ao62 t111.length co62)) (fun _ h_ => h_.1)))); (case side5 => exact (Kd.R_reads' HO113.out).2.1); rintro e w63 ⟨rfl, hb⟩; refine ⟨_, rfl, ?_⟩; have n0_ := Aside0.mk (Kd.R_below (by (with_reducible repeat (first | apply Kd.R_alloc | apply Kd.R_drewN | apply Kd.R_drew)); exact (Kd.R_mono (Kd.R_far (p := ⟨gb114, 4, none⟩) (Kd.R_far (p := ⟨gb114, 3, none⟩) (Kd.R_far (p := ⟨gb114, 2, none⟩) (Kd.R_far (p := ⟨gb114, 1, none⟩) (Kd.R_far (p := ⟨gb114, 0, none⟩) (Kd.R_types HO110.out BK114.out (by decide)) (fun _ hk => hk.2) (.int .i64 t105)) (fun _ hk => hk.2) (.int .i64 t106)) (fun _ hk => hk.2) (.int .i64 t107)) (fun _ hk => hk.2) (.slice Ao61 t108.length co61)) (fun _ hk => hk.2) (.slice Ao62 t111.length co62)) (fun _ h_ => h_.1))) hb); have n1_ := Aside0.mk (Kd.R_below (by (with_reducible repeat (first | apply Kd.R_alloc | apply Kd.R_drewN | apply Kd.R_drew)); exact (Kd.R_mono (Kd.R_far (p := ⟨gb114, 4, none⟩) (Kd.R_far (p := ⟨gb114, 3, none⟩) (Kd.R_far (p := ⟨gb114, 2, none⟩) (Kd.R_far (p := ⟨gb114, 1, none⟩) (Kd.R_far (p := ⟨gb114, 0, none⟩) (Kd.R_mono HO113.out (fun k_ hk => (⟨hk, hk.2⟩ : _ ∧ k_ ≠ gb114))) (fun _ hk => hk.2) (.int .i64 t105)) (fun _ hk => hk.2) (.int .i64 t106)) (fun _ hk => hk.2) (.int .i64 t107)) (fun _ hk => hk.2) (.slice Ao61 t108.length co61)) (fun _ hk => hk.2) (.slice Ao62 t111.length co62)) (fun _ h_ => h_.1))) hb); have n2_ := Aside0.mk (blk_below (g := gb101) (o := .cells #[.int .i64 a0_0, .int .i64 a0_1, .int .i64 a0_2, .slice A0_3 l0_3.length c0_3, .slice A0_4 l0_4.length c0_4] 30 (0, 0)) (by (with_reducible repeat (first | refine blk_drewN ?_ _ | refine blk_drew ?_ | refine blk_alloc ?_ _)); refine blk_far ?_ NB101_114.out _; (with_reducible repeat (first | refine blk_drewN ?_ _ | refine blk_drew ?_ | refine blk_alloc ?_ _)); refine blk_far ?_ NB101_114.out _; (with_reducible repeat (first | refine blk_drewN ?_ _ | refine blk_drew ?_ | refine blk_alloc ?_ _)); refine blk_far ?_ NB101_114.out _; (with_reducible repeat (first | refine blk_drewN ?_ _ | refine blk_drew ?_ | refine blk_alloc ?_ _)); refine blk_far ?_ NB101_114.out _; (with_reducible repeat (first | refine blk_drewN ?_ _ | refine blk_drew ?_ | refine blk_alloc ?_ _)); refine blk_far ?_ NB101_114.out _; (with_reducible repeat (first | refine blk_drewN ?_ _ | refine blk_drew ?_ | refine blk_alloc ?_ _)); exact BK101.out) hb); have n3_ := Aside0.mk (blk_below (g := gb114) (o := .cells #[.int .i64 t105, .int .i64 t106, .int .i64 t107, .slice Ao61 t108.length co61, .slice Ao62 t111.length co62] 30 (0, 0)) (by (with_reducible repeat (first | refine blk_drewN ?_ _ | refine blk_drew ?_ | refine blk_alloc ?_ _)); refine blk_put (cs := #[.int .i64 t105, .int .i64 t106, .int .i64 t107, .slice Ao61 t108.length co61, .slice none 0 0]) ?_ 4 _ rfl; (with_reducible repeat (first | refine blk_drewN ?_ _ | refine blk_drew ?_ | refine blk_alloc ?_ _)); refine blk_put (cs := #[.int .i64 t105, .int .i64 t106, .int .i64 t107, .slice none 0 0, .slice none 0 0]) ?_ 3 _ rfl; (with_reducible repeat (first | refine blk_drewN ?_ _ | refine blk_drew ?_ | refine blk_alloc ?_ _)); refine blk_put (cs := #[.int .i64 t105, .int .i64 t106, .int .i64 0, .slice none 0 0, .slice none 0 0]) ?_ 2 _ rfl; (with_reducible repeat (first | refine blk_drewN ?_ _ | refine blk_drew ?_ | refine blk_alloc ?_ _)); refine blk_put (cs := #[.int .i64 t105, .int .i64 0, .int .i64 0, .slice none 0 0, .slice none 0 0]) ?_ 1 _ rfl; (with_reducible repeat (first | refine blk_drewN ?_ _ | refine blk_drew ?_ | refine blk_alloc ?_ _)); refine blk_put (cs := #[.int .i64 0, .int .i64 0, .int .i64 0, .slice none 0 0, .slice none 0 0]) ?_ 0 _ rfl; (with_reducible repeat (first | refine blk_drewN ?_ _ | refine blk_drew ?_ | refine blk_alloc ?_ _)); exact BK114.out) hb); have n4_ := Aside0.mk (below_step (by repeat (first | (with_reducible first | exact HB.out | apply below_alloc | apply pw_below_drewN | apply below_drew1 | refine below_set ?_ GE101.out | refine below_set ?_ GE114.out) | exact HB.out)) hb); clear HO110; clear HO113; clear BK101; clear BK114; clear HB; have HO110 := n0_; have HO113 := n1_; have BK101 := n2_; have BK114 := n3_; have HB := n4_; clear n0_ n1_ n2_ n3_ n4_; (try clear hb); (try clear hb2); (try clear hk); (try clear hi); have hcz64_0 : w63.cell? ⟨gb114, 0, none⟩ = some (.int .i64 t105) := (blk_cell BK114.out 0).trans rfl; have hcz64_1 : w63.cell? ⟨gb114, 1, none⟩ = some (.int .i64 t106) := (blk_cell BK114.out 1).trans rfl; have hcz64_2 : w63.cell? ⟨gb114, 2, none⟩ = some (.int .i64 t107) := (blk_cell BK114.out 2).trans rfl; have hcz64_3 : w63.cell? ⟨gb114, 3, none⟩ = some (.slice Ao61 t108.length co61) := (blk_cell BK114.out 3).trans rfl; have hcz64_4 : w63.cell? ⟨gb114, 4, none⟩ = some (.slice Ao62 t111.length co62) := (blk_cell BK114.out 4).trans rfl; have hfz64_0 := blk_frozen BK114.out 0; have hfz64_1 := blk_frozen BK114.out 1; have hfz64_2 := blk_frozen BK114.out 2; have hfz64_3 := blk_frozen BK114.out 3; have hfz64_4 := blk_frozen BK114.out 4) | ((with_reducible refine gate_callee (f := 21) rfl ?_); refine goesL_ (some 20) rfl rfl Tryd.func21 (by kernel_rfl) rfl #[.agg #[.int .i64 t105, .int .i64 t106, .int .i64 t107, .slice Ao61 t108.length co61, .slice Ao62 t111.length co62]] rfl (by (try simp only [List.map_toArray, List.map_cons, List.map_nil]); first | done | rfl | (simp only [List.length_drop, List.length_take]; rfl)) ?_; (with_reducible refine (canonsize_Node.calls kj1 t105 t106 t107 _ _ t108 _ _ t111 t116 _ ?side1 ?side2 ?side3 ?side4 ?side5 A16.out).mono ?_); (case side1 => exact GLB.below HGLB.out (by repeat (first | (with_reducible first | exact HB.out | apply below_alloc | apply pw_below_drewN | apply below_drew1 | refine below_set ?_ GE101.out | refine below_set ?_ GE114.out) | exact HB.out))); (case side2 => repeat (first | exact (Kd.R_reads' HO110.out).2.2 | (with_reducible refine Kd.C_alloc ?_ _) | (with_reducible refine Kd.C_drewN ?_ _) | (with_reducible refine Kd.C_drew ?_))); (case side3 => exact (Kd.R_reads' HO110.out).2.1); (case side4 => repeat (first | exact (Kd.R_reads' HO113.out).2.2 | (with_reducible refine Kd.C_alloc ?_ _) | (with_reducible refine Kd.C_drewN ?_ _) | (with_reducible refine Kd.C_drew ?_))); (case side5 => exact (Kd.R_reads' HO113.out).2.1); rintro e w65 ⟨rfl, hb⟩; refine ⟨_, rfl, ?_⟩; have n0_ := Aside0.mk (Kd.R_below (by (with_reducible repeat (first | apply Kd.R_alloc | apply Kd.R_drewN | apply Kd.R_drew)); exact HO110.out) hb); have n1_ := Aside0.mk (Kd.R_below (by (with_reducible repeat (first | apply Kd.R_alloc | apply Kd.R_drewN | apply Kd.R_drew)); exact HO113.out) hb); have n2_ := Aside0.mk (blk_below (g := gb101) (o := .cells #[.int .i64 a0_0, .int .i64 a0_1, .int .i64 a0_2, .slice A0_3 l0_3.length c0_3, .slice A0_4 l0_4.length c0_4] 30 (0, 0)) (by (with_reducible repeat (first | refine blk_drewN ?_ _ | refine blk_drew ?_ | refine blk_alloc ?_ _)); exact BK101.out) hb); have n3_ := Aside0.mk (blk_below (g := gb114) (o := .cells #[.int .i64 t105, .int .i64 t106, .int .i64 t107, .slice Ao61 t108.length co61, .slice Ao62 t111.length co62] 30 (0, 0)) (by (with_reducible repeat (first | refine blk_drewN ?_ _ | refine blk_drew ?_ | refine blk_alloc ?_ _)); exact BK114.out) hb); have n4_ := Aside0.mk (below_step (by repeat (first | (with_reducible first | exact HB.out | apply below_alloc | apply pw_below_drewN | apply below_drew1 | refine below_set ?_ GE101.out | refine below_set ?_ GE114.out) | exact HB.out)) hb); clear HO110; clear HO113; clear BK101; clear BK114; clear HB; have HO110 := n0_; have HO113 := n1_; have BK101 := n2_; have BK114 := n3_; have HB := n4_; clear n0_ n1_ n2_ n3_ n4_; (try clear hb); (try clear hb2); (try clear hk); (try clear hi); have hcz66_0 : w65.cell? ⟨gb114, 0, none⟩ = some (.int .i64 t105) := (blk_cell BK114.out 0).trans rfl; have hcz66_1 : w65.cell? ⟨gb114, 1, none⟩ = some (.int .i64 t106) := (blk_cell BK114.out 1).trans rfl; have hcz66_2 : w65.cell? ⟨gb114, 2, none⟩ = some (.int .i64 t107) := (blk_cell BK114.out 2).trans rfl; have hcz66_3 : w65.cell? ⟨gb114, 3, none⟩ = some (.slice Ao61 t108.length co61) := (blk_cell BK114.out 3).trans rfl; have hcz66_4 : w65.cell? ⟨gb114, 4, none⟩ = some (.slice Ao62 t111.length co62) := (blk_cell BK114.out 4).trans rfl; have hfz66_0 := blk_frozen BK114.out 0; have hfz66_1 := blk_frozen BK114.out 1; have hfz66_2 := blk_frozen BK114.out 2; have hfz66_3 := blk_frozen BK114.out 3; have hfz66_4 := blk_frozen BK114.out 4) | ((with_reducible refine gate_callee (f := 22) rfl ?_); refine goesL_ (some 22) rfl rfl Tryd.func22 (by kernel_rfl) rfl #[.agg #[.int .i64 t105, .int .i64 t106, .int .i64 t107, .slice Ao61 t108.length co61, .slice Ao62 t111.length co62]] rfl (by (try simp only [List.map_toArray, List.map_cons, List.map_nil]); first | done | rfl | (simp only [List.length_drop, List.length_take]; rfl)) ?_; (with_reducible refine (canonsize_Total.calls kj1 t105 t106 t107 _ _ t108 _ _ t111 t117 _ ?side1 ?side2 ?side3 ?side4 ?side5 A17.out).mono ?_); (case side1 => exact GLB.below HGLB.out (by repeat (first | (with_reducible first | exact HB.out | apply below_alloc | apply pw_below_drewN | apply below_drew1 | refine below_set ?_ GE101.out | refine below_set ?_ GE114.out) | exact HB.out))); (case side2 => repeat (first | exact (Kd.R_reads' HO110.out).2.2 | (with_reducible refine Kd.C_alloc ?_ _) | (with_reducible refine Kd.C_drewN ?_ _) | (with_reducible refine Kd.C_drew ?_))); (case side3 => exact (Kd.R_reads' HO110.out).2.1); (case side4 => repeat (first | exact (Kd.R_reads' HO113.out).2.2 | (with_reducible refine Kd.C_alloc ?_ _) | (with_reducible refine Kd.C_drewN ?_ _) | (with_reducible refine Kd.C_drew ?_))); (case side5 => exact (Kd.R_reads' HO113.out).2.1); rintro e w67 ⟨rfl, hb⟩; refine ⟨_, rfl, ?_⟩; have n0_ := Aside0.mk (Kd.R_below (by (with_reducible repeat (first | apply Kd.R_alloc | apply Kd.R_drewN | apply Kd.R_drew)); exact HO110.out) hb); have n1_ := Aside0.mk (Kd.R_below (by (with_reducible repeat (first | apply Kd.R_alloc | apply Kd.R_drewN | apply Kd.R_drew)); exact HO113.out) hb); have n2_ := Aside0.mk (blk_below (g := gb101) (o := .cells #[.int .i64 a0_0, .int .i64 a0_1, .int .i64 a0_2, .slice A0_3 l0_3.length c0_3, .slice A0_4 l0_4.length c0_4] 30 (0, 0)) (by (with_reducible repeat (first | refine blk_drewN ?_ _ | refine blk_drew ?_ | refine blk_alloc ?_ _)); exact BK101.out) hb); have n3_ := Aside0.mk (blk_below (g := gb114) (o := .cells #[.int .i64 t105, .int .i64 t106, .int .i64 t107, .slice Ao61 t108.length co61, .slice Ao62 t111.length co62] 30 (0, 0)) (by (with_reducible repeat (first | refine blk_drewN ?_ _ | refine blk_drew ?_ | refine blk_alloc ?_ _)); exact BK114.out) hb); have n4_ := Aside0.mk (below_step (by repeat (first | (with_reducible first | exact HB.out | apply below_alloc | apply pw_below_drewN | apply below_drew1 | refine below_set ?_ GE101.out | refine below_set ?_ GE114.out) | exact HB.out)) hb); clear HO110; clear HO113; clear BK101; clear BK114; clear HB; have HO110 := n0_; have HO113 := n1_; have BK101 := n2_; have BK114 := n3_; have HB := n4_; clear n0_ n1_ n2_ n3_ n4_; (try clear hb); (try clear hb2); (try clear hk); (try clear hi); have hcz68_0 : w67.cell? ⟨gb114, 0, none⟩ = some (.int .i64 t105) := (blk_cell BK114.out 0).trans rfl; have hcz68_1 : w67.cell? ⟨gb114, 1, none⟩ = some (.int .i64 t106) := (blk_cell BK114.out 1).trans rfl; have hcz68_2 : w67.cell? ⟨gb114, 2, none⟩ = some (.int .i64 t107) := (blk_cell BK114.out 2).trans rfl; have hcz68_3 : w67.cell? ⟨gb114, 3, none⟩ = some (.slice Ao61 t108.length co61) := (blk_cell BK114.out 3).trans rfl; have hcz68_4 : w67.cell? ⟨gb114, 4, none⟩ = some (.slice Ao62 t111.length co62) := (blk_cell BK114.out 4).trans rfl; have hfz68_0 := blk_frozen BK114.out 0; have hfz68_1 := blk_frozen BK114.out 1; have hfz68_2 := blk_frozen BK114.out 2; have hfz68_3 := blk_frozen BK114.out 3; have hfz68_4 := blk_frozen BK114.out 4; have hcz69_0 : w67.cell? ⟨gb101, 0, none⟩ = some (.int .i64 a0_0) := (blk_cell BK101.out 0).trans rfl; have hcz69_1 : w67.cell? ⟨gb101, 1, none⟩ = some (.int .i64 a0_1) := (blk_cell BK101.out 1).trans rfl; have hcz69_2 : w67.cell? ⟨gb101, 2, none⟩ = some (.int .i64 a0_2) := (blk_cell BK101.out 2).trans rfl; have hcz69_3 : w67.cell? ⟨gb101, 3, none⟩ = some (.slice A0_3 l0_3.length c0_3) := (blk_cell BK101.out 3).trans rfl; have hcz69_4 : w67.cell? ⟨gb101, 4, none⟩ = some (.slice A0_4 l0_4.length c0_4) := (blk_cell BK101.out 4).trans rfl; have hfz69_0 := blk_frozen BK101.out 0; have hfz69_1 := blk_frozen BK101.out 1; have hfz69_2 := blk_frozen BK101.out 2; have hfz69_3 := blk_frozen BK101.out 3; have hfz69_4 := blk_frozen BK101.out 4) | ((with_reducible refine gate_callee (f := 25) rfl ?_); refine goesL_ (some 25) rfl rfl Tryd.func25 (by kernel_rfl) rfl #[.agg #[.int .i64 t105, .int .i64 t106, .int .i64 t107, .slice Ao61 t108.length co61, .slice Ao62 t111.length co62], .agg #[.int .i64 a0_0, .int .i64 a0_1, .int .i64 a0_2, .slice A0_3 l0_3.length c0_3, .slice A0_4 l0_4.length c0_4]] rfl (by (try simp only [List.map_toArray, List.map_cons, List.map_nil]); first | done | rfl | (simp only [List.length_drop, List.length_take]; rfl)) ?_; (with_reducible refine (capnpref10_Equal.calls kj1 t105 t106 t107 _ _ t108 _ _ t111 a0_0 a0_1 a0_2 _ _ l0_3 _ _ l0_4 true _ ?side1 ?side2 ?side3 ?side4 ?side5 ?side6 ?side7 ?side8 A18.out).mono ?_); (case side1 => repeat (first | exact (Kd.R_reads' HO110.out).2.2 | (with_reducible refine Kd.C_alloc ?_ _) | (with_reducible refine Kd.C_drewN ?_ _) | (with_reducible refine Kd.C_drew ?_))); (case side2 => exact (Kd.R_reads' HO110.out).2.1); (case side3 => repeat (first | exact (Kd.R_reads' HO113.out).2.2 | (with_reducible refine Kd.C_alloc ?_ _) | (with_reducible refine Kd.C_drewN ?_ _) | (with_reducible refine Kd.C_drew ?_))); (case side4 => exact (Kd.R_reads' HO113.out).2.1); (case side5 => repeat (first | exact (Kd.C_below HR0_3.out HB.out) | (with_reducible refine Kd.C_alloc ?_ _) | (with_reducible refine Kd.C_drewN ?_ _) | (with_reducible refine Kd.C_drew ?_))); (case side6 => exact HC0_3.out); (case side7 => repeat (first | exact (Kd.C_below HR0_4.out HB.out) | (with_reducible refine Kd.C_alloc ?_ _) | (with_reducible refine Kd.C_drewN ?_ _) | (with_reducible refine Kd.C_drew ?_))); (case side8 => exact HC0_4.out); rintro e w70 ⟨rfl, hb⟩; refine ⟨_, rfl, ?_⟩; have n0_ := Aside0.mk (Kd.R_below (by (with_reducible repeat (first | apply Kd.R_alloc | apply Kd.R_drewN | apply Kd.R_drew)); exact HO110.out) hb); have n1_ := Aside0.mk (Kd.R_below (by (with_reducible repeat (first | apply Kd.R_alloc | apply Kd.R_drewN | apply Kd.R_drew)); exact HO113.out) hb); have n2_ := Aside0.mk (blk_below (g := gb101) (o := .cells #[.int .i64 a0_0, .int .i64 a0_1, .int .i64 a0_2, .slice A0_3 l0_3.length c0_3, .slice A0_4 l0_4.length c0_4] 30 (0, 0)) (by (with_reducible repeat (first | refine blk_drewN ?_ _ | refine blk_drew ?_ | refine blk_alloc ?_ _)); exact BK101.out) hb); have n3_ := Aside0.mk (blk_below (g := gb114) (o := .cells #[.int .i64 t105, .int .i64 t106, .int .i64 t107, .slice Ao61 t108.length co61, .slice Ao62 t111.length co62] 30 (0, 0)) (by (with_reducible repeat (first | refine blk_drewN ?_ _ | refine blk_drew ?_ | refine blk_alloc ?_ _)); exact BK114.out) hb); have n4_ := Aside0.mk (below_step (by repeat (first | (with_reducible first | exact HB.out | apply below_alloc | apply pw_below_drewN | apply below_drew1 | refine below_set ?_ GE101.out | refine below_set ?_ GE114.out) | exact HB.out)) hb); clear HO110; clear HO113; clear BK101; clear BK114; clear HB; have HO110 := n0_; have HO113 := n1_; have BK101 := n2_; have BK114 := n3_; have HB := n4_; clear n0_ n1_ n2_ n3_ n4_; (try clear hb); (try clear hb2); (try clear hk); (try clear hi)))
              go_ret
              exact ⟨by first | rfl | (simp [errW_none, errW_some] <;> rfl) | (simp [*, errW_none, errW_some] <;> rfl), by repeat (first | (with_reducible first | exact HB.out | apply below_alloc | apply pw_below_drewN | apply below_drew1 | refine below_set ?_ GE101.out | refine below_set ?_ GE114.out) | exact HB.out)⟩
          · rw [if_neg c20] at H
            have c20b0 : decide (0 ≤ t115) = false := decide_eq_false c20
            clear c20
            obtain rfl := Option.some.inj H
            have hcz71_0 : wc.cell? ⟨gb101, 0, none⟩ = some (.int .i64 a0_0) := (blk_cell BK101.out 0).trans rfl
            have hcz71_1 : wc.cell? ⟨gb101, 1, none⟩ = some (.int .i64 a0_1) := (blk_cell BK101.out 1).trans rfl
            have hcz71_2 : wc.cell? ⟨gb101, 2, none⟩ = some (.int .i64 a0_2) := (blk_cell BK101.out 2).trans rfl
            have hcz71_3 : wc.cell? ⟨gb101, 3, none⟩ = some (.slice A0_3 l0_3.length c0_3) := (blk_cell BK101.out 3).trans rfl
            have hcz71_4 : wc.cell? ⟨gb101, 4, none⟩ = some (.slice A0_4 l0_4.length c0_4) := (blk_cell BK101.out 4).trans rfl
            have hfz71_0 := blk_frozen BK101.out 0
            have hfz71_1 := blk_frozen BK101.out 1
            have hfz71_2 := blk_frozen BK101.out 2
            have hfz71_3 := blk_frozen BK101.out 3
            have hfz71_4 := blk_frozen BK101.out 4
            go_wp2_with (first | ((with_reducible refine gate_callee (f := 23) rfl ?_); refine goesL_ (some 16) rfl rfl Tryd.func23 (by kernel_rfl) rfl #[.agg #[.int .i64 a0_0, .int .i64 a0_1, .int .i64 a0_2, .slice A0_3 l0_3.length c0_3, .slice A0_4 l0_4.length c0_4]] rfl (by (try simp only [List.map_toArray, List.map_cons, List.map_nil]); first | done | rfl | (simp only [List.length_drop, List.length_take]; rfl)) ?_; (with_reducible refine (capnpref10_Copy.calls kj1 a0_0 a0_1 a0_2 _ _ l0_3 _ _ l0_4 t105 t106 t107 t108 t111 _ ?side1 ?side2 ?side3 ?side4 A14.out).mono ?_); (case side1 => repeat (first | exact (Kd.C_below HR0_3.out HB.out) | (with_reducible refine Kd.C_alloc ?_ _) | (with_reducible refine Kd.C_drewN ?_ _) | (with_reducible refine Kd.C_drew ?_))); (case side2 => exact HC0_3.out); (case side3 => repeat (first | exact (Kd.C_below HR0_4.out HB.out) | (with_reducible refine Kd.C_alloc ?_ _) | (with_reducible refine Kd.C_drewN ?_ _) | (with_reducible refine Kd.C_drew ?_))); (case side4 => exact HC0_4.out); rintro e w72 ⟨v109, v112, rfl, ho0, ho1, hb⟩; refine ⟨_, rfl, ?_⟩; have n0_ := Aside0.mk (Kd.R_lower ho0 (below_size (by repeat (first | (with_reducible first | exact HB.out | apply below_alloc | apply pw_below_drewN | apply below_drew1 | refine below_set ?_ GE101.out) | exact HB.out)))); have n1_ := Aside0.mk (Kd.R_lower (Kd.R_newB ho1 (g := gb101) (o := .cells #[.int .i64 a0_0, .int .i64 a0_1, .int .i64 a0_2, .slice A0_3 l0_3.length c0_3, .slice A0_4 l0_4.length c0_4] 30 (0, 0)) (by (with_reducible repeat (first | refine blk_drewN ?_ _ | refine blk_drew ?_ | refine blk_alloc ?_ _)); exact BK101.out)) (below_size (by repeat (first | (with_reducible first | exact HB.out | apply below_alloc | apply pw_below_drewN | apply below_drew1 | refine below_set ?_ GE101.out) | exact HB.out)))); have n2_ := Aside0.mk (blk_below (g := gb101) (o := .cells #[.int .i64 a0_0, .int .i64 a0_1, .int .i64 a0_2, .slice A0_3 l0_3.length c0_3, .slice A0_4 l0_4.length c0_4] 30 (0, 0)) (by (with_reducible repeat (first | refine blk_drewN ?_ _ | refine blk_drew ?_ | refine blk_alloc ?_ _)); exact BK101.out) hb); have n3_ := Aside0.mk (below_step (by repeat (first | (with_reducible first | exact HB.out | apply below_alloc | apply pw_below_drewN | apply below_drew1 | refine below_set ?_ GE101.out) | exact HB.out)) hb); clear BK101; clear HB; have HO110 := n0_; have HO113 := n1_; have BK101 := n2_; have HB := n3_; clear n0_ n1_ n2_ n3_; (try clear hb); (try clear hb2); (try clear hk); (try clear hi); (try clear ho0); (try clear ho1)) | ((with_reducible refine gate_dst (N := 3) rfl ?_); refine box_event ?hg (N := 3) ?hd (cs := #[.int .i64 0, .int .i64 0, .int .i64 0, .slice none 0 0, .slice none 0 0]) (t := 30) ?hr ?_; (case hd => rfl); (case hg => rfl); (case hr => first | (go_simp; done) | (go_simp; rfl)); intro gb114 hg w73 hbox hb; have n0_ := Aside0.mk (Kd.R_below (by (with_reducible repeat (first | apply Kd.R_alloc | apply Kd.R_drewN | apply Kd.R_drew)); exact HO110.out) hb); have n1_ := Aside0.mk (Kd.R_below (Kd.R_elderB (by (with_reducible repeat (first | apply Kd.R_alloc | apply Kd.R_drewN | apply Kd.R_drew)); exact HO113.out) gb114 (Nat.le_of_eq hg.symm)) hb); have n2_ := Aside0.mk (blk_below (g := gb101) (o := .cells #[.int .i64 a0_0, .int .i64 a0_1, .int .i64 a0_2, .slice A0_3 l0_3.length c0_3, .slice A0_4 l0_4.length c0_4] 30 (0, 0)) (by (with_reducible repeat (first | refine blk_drewN ?_ _ | refine blk_drew ?_ | refine blk_alloc ?_ _)); exact BK101.out) hb); have n3_ := Aside0.mk (below_step (by repeat (first | (with_reducible first | exact HB.out | apply below_alloc | apply pw_below_drewN | apply below_drew1 | refine below_set ?_ GE101.out) | exact HB.out)) hb); have n4_ := Aside0.mk (hbox); have n5_ := Aside0.mk ((by rw [hg]; exact (below_size (by repeat (first | (with_reducible first | exact HB.out | apply below_alloc | apply pw_below_drewN | apply below_drew1 | refine below_set ?_ GE101.out) | exact HB.out))) : w.heap.size ≤ gb114)); have n6_ := Aside0.mk ((by rw [hg]; exact (below_size (by repeat (first | (with_reducible first | exact HB.out | apply below_alloc | apply pw_below_drewN | apply below_drew1 | refine below_set ?_ GE101.out) | exact HB.out))) : w.heap.size ≤ gb114)); have n7_ := Aside0.mk ((by rw [hg]; exact Nat.ne_of_lt (blk_lt (g := gb101) (o := .cells #[.int .i64 a0_0, .int .i64 a0_1, .int .i64 a0_2, .slice A0_3 l0_3.length c0_3, .slice A0_4 l0_4.length c0_4] 30 (0, 0)) (by (with_reducible repeat (first | refine blk_drewN ?_ _ | refine blk_drew ?_ | refine blk_alloc ?_ _)); exact BK101.out)) : gb101 ≠ gb114)); have n8_ := Aside0.mk ((by rw [hg]; exact Nat.ne_of_gt (blk_lt (g := gb101) (o := .cells #[.int .i64 a0_0, .int .i64 a0_1, .int .i64 a0_2, .slice A0_3 l0_3.length c0_3, .slice A0_4 l0_4.length c0_4] 30 (0, 0)) (by (with_reducible repeat (first | refine blk_drewN ?_ _ | refine blk_drew ?_ | refine blk_alloc ?_ _)); exact BK101.out)) : gb114 ≠ gb101)); clear HO110; clear HO113; clear BK101; clear HB; have HO110 := n0_; have HO113 := n1_; have BK101 := n2_; have HB := n3_; have BK114 := n4_; have GW114 := n5_; have GE114 := n6_; have NB101_114 := n7_; have NB114_101 := n8_; clear n0_ n1_ n2_ n3_ n4_ n5_ n6_ n7_ n8_; clear hb hbox hg; have hnb74 := NB114_101.out; have hnc74 := NB101_114.out; have hcz75_0 : w73.cell? ⟨gb114, 0, none⟩ = some (.int .i64 0) := (blk_cell BK114.out 0).trans rfl; have hcz75_1 : w73.cell? ⟨gb114, 1, none⟩ = some (.int .i64 0) := (blk_cell BK114.out 1).trans rfl; have hcz75_2 : w73.cell? ⟨gb114, 2, none⟩ = some (.int .i64 0) := (blk_cell BK114.out 2).trans rfl; have hcz75_3 : w73.cell? ⟨gb114, 3, none⟩ = some (.slice none 0 0) := (blk_cell BK114.out 3).trans rfl; have hcz75_4 : w73.cell? ⟨gb114, 4, none⟩ = some (.slice none 0 0) := (blk_cell BK114.out 4).trans rfl; have hfz75_0 := blk_frozen BK114.out 0; have hfz75_1 := blk_frozen BK114.out 1; have hfz75_2 := blk_frozen BK114.out 2; have hfz75_3 := blk_frozen BK114.out 3; have hfz75_4 := blk_frozen BK114.out 4; obtain ⟨Ao76, co76, eo76⟩ := Kd.R_slice HO110.out; subst eo76; obtain ⟨Ao77, co77, eo77⟩ := Kd.R_slice HO113.out; subst eo77) | ((with_reducible refine gate_callee (f := 24) rfl ?_); refine goesL_ (some 18) rfl rfl Tryd.func24 (by kernel_rfl) rfl #[.agg #[.int .i64 t105, .int .i64 t106, .int .i64 t107, .slice Ao76 t108.length co76, .slice Ao77 t111.length co77]] rfl (by (try simp only [List.map_toArray, List.map_cons, List.map_nil]); first | done | rfl | (simp only [List.length_drop, List.length_take]; rfl)) ?_; (with_reducible refine (canonsize_Object.calls kj1 t105 t106 t107 _ _ t108 _ _ t111 t115 _ ?side1 ?side2 ?side3 ?side4 ?side5 A15.out).mono ?_); (case side1 => exact GLB.below HGLB.out (by repeat (first | (with_reducible first | exact HB.out | apply below_alloc | apply pw_below_drewN | apply below_drew1 | refine below_set ?_ GE101.out | refine below_set ?_ GE114.out) | exact HB.out))); (case side2 => refine (Kd.R_reads' (e := 5) (base := w.heap.size) (ok := fun k_ => True) (n := t108.length) (c := co76) ?_).2.2; exact (by (with_reducible repeat (first | apply Kd.R_alloc | apply Kd.R_drewN | apply Kd.R_drew)); exact (Kd.R_mono (Kd.R_far (p := ⟨gb114, 4, none⟩) (Kd.R_far (p := ⟨gb114, 3, none⟩) (Kd.R_far (p := ⟨gb114, 2, none⟩) (Kd.R_far (p := ⟨gb114, 1, none⟩) (Kd.R_far (p := ⟨gb114, 0, none⟩) (Kd.R_types HO110.out BK114.out (by decide)) (fun _ hk => hk.2) (.int .i64 t105)) (fun _ hk => hk.2) (.int .i64 t106)) (fun _ hk => hk.2) (.int .i64 t107)) (fun _ hk => hk.2) (.slice Ao76 t108.length co76)) (fun _ hk => hk.2) (.slice Ao77 t111.length co77)) (fun _ h_ => h_.1)))); (case side3 => exact (Kd.R_reads' HO110.out).2.1); (case side4 => refine (Kd.R_reads' (e := 30) (base := w.heap.size) (ok := fun k_ => ((some k_ ≠ (.slice Ao76 t108.length co76 : Value).ownBlock ∧ k_ ≠ gb101) ∧ k_ ≠ gb114)) (n := t111.length) (c := co77) ?_).2.2; exact (by (with_reducible repeat (first | apply Kd.R_alloc | apply Kd.R_drewN | apply Kd.R_drew)); exact (Kd.R_mono (Kd.R_far (p := ⟨gb114, 4, none⟩) (Kd.R_far (p := ⟨gb114, 3, none⟩) (Kd.R_far (p := ⟨gb114, 2, none⟩) (Kd.R_far (p := ⟨gb114, 1, none⟩) (Kd.R_far (p := ⟨gb114, 0, none⟩) (Kd.R_mono HO113.out (fun k_ hk => (⟨hk, hk.2⟩ : _ ∧ k_ ≠ gb114))) (fun _ hk => hk.2) (.int .i64 t105)) (fun _ hk => hk.2) (.int .i64 t106)) (fun _ hk => hk.2) (.int .i64 t107)) (fun _ hk => hk.2) (.slice Ao76 t108.length co76)) (fun _ hk => hk.2) (.slice Ao77 t111.length co77)) (fun _ h_ => h_.1)))); (case side5 => exact (Kd.R_reads' HO113.out).2.1); rintro e w78 ⟨rfl, hb⟩; refine ⟨_, rfl, ?_⟩; have n0_ := Aside0.mk (Kd.R_below (by (with_reducible repeat (first | apply Kd.R_alloc | apply Kd.R_drewN | apply Kd.R_drew)); exact (Kd.R_mono (Kd.R_far (p := ⟨gb114, 4, none⟩) (Kd.R_far (p := ⟨gb114, 3, none⟩) (Kd.R_far (p := ⟨gb114, 2, none⟩) (Kd.R_far (p := ⟨gb114, 1, none⟩) (Kd.R_far (p := ⟨gb114, 0, none⟩) (Kd.R_types HO110.out BK114.out (by decide)) (fun _ hk => hk.2) (.int .i64 t105)) (fun _ hk => hk.2) (.int .i64 t106)) (fun _ hk => hk.2) (.int .i64 t107)) (fun _ hk => hk.2) (.slice Ao76 t108.length co76)) (fun _ hk => hk.2) (.slice Ao77 t111.length co77)) (fun _ h_ => h_.1))) hb); have n1_ := Aside0.mk (Kd.R_below (by (with_reducible repeat (first | apply Kd.R_alloc | apply Kd.R_drewN | apply Kd.R_drew)); exact (Kd.R_mono (Kd.R_far (p := ⟨gb114, 4, none⟩) (Kd.R_far (p := ⟨gb114, 3, none⟩) (Kd.R_far (p := ⟨gb114, 2, none⟩) (Kd.R_far (p := ⟨gb114, 1, none⟩) (Kd.R_far (p := ⟨gb114, 0, none⟩) (Kd.R_mono HO113.out (fun k_ hk => (⟨hk, hk.2⟩ : _ ∧ k_ ≠ gb114))) (fun _ hk => hk.2) (.int .i64 t105)) (fun _ hk => hk.2) (.int .i64 t106)) (fun _ hk => hk.2) (.int .i64 t107)) (fun _ hk => hk.2) (.slice Ao76 t108.length co76)) (fun _ hk => hk.2) (.slice Ao77 t111.length co77)) (fun _ h_ => h_.1))) hb); have n2_ := Aside0.mk (blk_below (g := gb101) (o := .cells #[.int .i64 a0_0, .int .i64 a0_1, .int .i64 a0_2, .slice A0_3 l0_3.length c0_3, .slice A0_4 l0_4.length c0_4] 30 (0, 0)) (by (with_reducible repeat (first | refine blk_drewN ?_ _ | refine blk_drew ?_ | refine blk_alloc ?_ _)); refine blk_far ?_ NB101_114.out _; (with_reducible repeat (first | refine blk_drewN ?_ _ | refine blk_drew ?_ | refine blk_alloc ?_ _)); refine blk_far ?_ NB101_114.out _; (with_reducible repeat (first | refine blk_drewN ?_ _ | refine blk_drew ?_ | refine blk_alloc ?_ _)); refine blk_far ?_ NB101_114.out _; (with_reducible repeat (first | refine blk_drewN ?_ _ | refine blk_drew ?_ | refine blk_alloc ?_ _)); refine blk_far ?_ NB101_114.out _; (with_reducible repeat (first | refine blk_drewN ?_ _ | refine blk_drew ?_ | refine blk_alloc ?_ _)); refine blk_far ?_ NB101_114.out _; (with_reducible repeat (first | refine blk_drewN ?_ _ | refine blk_drew ?_ | refine blk_alloc ?_ _)); exact BK101.out) hb); have n3_ := Aside0.mk (blk_below (g := gb114) (o := .cells #[.int .i64 t105, .int .i64 t106, .int .i64 t107, .slice Ao76 t108.length co76, .slice Ao77 t111.length co77] 30 (0, 0)) (by (with_reducible repeat (first | refine blk_drewN ?_ _ | refine blk_drew ?_ | refine blk_alloc ?_ _)); refine blk_put (cs := #[.int .i64 t105, .int .i64 t106, .int .i64 t107, .slice Ao76 t108.length co76, .slice none 0 0]) ?_ 4 _ rfl; (with_reducible repeat (first | refine blk_drewN ?_ _ | refine blk_drew ?_ | refine blk_alloc ?_ _)); refine blk_put (cs := #[.int .i64 t105, .int .i64 t106, .int .i64 t107, .slice none 0 0, .slice none 0 0]) ?_ 3 _ rfl; (with_reducible repeat (first | refine blk_drewN ?_ _ | refine blk_drew ?_ | refine blk_alloc ?_ _)); refine blk_put (cs := #[.int .i64 t105, .int .i64 t106, .int .i64 0, .slice none 0 0, .slice none 0 0]) ?_ 2 _ rfl; (with_reducible repeat (first | refine blk_drewN ?_ _ | refine blk_drew ?_ | refine blk_alloc ?_ _)); refine blk_put (cs := #[.int .i64 t105, .int .i64 0, .int .i64 0, .slice none 0 0, .slice none 0 0]) ?_ 1 _ rfl; (with_reducible repeat (first | refine blk_drewN ?_ _ | refine blk_drew ?_ | refine blk_alloc ?_ _)); refine blk_put (cs := #[.int .i64 0, .int .i64 0, .int .i64 0, .slice none 0 0, .slice none 0 0]) ?_ 0 _ rfl; (with_reducible repeat (first | refine blk_drewN ?_ _ | refine blk_drew ?_ | refine blk_alloc ?_ _)); exact BK114.out) hb); have n4_ := Aside0.mk (below_step (by repeat (first | (with_reducible first | exact HB.out | apply below_alloc | apply pw_below_drewN | apply below_drew1 | refine below_set ?_ GE101.out | refine below_set ?_ GE114.out) | exact HB.out)) hb); clear HO110; clear HO113; clear BK101; clear BK114; clear HB; have HO110 := n0_; have HO113 := n1_; have BK101 := n2_; have BK114 := n3_; have HB := n4_; clear n0_ n1_ n2_ n3_ n4_; (try clear hb); (try clear hb2); (try clear hk); (try clear hi); have hcz79_0 : w78.cell? ⟨gb114, 0, none⟩ = some (.int .i64 t105) := (blk_cell BK114.out 0).trans rfl; have hcz79_1 : w78.cell? ⟨gb114, 1, none⟩ = some (.int .i64 t106) := (blk_cell BK114.out 1).trans rfl; have hcz79_2 : w78.cell? ⟨gb114, 2, none⟩ = some (.int .i64 t107) := (blk_cell BK114.out 2).trans rfl; have hcz79_3 : w78.cell? ⟨gb114, 3, none⟩ = some (.slice Ao76 t108.length co76) := (blk_cell BK114.out 3).trans rfl; have hcz79_4 : w78.cell? ⟨gb114, 4, none⟩ = some (.slice Ao77 t111.length co77) := (blk_cell BK114.out 4).trans rfl; have hfz79_0 := blk_frozen BK114.out 0; have hfz79_1 := blk_frozen BK114.out 1; have hfz79_2 := blk_frozen BK114.out 2; have hfz79_3 := blk_frozen BK114.out 3; have hfz79_4 := blk_frozen BK114.out 4) | ((with_reducible refine gate_callee (f := 21) rfl ?_); refine goesL_ (some 20) rfl rfl Tryd.func21 (by kernel_rfl) rfl #[.agg #[.int .i64 t105, .int .i64 t106, .int .i64 t107, .slice Ao76 t108.length co76, .slice Ao77 t111.length co77]] rfl (by (try simp only [List.map_toArray, List.map_cons, List.map_nil]); first | done | rfl | (simp only [List.length_drop, List.length_take]; rfl)) ?_; (with_reducible refine (canonsize_Node.calls kj1 t105 t106 t107 _ _ t108 _ _ t111 t116 _ ?side1 ?side2 ?side3 ?side4 ?side5 A16.out).mono ?_); (case side1 => exact GLB.below HGLB.out (by repeat (first | (with_reducible first | exact HB.out | apply below_alloc | apply pw_below_drewN | apply below_drew1 | refine below_set ?_ GE101.out | refine below_set ?_ GE114.out) | exact HB.out))); (case side2 => repeat (first | exact (Kd.R_reads' HO110.out).2.2 | (with_reducible refine Kd.C_alloc ?_ _) | (with_reducible refine Kd.C_drewN ?_ _) | (with_reducible refine Kd.C_drew ?_))); (case side3 => exact (Kd.R_reads' HO110.out).2.1); (case side4 => repeat (first | exact (Kd.R_reads' HO113.out).2.2 | (with_reducible refine Kd.C_alloc ?_ _) | (with_reducible refine Kd.C_drewN ?_ _) | (with_reducible refine Kd.C_drew ?_))); (case side5 => exact (Kd.R_reads' HO113.out).2.1); rintro e w80 ⟨rfl, hb⟩; refine ⟨_, rfl, ?_⟩; have n0_ := Aside0.mk (Kd.R_below (by (with_reducible repeat (first | apply Kd.R_alloc | apply Kd.R_drewN | apply Kd.R_drew)); exact HO110.out) hb); have n1_ := Aside0.mk (Kd.R_below (by (with_reducible repeat (first | apply Kd.R_alloc | apply Kd.R_drewN | apply Kd.R_drew)); exact HO113.out) hb); have n2_ := Aside0.mk (blk_below (g := gb101) (o := .cells #[.int .i64 a0_0, .int .i64 a0_1, .int .i64 a0_2, .slice A0_3 l0_3.length c0_3, .slice A0_4 l0_4.length c0_4] 30 (0, 0)) (by (with_reducible repeat (first | refine blk_drewN ?_ _ | refine blk_drew ?_ | refine blk_alloc ?_ _)); exact BK101.out) hb); have n3_ := Aside0.mk (blk_below (g := gb114) (o := .cells #[.int .i64 t105, .int .i64 t106, .int .i64 t107, .slice Ao76 t108.length co76, .slice Ao77 t111.length co77] 30 (0, 0)) (by (with_reducible repeat (first | refine blk_drewN ?_ _ | refine blk_drew ?_ | refine blk_alloc ?_ _)); exact BK114.out) hb); have n4_ := Aside0.mk (below_step (by repeat (first | (with_reducible first | exact HB.out | apply below_alloc | apply pw_below_drewN | apply below_drew1 | refine below_set ?_ GE101.out | refine below_set ?_ GE114.out) | exact HB.out)) hb); clear HO110; clear HO113; clear BK101; clear BK114; clear HB; have HO110 := n0_; have HO113 := n1_; have BK101 := n2_; have BK114 := n3_; have HB := n4_; clear n0_ n1_ n2_ n3_ n4_; (try clear hb); (try clear hb2); (try clear hk); (try clear hi); have hcz81_0 : w80.cell? ⟨gb114, 0, none⟩ = some (.int .i64 t105) := (blk_cell BK114.out 0).trans rfl; have hcz81_1 : w80.cell? ⟨gb114, 1, none⟩ = some (.int .i64 t106) := (blk_cell BK114.out 1).trans rfl; have hcz81_2 : w80.cell? ⟨gb114, 2, none⟩ = some (.int .i64 t107) := (blk_cell BK114.out 2).trans rfl; have hcz81_3 : w80.cell? ⟨gb114, 3, none⟩ = some (.slice Ao76 t108.length co76) := (blk_cell BK114.out 3).trans rfl; have hcz81_4 : w80.cell? ⟨gb114, 4, none⟩ = some (.slice Ao77 t111.length co77) := (blk_cell BK114.out 4).trans rfl; have hfz81_0 := blk_frozen BK114.out 0; have hfz81_1 := blk_frozen BK114.out 1; have hfz81_2 := blk_frozen BK114.out 2; have hfz81_3 := blk_frozen BK114.out 3; have hfz81_4 := blk_frozen BK114.out 4) | ((with_reducible refine gate_callee (f := 22) rfl ?_); refine goesL_ (some 22) rfl rfl Tryd.func22 (by kernel_rfl) rfl #[.agg #[.int .i64 t105, .int .i64 t106, .int .i64 t107, .slice Ao76 t108.length co76, .slice Ao77 t111.length co77]] rfl (by (try simp only [List.map_toArray, List.map_cons, List.map_nil]); first | done | rfl | (simp only [List.length_drop, List.length_take]; rfl)) ?_; (with_reducible refine (canonsize_Total.calls kj1 t105 t106 t107 _ _ t108 _ _ t111 t117 _ ?side1 ?side2 ?side3 ?side4 ?side5 A17.out).mono ?_); (case side1 => exact GLB.below HGLB.out (by repeat (first | (with_reducible first | exact HB.out | apply below_alloc | apply pw_below_drewN | apply below_drew1 | refine below_set ?_ GE101.out | refine below_set ?_ GE114.out) | exact HB.out))); (case side2 => repeat (first | exact (Kd.R_reads' HO110.out).2.2 | (with_reducible refine Kd.C_alloc ?_ _) | (with_reducible refine Kd.C_drewN ?_ _) | (with_reducible refine Kd.C_drew ?_))); (case side3 => exact (Kd.R_reads' HO110.out).2.1); (case side4 => repeat (first | exact (Kd.R_reads' HO113.out).2.2 | (with_reducible refine Kd.C_alloc ?_ _) | (with_reducible refine Kd.C_drewN ?_ _) | (with_reducible refine Kd.C_drew ?_))); (case side5 => exact (Kd.R_reads' HO113.out).2.1); rintro e w82 ⟨rfl, hb⟩; refine ⟨_, rfl, ?_⟩; have n0_ := Aside0.mk (Kd.R_below (by (with_reducible repeat (first | apply Kd.R_alloc | apply Kd.R_drewN | apply Kd.R_drew)); exact HO110.out) hb); have n1_ := Aside0.mk (Kd.R_below (by (with_reducible repeat (first | apply Kd.R_alloc | apply Kd.R_drewN | apply Kd.R_drew)); exact HO113.out) hb); have n2_ := Aside0.mk (blk_below (g := gb101) (o := .cells #[.int .i64 a0_0, .int .i64 a0_1, .int .i64 a0_2, .slice A0_3 l0_3.length c0_3, .slice A0_4 l0_4.length c0_4] 30 (0, 0)) (by (with_reducible repeat (first | refine blk_drewN ?_ _ | refine blk_drew ?_ | refine blk_alloc ?_ _)); exact BK101.out) hb); have n3_ := Aside0.mk (blk_below (g := gb114) (o := .cells #[.int .i64 t105, .int .i64 t106, .int .i64 t107, .slice Ao76 t108.length co76, .slice Ao77 t111.length co77] 30 (0, 0)) (by (with_reducible repeat (first | refine blk_drewN ?_ _ | refine blk_drew ?_ | refine blk_alloc ?_ _)); exact BK114.out) hb); have n4_ := Aside0.mk (below_step (by repeat (first | (with_reducible first | exact HB.out | apply below_alloc | apply pw_below_drewN | apply below_drew1 | refine below_set ?_ GE101.out | refine below_set ?_ GE114.out) | exact HB.out)) hb); clear HO110; clear HO113; clear BK101; clear BK114; clear HB; have HO110 := n0_; have HO113 := n1_; have BK101 := n2_; have BK114 := n3_; have HB := n4_; clear n0_ n1_ n2_ n3_ n4_; (try clear hb); (try clear hb2); (try clear hk); (try clear hi); have hcz83_0 : w82.cell? ⟨gb114, 0, none⟩ = some (.int .i64 t105) := (blk_cell BK114.out 0).trans rfl; have hcz83_1 : w82.cell? ⟨gb114, 1, none⟩ = some (.int .i64 t106) := (blk_cell BK114.out 1).trans rfl; have hcz83_2 : w82.cell? ⟨gb114, 2, none⟩ = some (.int .i64 t107) := (blk_cell BK114.out 2).trans rfl; have hcz83_3 : w82.cell? ⟨gb114, 3, none⟩ = some (.slice Ao76 t108.length co76) := (blk_cell BK114.out 3).trans rfl; have hcz83_4 : w82.cell? ⟨gb114, 4, none⟩ = some (.slice Ao77 t111.length co77) := (blk_cell BK114.out 4).trans rfl; have hfz83_0 := blk_frozen BK114.out 0; have hfz83_1 := blk_frozen BK114.out 1; have hfz83_2 := blk_frozen BK114.out 2; have hfz83_3 := blk_frozen BK114.out 3; have hfz83_4 := blk_frozen BK114.out 4; have hcz84_0 : w82.cell? ⟨gb101, 0, none⟩ = some (.int .i64 a0_0) := (blk_cell BK101.out 0).trans rfl; have hcz84_1 : w82.cell? ⟨gb101, 1, none⟩ = some (.int .i64 a0_1) := (blk_cell BK101.out 1).trans rfl; have hcz84_2 : w82.cell? ⟨gb101, 2, none⟩ = some (.int .i64 a0_2) := (blk_cell BK101.out 2).trans rfl; have hcz84_3 : w82.cell? ⟨gb101, 3, none⟩ = some (.slice A0_3 l0_3.length c0_3) := (blk_cell BK101.out 3).trans rfl; have hcz84_4 : w82.cell? ⟨gb101, 4, none⟩ = some (.slice A0_4 l0_4.length c0_4) := (blk_cell BK101.out 4).trans rfl; have hfz84_0 := blk_frozen BK101.out 0; have hfz84_1 := blk_frozen BK101.out 1; have hfz84_2 := blk_frozen BK101.out 2; have hfz84_3 := blk_frozen BK101.out 3; have hfz84_4 := blk_frozen BK101.out 4) | ((with_reducible refine gate_callee (f := 25) rfl ?_); refine goesL_ (some 25) rfl rfl Tryd.func25 (by kernel_rfl) rfl #[.agg #[.int .i64 t105, .int .i64 t106, .int .i64 t107, .slice Ao76 t108.length co76, .slice Ao77 t111.length co77], .agg #[.int .i64 a0_0, .int .i64 a0_1, .int .i64 a0_2, .slice A0_3 l0_3.length c0_3, .slice A0_4 l0_4.length c0_4]] rfl (by (try simp only [List.map_toArray, List.map_cons, List.map_nil]); first | done | rfl | (simp only [List.length_drop, List.length_take]; rfl)) ?_; (with_reducible refine (capnpref10_Equal.calls kj1 t105 t106 t107 _ _ t108 _ _ t111 a0_0 a0_1 a0_2 _ _ l0_3 _ _ l0_4 true _ ?side1 ?side2 ?side3 ?side4 ?side5 ?side6 ?side7 ?side8 A18.out).mono ?_); (case side1 => repeat (first | exact (Kd.R_reads' HO110.out).2.2 | (with_reducible refine Kd.C_alloc ?_ _) | (with_reducible refine Kd.C_drewN ?_ _) | (with_reducible refine Kd.C_drew ?_))); (case side2 => exact (Kd.R_reads' HO110.out).2.1); (case side3 => repeat (first | exact (Kd.R_reads' HO113.out).2.2 | (with_reducible refine Kd.C_alloc ?_ _) | (with_reducible refine Kd.C_drewN ?_ _) | (with_reducible refine Kd.C_drew ?_))); (case side4 => exact (Kd.R_reads' HO113.out).2.1); (case side5 => repeat (first | exact (Kd.C_below HR0_3.out HB.out) | (with_reducible refine Kd.C_alloc ?_ _) | (with_reducible refine Kd.C_drewN ?_ _) | (with_reducible refine Kd.C_drew ?_))); (case side6 => exact HC0_3.out); (case side7 => repeat (first | exact (Kd.C_below HR0_4.out HB.out) | (with_reducible refine Kd.C_alloc ?_ _) | (with_reducible refine Kd.C_drewN ?_ _) | (with_reducible refine Kd.C_drew ?_))); (case side8 => exact HC0_4.out); rintro e w85 ⟨rfl, hb⟩; refine ⟨_, rfl, ?_⟩; have n0_ := Aside0.mk (Kd.R_below (by (with_reducible repeat (first | apply Kd.R_alloc | apply Kd.R_drewN | apply Kd.R_drew)); exact HO110.out) hb); have n1_ := Aside0.mk (Kd.R_below (by (with_reducible repeat (first | apply Kd.R_alloc | apply Kd.R_drewN | apply Kd.R_drew)); exact HO113.out) hb); have n2_ := Aside0.mk (blk_below (g := gb101) (o := .cells #[.int .i64 a0_0, .int .i64 a0_1, .int .i64 a0_2, .slice A0_3 l0_3.length c0_3, .slice A0_4 l0_4.length c0_4] 30 (0, 0)) (by (with_reducible repeat (first | refine blk_drewN ?_ _ | refine blk_drew ?_ | refine blk_alloc ?_ _)); exact BK101.out) hb); have n3_ := Aside0.mk (blk_below (g := gb114) (o := .cells #[.int .i64 t105, .int .i64 t106, .int .i64 t107, .slice Ao76 t108.length co76, .slice Ao77 t111.length co77] 30 (0, 0)) (by (with_reducible repeat (first | refine blk_drewN ?_ _ | refine blk_drew ?_ | refine blk_alloc ?_ _)); exact BK114.out) hb); have n4_ := Aside0.mk (below_step (by repeat (first | (with_reducible first | exact HB.out | apply below_alloc | apply pw_below_drewN | apply below_drew1 | refine below_set ?_ GE101.out | refine below_set ?_ GE114.out) | exact HB.out)) hb); clear HO110; clear HO113; clear BK101; clear BK114; clear HB; have HO110 := n0_; have HO113 := n1_; have BK101 := n2_; have BK114 := n3_; have HB := n4_; clear n0_ n1_ n2_ n3_ n4_; (try clear hb); (try clear hb2); (try clear hk); (try clear hi)))
            go_ret
            exact ⟨by first | rfl | (simp [errW_none, errW_some] <;> rfl) | (simp [*, errW_none, errW_some] <;> rfl), by repeat (first | (with_reducible first | exact HB.out | apply below_alloc | apply pw_below_drewN | apply below_drew1 | refine below_set ?_ GE101.out | refine below_set ?_ GE114.out) | exact HB.out)⟩
        · replace c19 := Bool.eq_false_iff.mpr c19
          subst c19
          have H1 : (some false) = some r := by rw [if_neg (show ¬ (false = true) by decide)] at H; exact H
          clear H
          have H := H1
          clear H1
          obtain rfl := Option.some.inj H
          have hcz86_0 : wc.cell? ⟨gb101, 0, none⟩ = some (.int .i64 a0_0) := (blk_cell BK101.out 0).trans rfl
          have hcz86_1 : wc.cell? ⟨gb101, 1, none⟩ = some (.int .i64 a0_1) := (blk_cell BK101.out 1).trans rfl
          have hcz86_2 : wc.cell? ⟨gb101, 2, none⟩ = some (.int .i64 a0_2) := (blk_cell BK101.out 2).trans rfl
          have hcz86_3 : wc.cell? ⟨gb101, 3, none⟩ = some (.slice A0_3 l0_3.length c0_3) := (blk_cell BK101.out 3).trans rfl
          have hcz86_4 : wc.cell? ⟨gb101, 4, none⟩ = some (.slice A0_4 l0_4.length c0_4) := (blk_cell BK101.out 4).trans rfl
          have hfz86_0 := blk_frozen BK101.out 0
          have hfz86_1 := blk_frozen BK101.out 1
          have hfz86_2 := blk_frozen BK101.out 2
          have hfz86_3 := blk_frozen BK101.out 3
          have hfz86_4 := blk_frozen BK101.out 4
          go_wp2_with (first | ((with_reducible refine gate_callee (f := 23) rfl ?_); refine goesL_ (some 16) rfl rfl Tryd.func23 (by kernel_rfl) rfl #[.agg #[.int .i64 a0_0, .int .i64 a0_1, .int .i64 a0_2, .slice A0_3 l0_3.length c0_3, .slice A0_4 l0_4.length c0_4]] rfl (by (try simp only [List.map_toArray, List.map_cons, List.map_nil]); first | done | rfl | (simp only [List.length_drop, List.length_take]; rfl)) ?_; (with_reducible refine (capnpref10_Copy.calls kj1 a0_0 a0_1 a0_2 _ _ l0_3 _ _ l0_4 t105 t106 t107 t108 t111 _ ?side1 ?side2 ?side3 ?side4 A14.out).mono ?_); (case side1 => repeat (first | exact (Kd.C_below HR0_3.out HB.out) | (with_reducible refine Kd.C_alloc ?_ _) | (with_reducible refine Kd.C_drewN ?_ _) | (with_reducible refine Kd.C_drew ?_))); (case side2 => exact HC0_3.out); (case side3 => repeat (first | exact (Kd.C_below HR0_4.out HB.out) | (with_reducible refine Kd.C_alloc ?_ _) | (with_reducible refine Kd.C_drewN ?_ _) | (with_reducible refine Kd.C_drew ?_))); (case side4 => exact HC0_4.out); rintro e w87 ⟨v109, v112, rfl, ho0, ho1, hb⟩; refine ⟨_, rfl, ?_⟩; have n0_ := Aside0.mk (Kd.R_lower ho0 (below_size (by repeat (first | (with_reducible first | exact HB.out | apply below_alloc | apply pw_below_drewN | apply below_drew1 | refine below_set ?_ GE101.out) | exact HB.out)))); have n1_ := Aside0.mk (Kd.R_lower (Kd.R_newB ho1 (g := gb101) (o := .cells #[.int .i64 a0_0, .int .i64 a0_1, .int .i64 a0_2, .slice A0_3 l0_3.length c0_3, .slice A0_4 l0_4.length c0_4] 30 (0, 0)) (by (with_reducible repeat (first | refine blk_drewN ?_ _ | refine blk_drew ?_ | refine blk_alloc ?_ _)); exact BK101.out)) (below_size (by repeat (first | (with_reducible first | exact HB.out | apply below_alloc | apply pw_below_drewN | apply below_drew1 | refine below_set ?_ GE101.out) | exact HB.out)))); have n2_ := Aside0.mk (blk_below (g := gb101) (o := .cells #[.int .i64 a0_0, .int .i64 a0_1, .int .i64 a0_2, .slice A0_3 l0_3.length c0_3, .slice A0_4 l0_4.length c0_4] 30 (0, 0)) (by (with_reducible repeat (first | refine blk_drewN ?_ _ | refine blk_drew ?_ | refine blk_alloc ?_ _)); exact BK101.out) hb); have n3_ := Aside0.mk (below_step (by repeat (first | (with_reducible first | exact HB.out | apply below_alloc | apply pw_below_drewN | apply below_drew1 | refine below_set ?_ GE101.out) | exact HB.out)) hb); clear BK101; clear HB; have HO110 := n0_; have HO113 := n1_; have BK101 := n2_; have HB := n3_; clear n0_ n1_ n2_ n3_; (try clear hb); (try clear hb2); (try clear hk); (try clear hi); (try clear ho0); (try clear ho1)) | ((with_reducible refine gate_dst (N := 3) rfl ?_); refine box_event ?hg (N := 3) ?hd (cs := #[.int .i64 0, .int .i64 0, .int .i64 0, .slice none 0 0, .slice none 0 0]) (t := 30) ?hr ?_; (case hd => rfl); (case hg => rfl); (case hr => first | (go_simp; done) | (go_simp; rfl)); intro gb114 hg w88 hbox hb; have n0_ := Aside0.mk (Kd.R_below (by (with_reducible repeat (first | apply Kd.R_alloc | apply Kd.R_drewN | apply Kd.R_drew)); exact HO110.out) hb); have n1_ := Aside0.mk (Kd.R_below (Kd.R_elderB (by (with_reducible repeat (first | apply Kd.R_alloc | apply Kd.R_drewN | apply Kd.R_drew)); exact HO113.out) gb114 (Nat.le_of_eq hg.symm)) hb); have n2_ := Aside0.mk (blk_below (g := gb101) (o := .cells #[.int .i64 a0_0, .int .i64 a0_1, .int .i64 a0_2, .slice A0_3 l0_3.length c0_3, .slice A0_4 l0_4.length c0_4] 30 (0, 0)) (by (with_reducible repeat (first | refine blk_drewN ?_ _ | refine blk_drew ?_ | refine blk_alloc ?_ _)); exact BK101.out) hb); have n3_ := Aside0.mk (below_step (by repeat (first | (with_reducible first | exact HB.out | apply below_alloc | apply pw_below_drewN | apply below_drew1 | refine below_set ?_ GE101.out) | exact HB.out)) hb); have n4_ := Aside0.mk (hbox); have n5_ := Aside0.mk ((by rw [hg]; exact (below_size (by repeat (first | (with_reducible first | exact HB.out | apply below_alloc | apply pw_below_drewN | apply below_drew1 | refine below_set ?_ GE101.out) | exact HB.out))) : w.heap.size ≤ gb114)); have n6_ := Aside0.mk ((by rw [hg]; exact (below_size (by repeat (first | (with_reducible first | exact HB.out | apply below_alloc | apply pw_below_drewN | apply below_drew1 | refine below_set ?_ GE101.out) | exact HB.out))) : w.heap.size ≤ gb114)); have n7_ := Aside0.mk ((by rw [hg]; exact Nat.ne_of_lt (blk_lt (g := gb101) (o := .cells #[.int .i64 a0_0, .int .i64 a0_1, .int .i64 a0_2, .slice A0_3 l0_3.length c0_3, .slice A0_4 l0_4.length c0_4] 30 (0, 0)) (by (with_reducible repeat (first | refine blk_drewN ?_ _ | refine blk_drew ?_ | refine blk_alloc ?_ _)); exact BK101.out)) : gb101 ≠ gb114)); have n8_ := Aside0.mk ((by rw [hg]; exact Nat.ne_of_gt (blk_lt (g := gb101) (o := .cells #[.int .i64 a0_0, .int .i64 a0_1, .int .i64 a0_2, .slice A0_3 l0_3.length c0_3, .slice A0_4 l0_4.length c0_4] 30 (0, 0)) (by (with_reducible repeat (first | refine blk_drewN ?_ _ | refine blk_drew ?_ | refine blk_alloc ?_ _)); exact BK101.out)) : gb114 ≠ gb101)); clear HO110; clear HO113; clear BK101; clear HB; have HO110 := n0_; have HO113 := n1_; have BK101 := n2_; have HB := n3_; have BK114 := n4_; have GW114 := n5_; have GE114 := n6_; have NB101_114 := n7_; have NB114_101 := n8_; clear n0_ n1_ n2_ n3_ n4_ n5_ n6_ n7_ n8_; clear hb hbox hg; have hnb89 := NB114_101.out; have hnc89 := NB101_114.out; have hcz90_0 : w88.cell? ⟨gb114, 0, none⟩ = some (.int .i64 0) := (blk_cell BK114.out 0).trans rfl; have hcz90_1 : w88.cell? ⟨gb114, 1, none⟩ = some (.int .i64 0) := (blk_cell BK114.out 1).trans rfl; have hcz90_2 : w88.cell? ⟨gb114, 2, none⟩ = some (.int .i64 0) := (blk_cell BK114.out 2).trans rfl; have hcz90_3 : w88.cell? ⟨gb114, 3, none⟩ = some (.slice none 0 0) := (blk_cell BK114.out 3).trans rfl; have hcz90_4 : w88.cell? ⟨gb114, 4, none⟩ = some (.slice none 0 0) := (blk_cell BK114.out 4).trans rfl; have hfz90_0 := blk_frozen BK114.out 0; have hfz90_1 := blk_frozen BK114.out 1; have hfz90_2 := blk_frozen BK114.out 2; have hfz90_3 := blk_frozen BK114.out 3; have hfz90_4 := blk_frozen BK114.out 4; obtain ⟨Ao91, co91, eo91⟩ := Kd.R_slice HO110.out; subst eo91; obtain ⟨Ao92, co92, eo92⟩ := Kd.R_slice HO113.out; subst eo92) | ((with_reducible refine gate_callee (f := 24) rfl ?_); refine goesL_ (some 18) rfl rfl Tryd.func24 (by kernel_rfl) rfl #[.agg #[.int .i64 t105, .int .i64 t106, .int .i64 t107, .slice Ao91 t108.length co91, .slice Ao92 t111.length co92]] rfl (by (try simp only [List.map_toArray, List.map_cons, List.map_nil]); first | done | rfl | (simp only [List.length_drop, List.length_take]; rfl)) ?_; (with_reducible refine (canonsize_Object.calls kj1 t105 t106 t107 _ _ t108 _ _ t111 t115 _ ?side1 ?side2 ?side3 ?side4 ?side5 A15.out).mono ?_); (case side1 => exact GLB.below HGLB.out (by repeat (first | (with_reducible first | exact HB.out | apply below_alloc | apply pw_below_drewN | apply below_drew1 | refine below_set ?_ GE101.out | refine below_set ?_ GE114.out) | exact HB.out))); (case side2 => refine (Kd.R_reads' (e := 5) (base := w.heap.size) (ok := fun k_ => True) (n := t108.length) (c := co91) ?_).2.2; exact (by (with_reducible repeat (first | apply Kd.R_alloc | apply Kd.R_drewN | apply Kd.R_drew)); exact (Kd.R_mono (Kd.R_far (p := ⟨gb114, 4, none⟩) (Kd.R_far (p := ⟨gb114, 3, none⟩) (Kd.R_far (p := ⟨gb114, 2, none⟩) (Kd.R_far (p := ⟨gb114, 1, none⟩) (Kd.R_far (p := ⟨gb114, 0, none⟩) (Kd.R_types HO110.out BK114.out (by decide)) (fun _ hk => hk.2) (.int .i64 t105)) (fun _ hk => hk.2) (.int .i64 t106)) (fun _ hk => hk.2) (.int .i64 t107)) (fun _ hk => hk.2) (.slice Ao91 t108.length co91)) (fun _ hk => hk.2) (.slice Ao92 t111.length co92)) (fun _ h_ => h_.1)))); (case side3 => exact (Kd.R_reads' HO110.out).2.1); (case side4 => refine (Kd.R_reads' (e := 30) (base := w.heap.size) (ok := fun k_ => ((some k_ ≠ (.slice Ao91 t108.length co91 : Value).ownBlock ∧ k_ ≠ gb101) ∧ k_ ≠ gb114)) (n := t111.length) (c := co92) ?_).2.2; exact (by (with_reducible repeat (first | apply Kd.R_alloc | apply Kd.R_drewN | apply Kd.R_drew)); exact (Kd.R_mono (Kd.R_far (p := ⟨gb114, 4, none⟩) (Kd.R_far (p := ⟨gb114, 3, none⟩) (Kd.R_far (p := ⟨gb114, 2, none⟩) (Kd.R_far (p := ⟨gb114, 1, none⟩) (Kd.R_far (p := ⟨gb114, 0, none⟩) (Kd.R_mono HO113.out (fun k_ hk => (⟨hk, hk.2⟩ : _ ∧ k_ ≠ gb114))) (fun _ hk => hk.2) (.int .i64 t105)) (fun _ hk => hk.2) (.int .i64 t106)) (fun _ hk => hk.2) (.int .i64 t107)) (fun _ hk => hk.2) (.slice Ao91 t108.length co91)) (fun _ hk => hk.2) (.slice Ao92 t111.length co92)) (fun _ h_ => h_.1)))); (case side5 => exact (Kd.R_reads' HO113.out).2.1); rintro e w93 ⟨rfl, hb⟩; refine ⟨_, rfl, ?_⟩; have n0_ := Aside0.mk (Kd.R_below (by (with_reducible repeat (first | apply Kd.R_alloc | apply Kd.R_drewN | apply Kd.R_drew)); exact (Kd.R_mono (Kd.R_far (p := ⟨gb114, 4, none⟩) (Kd.R_far (p := ⟨gb114, 3, none⟩) (Kd.R_far (p := ⟨gb114, 2, none⟩) (Kd.R_far (p := ⟨gb114, 1, none⟩) (Kd.R_far (p := ⟨gb114, 0, none⟩) (Kd.R_types HO110.out BK114.out (by decide)) (fun _ hk => hk.2) (.int .i64 t105)) (fun _ hk => hk.2) (.int .i64 t106)) (fun _ hk => hk.2) (.int .i64 t107)) (fun _ hk => hk.2) (.slice Ao91 t108.length co91)) (fun _ hk => hk.2) (.slice Ao92 t111.length co92)) (fun _ h_ => h_.1))) hb); have n1_ := Aside0.mk (Kd.R_below (by (with_reducible repeat (first | apply Kd.R_alloc | apply Kd.R_drewN | apply Kd.R_drew)); exact (Kd.R_mono (Kd.R_far (p := ⟨gb114, 4, none⟩) (Kd.R_far (p := ⟨gb114, 3, none⟩) (Kd.R_far (p := ⟨gb114, 2, none⟩) (Kd.R_far (p := ⟨gb114, 1, none⟩) (Kd.R_far (p := ⟨gb114, 0, none⟩) (Kd.R_mono HO113.out (fun k_ hk => (⟨hk, hk.2⟩ : _ ∧ k_ ≠ gb114))) (fun _ hk => hk.2) (.int .i64 t105)) (fun _ hk => hk.2) (.int .i64 t106)) (fun _ hk => hk.2) (.int .i64 t107)) (fun _ hk => hk.2) (.slice Ao91 t108.length co91)) (fun _ hk => hk.2) (.slice Ao92 t111.length co92)) (fun _ h_ => h_.1))) hb); have n2_ := Aside0.mk (blk_below (g := gb101) (o := .cells #[.int .i64 a0_0, .int .i64 a0_1, .int .i64 a0_2, .slice A0_3 l0_3.length c0_3, .slice A0_4 l0_4.length c0_4] 30 (0, 0)) (by (with_reducible repeat (first | refine blk_drewN ?_ _ | refine blk_drew ?_ | refine blk_alloc ?_ _)); refine blk_far ?_ NB101_114.out _; (with_reducible repeat (first | refine blk_drewN ?_ _ | refine blk_drew ?_ | refine blk_alloc ?_ _)); refine blk_far ?_ NB101_114.out _; (with_reducible repeat (first | refine blk_drewN ?_ _ | refine blk_drew ?_ | refine blk_alloc ?_ _)); refine blk_far ?_ NB101_114.out _; (with_reducible repeat (first | refine blk_drewN ?_ _ | refine blk_drew ?_ | refine blk_alloc ?_ _)); refine blk_far ?_ NB101_114.out _; (with_reducible repeat (first | refine blk_drewN ?_ _ | refine blk_drew ?_ | refine blk_alloc ?_ _)); refine blk_far ?_ NB101_114.out _; (with_reducible repeat (first | refine blk_drewN ?_ _ | refine blk_drew ?_ | refine blk_alloc ?_ _)); exact BK101.out) hb); have n3_ := Aside0.mk (blk_below (g := gb114) (o := .cells #[.int .i64 t105, .int .i64 t106, .int .i64 t107, .slice Ao91 t108.length co91, .slice Ao92 t111.length co92] 30 (0, 0)) (by (with_reducible repeat (first | refine blk_drewN ?_ _ | refine blk_drew ?_ | refine blk_alloc ?_ _)); refine blk_put (cs := #[.int .i64 t105, .int .i64 t106, .int .i64 t107, .slice Ao91 t108.length co91, .slice none 0 0]) ?_ 4 _ rfl; (with_reducible repeat (first | refine blk_drewN ?_ _ | refine blk_drew ?_ | refine blk_alloc ?_ _)); refine blk_put (cs := #[.int .i64 t105, .int .i64 t106, .int .i64 t107, .slice none 0 0, .slice none 0 0]) ?_ 3 _ rfl; (with_reducible repeat (first | refine blk_drewN ?_ _ | refine blk_drew ?_ | refine blk_alloc ?_ _)); refine blk_put (cs := #[.int .i64 t105, .int .i64 t106, .int .i64 0, .slice none 0 0, .slice none 0 0]) ?_ 2 _ rfl; (with_reducible repeat (first | refine blk_drewN ?_ _ | refine blk_drew ?_ | refine blk_alloc ?_ _)); refine blk_put (cs := #[.int .i64 t105, .int .i64 0, .int .i64 0, .slice none 0 0, .slice none 0 0]) ?_ 1 _ rfl; (with_reducible repeat (first | refine blk_drewN ?_ _ | refine blk_drew ?_ | refine blk_alloc ?_ _)); refine blk_put (cs := #[.int .i64 0, .int .i64 0, .int .i64 0, .slice none 0 0, .slice none 0 0]) ?_ 0 _ rfl; (with_reducible repeat (first | refine blk_drewN ?_ _ | refine blk_drew ?_ | refine blk_alloc ?_ _)); exact BK114.out) hb); have n4_ := Aside0.mk (below_step (by repeat (first | (with_reducible first | exact HB.out | apply below_alloc | apply pw_below_drewN | apply below_drew1 | refine below_set ?_ GE101.out | refine below_set ?_ GE114.out) | exact HB.out)) hb); clear HO110; clear HO113; clear BK101; clear BK114; clear HB; have HO110 := n0_; have HO113 := n1_; have BK101 := n2_; have BK114 := n3_; have HB := n4_; clear n0_ n1_ n2_ n3_ n4_; (try clear hb); (try clear hb2); (try clear hk); (try clear hi); have hcz94_0 : w93.cell? ⟨gb114, 0, none⟩ = some (.int .i64 t105) := (blk_cell BK114.out 0).trans rfl; have hcz94_1 : w93.cell? ⟨gb114, 1, none⟩ = some (.int .i64 t106) := (blk_cell BK114.out 1).trans rfl; have hcz94_2 : w93.cell? ⟨gb114, 2, none⟩ = some (.int .i64 t107) := (blk_cell BK114.out 2).trans rfl; have hcz94_3 : w93.cell? ⟨gb114, 3, none⟩ = some (.slice Ao91 t108.length co91) := (blk_cell BK114.out 3).trans rfl; have hcz94_4 : w93.cell? ⟨gb114, 4, none⟩ = some (.slice Ao92 t111.length co92) := (blk_cell BK114.out 4).trans rfl; have hfz94_0 := blk_frozen BK114.out 0; have hfz94_1 := blk_frozen BK114.out 1; have hfz94_2 := blk_frozen BK114.out 2; have hfz94_3 := blk_frozen BK114.out 3; have hfz94_4 := blk_frozen BK114.out 4) | ((with_reducible refine gate_callee (f := 21) rfl ?_); refine goesL_ (some 20) rfl rfl Tryd.func21 (by kernel_rfl) rfl #[.agg #[.int .i64 t105, .int .i64 t106, .int .i64 t107, .slice Ao91 t108.length co91, .slice Ao92 t111.length co92]] rfl (by (try simp only [List.map_toArray, List.map_cons, List.map_nil]); first | done | rfl | (simp only [List.length_drop, List.length_take]; rfl)) ?_; (with_reducible refine (canonsize_Node.calls kj1 t105 t106 t107 _ _ t108 _ _ t111 t116 _ ?side1 ?side2 ?side3 ?side4 ?side5 A16.out).mono ?_); (case side1 => exact GLB.below HGLB.out (by repeat (first | (with_reducible first | exact HB.out | apply below_alloc | apply pw_below_drewN | apply below_drew1 | refine below_set ?_ GE101.out | refine below_set ?_ GE114.out) | exact HB.out))); (case side2 => repeat (first | exact (Kd.R_reads' HO110.out).2.2 | (with_reducible refine Kd.C_alloc ?_ _) | (with_reducible refine Kd.C_drewN ?_ _) | (with_reducible refine Kd.C_drew ?_))); (case side3 => exact (Kd.R_reads' HO110.out).2.1); (case side4 => repeat (first | exact (Kd.R_reads' HO113.out).2.2 | (with_reducible refine Kd.C_alloc ?_ _) | (with_reducible refine Kd.C_drewN ?_ _) | (with_reducible refine Kd.C_drew ?_))); (case side5 => exact (Kd.R_reads' HO113.out).2.1); rintro e w95 ⟨rfl, hb⟩; refine ⟨_, rfl, ?_⟩; have n0_ := Aside0.mk (Kd.R_below (by (with_reducible repeat (first | apply Kd.R_alloc | apply Kd.R_drewN | apply Kd.R_drew)); exact HO110.out) hb); have n1_ := Aside0.mk (Kd.R_below (by (with_reducible repeat (first | apply Kd.R_alloc | apply Kd.R_drewN | apply Kd.R_drew)); exact HO113.out) hb); have n2_ := Aside0.mk (blk_below (g := gb101) (o := .cells #[.int .i64 a0_0, .int .i64 a0_1, .int .i64 a0_2, .slice A0_3 l0_3.length c0_3, .slice A0_4 l0_4.length c0_4] 30 (0, 0)) (by (with_reducible repeat (first | refine blk_drewN ?_ _ | refine blk_drew ?_ | refine blk_alloc ?_ _)); exact BK101.out) hb); have n3_ := Aside0.mk (blk_below (g := gb114) (o := .cells #[.int .i64 t105, .int .i64 t106, .int .i64 t107, .slice Ao91 t108.length co91, .slice Ao92 t111.length co92] 30 (0, 0)) (by (with_reducible repeat (first | refine blk_drewN ?_ _ | refine blk_drew ?_ | refine blk_alloc ?_ _)); exact BK114.out) hb); have n4_ := Aside0.mk (below_step (by repeat (first | (with_reducible first | exact HB.out | apply below_alloc | apply pw_below_drewN | apply below_drew1 | refine below_set ?_ GE101.out | refine below_set ?_ GE114.out) | exact HB.out)) hb); clear HO110; clear HO113; clear BK101; clear BK114; clear HB; have HO110 := n0_; have HO113 := n1_; have BK101 := n2_; have BK114 := n3_; have HB := n4_; clear n0_ n1_ n2_ n3_ n4_; (try clear hb); (try clear hb2); (try clear hk); (try clear hi); have hcz96_0 : w95.cell? ⟨gb114, 0, none⟩ = some (.int .i64 t105) := (blk_cell BK114.out 0).trans rfl; have hcz96_1 : w95.cell? ⟨gb114, 1, none⟩ = some (.int .i64 t106) := (blk_cell BK114.out 1).trans rfl; have hcz96_2 : w95.cell? ⟨gb114, 2, none⟩ = some (.int .i64 t107) := (blk_cell BK114.out 2).trans rfl; have hcz96_3 : w95.cell? ⟨gb114, 3, none⟩ = some (.slice Ao91 t108.length co91) := (blk_cell BK114.out 3).trans rfl; have hcz96_4 : w95.cell? ⟨gb114, 4, none⟩ = some (.slice Ao92 t111.length co92) := (blk_cell BK114.out 4).trans rfl; have hfz96_0 := blk_frozen BK114.out 0; have hfz96_1 := blk_frozen BK114.out 1; have hfz96_2 := blk_frozen BK114.out 2; have hfz96_3 := blk_frozen BK114.out 3; have hfz96_4 := blk_frozen BK114.out 4) | ((with_reducible refine gate_callee (f := 22) rfl ?_); refine goesL_ (some 22) rfl rfl Tryd.func22 (by kernel_rfl) rfl #[.agg #[.int .i64 t105, .int .i64 t106, .int .i64 t107, .slice Ao91 t108.length co91, .slice Ao92 t111.length co92]] rfl (by (try simp only [List.map_toArray, List.map_cons, List.map_nil]); first | done | rfl | (simp only [List.length_drop, List.length_take]; rfl)) ?_; (with_reducible refine (canonsize_Total.calls kj1 t105 t106 t107 _ _ t108 _ _ t111 t117 _ ?side1 ?side2 ?side3 ?side4 ?side5 A17.out).mono ?_); (case side1 => exact GLB.below HGLB.out (by repeat (first | (with_reducible first | exact HB.out | apply below_alloc | apply pw_below_drewN | apply below_drew1 | refine below_set ?_ GE101.out | refine below_set ?_ GE114.out) | exact HB.out))); (case side2 => repeat (first | exact (Kd.R_reads' HO110.out).2.2 | (with_reducible refine Kd.C_alloc ?_ _) | (with_reducible refine Kd.C_drewN ?_ _) | (with_reducible refine Kd.C_drew ?_))); (case side3 => exact (Kd.R_reads' HO110.out).2.1); (case side4 => repeat (first | exact (Kd.R_reads' HO113.out).2.2 | (with_reducible refine Kd.C_alloc ?_ _) | (with_reducible refine Kd.C_drewN ?_ _) | (with_reducible refine Kd.C_drew ?_))); (case side5 => exact (Kd.R_reads' HO113.out).2.1); rintro e w97 ⟨rfl, hb⟩; refine ⟨_, rfl, ?_⟩; have n0_ := Aside0.mk (Kd.R_below (by (with_reducible repeat (first | apply Kd.R_alloc | apply Kd.R_drewN | apply Kd.R_drew)); exact HO110.out) hb); have n1_ := Aside0.mk (Kd.R_below (by (with_reducible repeat (first | apply Kd.R_alloc | apply Kd.R_drewN | apply Kd.R_drew)); exact HO113.out) hb); have n2_ := Aside0.mk (blk_below (g := gb101) (o := .cells #[.int .i64 a0_0, .int .i64 a0_1, .int .i64 a0_2, .slice A0_3 l0_3.length c0_3, .slice A0_4 l0_4.length c0_4] 30 (0, 0)) (by (with_reducible repeat (first | refine blk_drewN ?_ _ | refine blk_drew ?_ | refine blk_alloc ?_ _)); exact BK101.out) hb); have n3_ := Aside0.mk (blk_below (g := gb114) (o := .cells #[.int .i64 t105, .int .i64 t106, .int .i64 t107, .slice Ao91 t108.length co91, .slice Ao92 t111.length co92] 30 (0, 0)) (by (with_reducible repeat (first | refine blk_drewN ?_ _ | refine blk_drew ?_ | refine blk_alloc ?_ _)); exact BK114.out) hb); have n4_ := Aside0.mk (below_step (by repeat (first | (with_reducible first | exact HB.out | apply below_alloc | apply pw_below_drewN | apply below_drew1 | refine below_set ?_ GE101.out | refine below_set ?_ GE114.out) | exact HB.out)) hb); clear HO110; clear HO113; clear BK101; clear BK114; clear HB; have HO110 := n0_; have HO113 := n1_; have BK101 := n2_; have BK114 := n3_; have HB := n4_; clear n0_ n1_ n2_ n3_ n4_; (try clear hb); (try clear hb2); (try clear hk); (try clear hi); have hcz98_0 : w97.cell? ⟨gb114, 0, none⟩ = some (.int .i64 t105) := (blk_cell BK114.out 0).trans rfl; have hcz98_1 : w97.cell? ⟨gb114, 1, none⟩ = some (.int .i64 t106) := (blk_cell BK114.out 1).trans rfl; have hcz98_2 : w97.cell? ⟨gb114, 2, none⟩ = some (.int .i64 t107) := (blk_cell BK114.out 2).trans rfl; have hcz98_3 : w97.cell? ⟨gb114, 3, none⟩ = some (.slice Ao91 t108.length co91) := (blk_cell BK114.out 3).trans rfl; have hcz98_4 : w97.cell? ⟨gb114, 4, none⟩ = some (.slice Ao92 t111.length co92) := (blk_cell BK114.out 4).trans rfl; have hfz98_0 := blk_frozen BK114.out 0; have hfz98_1 := blk_frozen BK114.out 1; have hfz98_2 := blk_frozen BK114.out 2; have hfz98_3 := blk_frozen BK114.out 3; have hfz98_4 := blk_frozen BK114.out 4; have hcz99_0 : w97.cell? ⟨gb101, 0, none⟩ = some (.int .i64 a0_0) := (blk_cell BK101.out 0).trans rfl; have hcz99_1 : w97.cell? ⟨gb101, 1, none⟩ = some (.int .i64 a0_1) := (blk_cell BK101.out 1).trans rfl; have hcz99_2 : w97.cell? ⟨gb101, 2, none⟩ = some (.int .i64 a0_2) := (blk_cell BK101.out 2).trans rfl; have hcz99_3 : w97.cell? ⟨gb101, 3, none⟩ = some (.slice A0_3 l0_3.length c0_3) := (blk_cell BK101.out 3).trans rfl; have hcz99_4 : w97.cell? ⟨gb101, 4, none⟩ = some (.slice A0_4 l0_4.length c0_4) := (blk_cell BK101.out 4).trans rfl; have hfz99_0 := blk_frozen BK101.out 0; have hfz99_1 := blk_frozen BK101.out 1; have hfz99_2 := blk_frozen BK101.out 2; have hfz99_3 := blk_frozen BK101.out 3; have hfz99_4 := blk_frozen BK101.out 4) | ((with_reducible refine gate_callee (f := 25) rfl ?_); refine goesL_ (some 25) rfl rfl Tryd.func25 (by kernel_rfl) rfl #[.agg #[.int .i64 t105, .int .i64 t106, .int .i64 t107, .slice Ao91 t108.length co91, .slice Ao92 t111.length co92], .agg #[.int .i64 a0_0, .int .i64 a0_1, .int .i64 a0_2, .slice A0_3 l0_3.length c0_3, .slice A0_4 l0_4.length c0_4]] rfl (by (try simp only [List.map_toArray, List.map_cons, List.map_nil]); first | done | rfl | (simp only [List.length_drop, List.length_take]; rfl)) ?_; (with_reducible refine (capnpref10_Equal.calls kj1 t105 t106 t107 _ _ t108 _ _ t111 a0_0 a0_1 a0_2 _ _ l0_3 _ _ l0_4 false _ ?side1 ?side2 ?side3 ?side4 ?side5 ?side6 ?side7 ?side8 A18.out).mono ?_); (case side1 => repeat (first | exact (Kd.R_reads' HO110.out).2.2 | (with_reducible refine Kd.C_alloc ?_ _) | (with_reducible refine Kd.C_drewN ?_ _) | (with_reducible refine Kd.C_drew ?_))); (case side2 => exact (Kd.R_reads' HO110.out).2.1); (case side3 => repeat (first | exact (Kd.R_reads' HO113.out).2.2 | (with_reducible refine Kd.C_alloc ?_ _) | (with_reducible refine Kd.C_drewN ?_ _) | (with_reducible refine Kd.C_drew ?_))); (case side4 => exact (Kd.R_reads' HO113.out).2.1); (case side5 => repeat (first | exact (Kd.C_below HR0_3.out HB.out) | (with_reducible refine Kd.C_alloc ?_ _) | (with_reducible refine Kd.C_drewN ?_ _) | (with_reducible refine Kd.C_drew ?_))); (case side6 => exact HC0_3.out); (case side7 => repeat (first | exact (Kd.C_below HR0_4.out HB.out) | (with_reducible refine Kd.C_alloc ?_ _) | (with_reducible refine Kd.C_drewN ?_ _) | (with_reducible refine Kd.C_drew ?_))); (case side8 => exact HC0_4.out); rintro e w100 ⟨rfl, hb⟩; refine ⟨_, rfl, ?_⟩; have n0_ := Aside0.mk (Kd.R_below (by (with_reducible repeat (first | apply Kd.R_alloc | apply Kd.R_drewN | apply Kd.R_drew)); exact HO110.out) hb); have n1_ := Aside0.mk (Kd.R_below (by (with_reducible repeat (first | apply Kd.R_alloc | apply Kd.R_drewN | apply Kd.R_drew)); exact HO113.out) hb); have n2_ := Aside0.mk (blk_below (g := gb101) (o := .cells #[.int .i64 a0_0, .int .i64 a0_1, .int .i64 a0_2, .slice A0_3 l0_3.length c0_3, .slice A0_4 l0_4.length c0_4] 30 (0, 0)) (by (with_reducible repeat (first | refine blk_drewN ?_ _ | refine blk_drew ?_ | refine blk_alloc ?_ _)); exact BK101.out) hb); have n3_ := Aside0.mk (blk_below (g := gb114) (o := .cells #[.int .i64 t105, .int .i64 t106, .int .i64 t107, .slice Ao91 t108.length co91, .slice Ao92 t111.length co92] 30 (0, 0)) (by (with_reducible repeat (first | refine blk_drewN ?_ _ | refine blk_drew ?_ | refine blk_alloc ?_ _)); exact BK114.out) hb); have n4_ := Aside0.mk (below_step (by repeat (first | (with_reducible first | exact HB.out | apply below_alloc | apply pw_below_drewN | apply below_drew1 | refine below_set ?_ GE101.out | refine below_set ?_ GE114.out) | exact HB.out)) hb); clear HO110; clear HO113; clear BK101; clear BK114; clear HB; have HO110 := n0_; have HO113 := n1_; have BK101 := n2_; have BK114 := n3_; have HB := n4_; clear n0_ n1_ n2_ n3_ n4_; (try clear hb); (try clear hb2); (try clear hk); (try clear hi)))
          go_ret
          exact ⟨by first | rfl | (simp [errW_none, errW_some] <;> rfl) | (simp [*, errW_none, errW_some] <;> rfl), by repeat (first | (with_reducible first | exact HB.out | apply below_alloc | apply pw_below_drewN | apply below_drew1 | refine below_set ?_ GE101.out | refine below_set ?_ GE114.out) | exact HB.out)⟩

end Go.Proofs.YtomjnaakkfimhaaDoor.D

namespace Go.Proofs.YtomjnaakkfimhaaDoor.D
open Go.RowKit Go.Proofs.YtomjnaakkfimhaaDoorW.PrintWords Go.Proofs.YtomjnaakkfimhaaDoorW.PrintLast Go.Proofs.YtomjnaakkfimhaaDoorW.PrintMore
attribute [local go_sem] max2_int min2_int max_two min_two max_three min_three max_four min_four
set_option linter.unusedVariables false
set_option linter.unusedSimpArgs false

/-! ### Plain laws of the node functions: what the printed functions answer, over trees alone -/
theorem w64 {x : Int} (h : -9223372036854775808 ≤ x) (h2 : x ≤ 9223372036854775807) : wrap64 x = x := by
  unfold wrap64
  omega
theorem S30.ind {P : S30 → Prop} (h : ∀ a b c d ks, (∀ k ∈ ks, P k) → P ⟨a, b, c, d, ks⟩) (n : S30) : P n :=
  S30.rec (motive_1 := P) (motive_2 := fun ks => ∀ k ∈ ks, P k) (fun a b c d ks ih => h a b c d ks ih) (fun k hk => by cases hk)
    (fun x r hx hr k hk => by
      rcases List.mem_cons.1 hk with e | e
      · rw [e]; exact hx
      · exact hr k e) n
/-- A loop over a list: from each place on it answers 'res', if one round does. -/
theorem Ev.loopI {σ α β : Type} (xs : List α) (L : Nat → σ → Int → Option β) (res : σ → List α → β) (I : σ → List α → Prop)
    (hend : ∀ s, I s [] → Ev (fun k => L k s (xs.length : Int)) (res s []))
    (hstep : ∀ s (i : Nat) x r, xs[i]? = some x → i + 1 + r.length = xs.length → I s (x :: r) → (∀ s', I s' r → Ev (fun k => L k s' ((i : Int) + 1)) (res s' r)) → Ev (fun k => L k s (i : Int)) (res s (x :: r))) :
    ∀ s, I s xs → Ev (fun k => L k s 0) (res s xs) := by
  have main : ∀ (r : List α) (i : Nat), xs.drop i = r → i ≤ xs.length → ∀ s, I s r → Ev (fun k => L k s (i : Int)) (res s r) := by
    intro r
    induction r with
    | nil =>
      intro i hd hi s hs
      have : i = xs.length := by
        have := congrArg List.length hd
        simp at this
        omega
      subst this
      exact hend s hs
    | cons x r ih =>
      intro i hd hi s hs
      have hl := congrArg List.length hd
      simp at hl
      have hx : xs[i]? = some x := by
        have := congrArg (fun l => l[0]?) hd
        simpa using this
      refine hstep s i x r hx (by omega) hs (fun s' hs' => ?_)
      have h2 := ih (i + 1) (by rw [← List.drop_drop, hd]; rfl) (by omega) s' hs'
      simpa using h2
  intro s hs
  have := main xs 0 (by simp) (by omega) s hs
  simpa using this
theorem rd_T30_at {xs : List S30} {i : Nat} {x : S30} (h : xs[i]? = some x) : rd_T30 xs (i : Int) = x := by
  unfold rd_T30
  rw [Int.toNat_natCast, List.getD_eq_getElem?_getD, h]
  rfl
theorem rd_at {xs : List Int} {i : Nat} {x : Int} (h : xs[i]? = some x) : rd xs (i : Int) = x := by
  unfold rd
  rw [Int.toNat_natCast, List.getD_eq_getElem?_getD, h]
  rfl
theorem lt_of_at {α : Type} {xs : List α} {i : Nat} {x : α} (h : xs[i]? = some x) : (i : Int) < (xs.length : Int) := by
  have := (List.getElem?_eq_some_iff.1 h).1
  omega
mutual
/-- How many nodes and bytes a node has. -/
def nsz : S30 → Nat
  | ⟨_, _, _, d, ks⟩ => 1 + d.length + nszs ks
def nszs : List S30 → Nat
  | [] => 0
  | k :: r => nsz k + nszs r
end
theorem nszs_mem {ks : List S30} {k : S30} (h : k ∈ ks) : nsz k ≤ nszs ks := by
  induction ks with
  | nil => cases h
  | cons a r ih =>
    simp only [nszs]
    rcases List.mem_cons.1 h with e | e
    · rw [e]; omega
    · have := ih e; omega
theorem nszs_len (ks : List S30) : ks.length ≤ nszs ks := by
  induction ks with
  | nil => simp
  | cons a r ih =>
    simp only [nszs, List.length_cons]
    have : 1 ≤ nsz a := by cases a; simp only [nsz]; omega
    omega
theorem Size_ev (n : S30) : nsz n < 4611686018427387904 → Ev (fun k => capnpref10_Size.f k n.f0 n.f1 n.f2 n.f3 n.f4) (nsz n : Int) := by
  induction n using S30.ind with
  | h a b c d ks ih =>
    intro hn
    simp only [nsz] at hn ⊢
    refine Ev.step (f := fun k => capnpref10_Size.l0 k (wrap64 (1 + (d.length : Int))) 0 a b c d ks) (fun k => by simp only [capnpref10_Size.f]) ?_
    rw [w64 (by omega) (by omega)]
    have := Ev.loopI ks (fun k s i => capnpref10_Size.l0 k s i a b c d ks) (fun s r => s + (nszs r : Int)) (fun s r => 0 ≤ s ∧ s + (nszs r : Int) < 4611686018427387904 ∧ ∀ x ∈ r, x ∈ ks)
      (fun s hs => Ev.step (f := fun _ => some s) (fun k => by simp only [capnpref10_Size.l0]; rw [if_neg (by omega)]) (by simp only [nszs]; simpa using Ev.now s))
      (fun s i x r hx hl hs hr => by
        obtain ⟨h0, h1, h2⟩ := hs
        simp only [nszs] at h1
        have hxs : nsz x ≤ nszs ks := nszs_mem (h2 x (by simp))
        refine Ev.step (f := fun k => (capnpref10_Size.f k x.f0 x.f1 x.f2 x.f3 x.f4).bind fun t => capnpref10_Size.l0 k (wrap64 (s + t)) (wrap64 ((i : Int) + 1)) a b c d ks) (fun k => by
          simp only [capnpref10_Size.l0]
          rw [if_pos (lt_of_at hx), if_pos (by omega), rd_T30_at hx]) ?_
        refine Ev.bind (ih x (h2 x (by simp)) (by omega)) ?_
        have hi := lt_of_at hx
        have hlen := nszs_len ks
        rw [w64 (by omega) (by omega), w64 (by omega) (by omega)]
        have := hr (s + (nsz x : Int)) ⟨by omega, by omega, fun y hy => h2 y (by simp [hy])⟩
        simp only [nszs]
        rw [show s + ((nsz x + nszs r : Nat) : Int) = s + (nsz x : Int) + (nszs r : Int) by omega]
        exact this)
      (1 + (d.length : Int)) ⟨by omega, by omega, fun x hx => hx⟩
    rw [show (((1 + d.length + nszs ks : Nat)) : Int) = 1 + (d.length : Int) + (nszs ks : Int) by omega]
    exact this
/-! #### nesting -/
mutual
def nnest : S30 → Nat
  | ⟨_, _, _, _, ks⟩ => nnests ks + 1
def nnests : List S30 → Nat
  | [] => 0
  | k :: r => max (nnest k) (nnests r)
end
theorem nnests_le (ks : List S30) (ih : ∀ k ∈ ks, nnest k ≤ nsz k) : nnests ks ≤ nszs ks := by
  induction ks with
  | nil => simp [nnests, nszs]
  | cons x r ihr =>
    have h1 := ih x (by simp)
    have h2 := ihr (fun k hk => ih k (by simp [hk]))
    simp only [nnests, nszs]
    omega
theorem nnest_le (n : S30) : nnest n ≤ nsz n := by
  induction n using S30.ind with
  | h a b c d ks ih =>
    have := nnests_le ks ih
    simp only [nnest, nsz]
    omega
theorem Nesting_ev (n : S30) : nsz n < 4611686018427387904 → Ev (fun k => capnpref10_Nesting.f k n.f0 n.f1 n.f2 n.f3 n.f4) (nnest n : Int) := by
  induction n using S30.ind with
  | h a b c d ks ih =>
    intro hn
    simp only [nsz] at hn
    simp only [nnest]
    refine Ev.step (f := fun k => capnpref10_Nesting.l0 k 0 0 a b c d ks) (fun k => by simp only [capnpref10_Nesting.f]) ?_
    have := Ev.loopI ks (fun k s i => capnpref10_Nesting.l0 k s i a b c d ks) (fun s r => max s (nnests r : Int) + 1) (fun s r => 0 ≤ s ∧ s < 4611686018427387904 ∧ ∀ x ∈ r, x ∈ ks)
      (fun s hs => Ev.step (f := fun _ => some (wrap64 (s + 1))) (fun k => by simp only [capnpref10_Nesting.l0]; rw [if_neg (by omega)]) (by rw [w64 (by omega) (by omega)]; simp only [nnests]; rw [show max s ((0 : Nat) : Int) = s by omega]; exact Ev.now _))
      (fun s i x r hx hl hs hr => by
        obtain ⟨h0, h1, h2⟩ := hs
        have hxs : nsz x ≤ nszs ks := nszs_mem (h2 x (by simp))
        have hxn := nnest_le x
        refine Ev.step (f := fun k => (capnpref10_Nesting.f k x.f0 x.f1 x.f2 x.f3 x.f4).bind fun t => capnpref10_Nesting.l0 k (mx s t) (wrap64 ((i : Int) + 1)) a b c d ks) (fun k => by
          simp only [capnpref10_Nesting.l0]
          rw [if_pos (lt_of_at hx), if_pos (by omega), rd_T30_at hx]) ?_
        refine Ev.bind (ih x (h2 x (by simp)) (by omega)) ?_
        have hi := lt_of_at hx
        have hlen := nszs_len ks
        rw [w64 (by omega) (by omega)]
        have hm : mx s (nnest x : Int) = max s (nnest x : Int) := by unfold mx; split <;> omega
        rw [hm]
        have := hr (max s (nnest x : Int)) ⟨by omega, by omega, fun y hy => h2 y (by simp [hy])⟩
        simp only [nnests]
        rw [show max s ((max (nnest x) (nnests r) : Nat) : Int) = max (max s (nnest x : Int)) (nnests r : Int) by omega]
        exact this)
      0 ⟨by omega, by omega, fun x hx => hx⟩
    rw [show ((nnests ks + 1 : Nat) : Int) = max 0 (nnests ks : Int) + 1 by omega]
    exact this
theorem Few_ev (n : S30) (hn : nsz n < 4611686018427387904) : Ev (fun k => capnpref10_Few.f k n.f0 n.f1 n.f2 n.f3 n.f4) (decide (nsz n ≤ 3000 ∧ nnest n ≤ 40)) := by
  refine Ev.bind (Size_ev n hn) ?_
  by_cases h : nsz n ≤ 3000
  · simp only [if_pos (show (nsz n : Int) ≤ 3000 by omega)]
    refine Ev.bind (Nesting_ev n hn) ?_
    rw [show (decide (nsz n ≤ 3000 ∧ nnest n ≤ 40)) = decide ((nnest n : Int) ≤ 40) by simp [h]; omega]
    exact Ev.now _
  · simp only [if_neg (show ¬ (nsz n : Int) ≤ 3000 by omega)]
    rw [show (decide (nsz n ≤ 3000 ∧ nnest n ≤ 40)) = false by simp [h]]
    exact Ev.now _
/-! #### bytes of lists -/
/-- Bits of an element. -/
def ebits (e : Int) : Int := if e = 1 then 1 else if e = 2 then 8 else if e = 3 then 16 else if e = 4 then 32 else if e = 5 then 64 else if e = 6 then 64 else 0
theorem ebits_le (e : Int) : 0 ≤ ebits e ∧ ebits e ≤ 64 := by unfold ebits; repeat' split
                                                              all_goals omega
theorem Bits_some (e : Int) : capnpref06_Bits.f e = some (ebits e) := by
  unfold capnpref06_Bits.f ebits
  repeat' split
  all_goals rfl
/-- Bytes of a list. -/
def ebytes (e N : Int) : Int := (ebits e * N + 7) / 8
theorem Bytes_some (e N : Int) (h0 : 0 ≤ N) (h1 : N ≤ 536870911) : capnpref06_Bytes.f e N = some (ebytes e N) := by
  unfold capnpref06_Bytes.f ebytes
  rw [Bits_some]
  simp only [Option.bind_some]
  obtain ⟨b0, b1⟩ := ebits_le e
  have hp : 0 ≤ ebits e * N ∧ ebits e * N ≤ 64 * 536870911 := ⟨Int.mul_nonneg b0 h0, Int.le_trans (Int.mul_le_mul_of_nonneg_right b1 h0) (Int.mul_le_mul_of_nonneg_left h1 (by omega))⟩
  generalize ebits e * N = x at hp ⊢
  rw [w64 (x := x) (by omega) (by omega), Int.tdiv_eq_ediv_of_nonneg (by omega), w64 (x := x / 8) (by omega) (by omega), w64 (x := x / 8 * 8) (by omega) (by omega)]
  split
  · rw [w64 (by omega) (by omega)]
    congr 1
    omega
  · congr 1
    omega
/-- The bytes of the elements: the last one of a list of bits keeps the bits that count. -/
def tbyte (e N : Int) (i : Nat) (x : Int) : Int := if e = 1 ∧ 8 * (i : Int) + 8 > N then (Int.tmod (wrap64 x) (2 ^ (N - 8 * (i : Int)).toNat)) % 256 else x
def tbytes (e N : Int) (d : List Int) : List Int := d.mapIdx (tbyte e N)
theorem Pow_ev (e N : Int) (d out : List Int) (i : Nat) (x : Int) (r : List Int) (n : Nat) (hn : n ≤ 8)
    (h : Ev (fun k => if out.length < 140737488355328 then (capnpref06_Trim.l0 k e N d (out ++ [(Int.tmod (wrap64 x) (2 ^ n)) % 256]) (wrap64 ((i : Int) + 1))) else none) r) :
    ∀ j m : Nat, j + m = n → Ev (fun k => capnpref06_Trim.l1 k e N d out (i : Int) x (n : Int) (2 ^ j) (j : Int)) r := by
  intro j m hm
  induction m generalizing j with
  | zero =>
    obtain rfl : j = n := by omega
    refine Ev.step (f := fun k => if out.length < 140737488355328 then (capnpref06_Trim.l0 k e N d (out ++ [(Int.tmod (wrap64 x) (2 ^ j)) % 256]) (wrap64 ((i : Int) + 1))) else none) (fun k => ?_) h
    simp only [capnpref06_Trim.l1]
    rw [if_neg (by omega), if_neg (by have : (0 : Int) < 2 ^ j := Int.pow_pos (by omega); omega)]
  | succ m ih =>
    refine Ev.step (f := fun k => capnpref06_Trim.l1 k e N d out (i : Int) x (n : Int) (2 ^ (j + 1)) ((j + 1 : Nat) : Int)) (fun k => ?_) (ih (j + 1) (by omega))
    simp only [capnpref06_Trim.l1]
    have hp : (2 : Int) ^ j ≤ 2 ^ 8 := by
      have : (2 : Nat) ^ j ≤ 2 ^ 8 := Nat.pow_le_pow_right (by omega) (by omega)
      exact_mod_cast this
    have hq : (0 : Int) < 2 ^ j := Int.pow_pos (by omega)
    rw [if_pos (by omega), w64 (x := 2 ^ j * 2) (by omega) (by omega), w64 (x := (j : Int) + 1) (by omega) (by omega), Int.pow_succ]
    rfl
theorem Trim_ev (e N : Int) (d : List Int) (h0 : 0 ≤ N) (h1 : N ≤ 536870911) (hd : (d.length : Int) = ebytes e N) : Ev (fun k => capnpref06_Trim.f k e N d) (tbytes e N d) := by
  have hlen : d.length < 140737488355328 := by
    have hb := ebits_le e
    have hp : 0 ≤ ebits e * N ∧ ebits e * N ≤ 64 * 536870911 := ⟨Int.mul_nonneg hb.1 h0, Int.le_trans (Int.mul_le_mul_of_nonneg_right hb.2 h0) (Int.mul_le_mul_of_nonneg_left h1 (by omega))⟩
    unfold ebytes at hd
    omega
  have main := Ev.loopI d (fun k (s : List Int) i => capnpref06_Trim.l0 k e N d s i) (fun s r => s ++ r.mapIdx (fun j x => tbyte e N (s.length + j) x)) (fun s r => s.length + r.length = d.length)
    (fun s hs => Ev.step (f := fun _ => some s) (fun k => by simp only [capnpref06_Trim.l0, Bytes_some e N h0 h1, Option.bind_some]; rw [if_neg (by omega)]) (by simpa using Ev.now s))
    (fun s i x r hx hl hs hr => by
      have hi := lt_of_at hx
      simp only [List.length_cons] at hs
      have hsi : s.length = i := by omega
      refine Ev.step (f := fun k => if e = 1 then (capnpref06_Trim.j1 k e N d s (i : Int) x (decide ((wrap64 ((wrap64 (8 * (i : Int))) + 8)) > N))) else (capnpref06_Trim.j1 k e N d s (i : Int) x false)) (fun k => by
        simp only [capnpref06_Trim.l0, Bytes_some e N h0 h1, Option.bind_some]
        rw [if_pos (by omega), if_pos (by omega), if_pos hi, rd_at hx]) ?_
      rw [w64 (x := 8 * (i : Int)) (by omega) (by omega), w64 (by omega) (by omega)]
      have plain : tbyte e N i x = x → Ev (fun k => capnpref06_Trim.j1 k e N d s (i : Int) x false) (s ++ (x :: r).mapIdx (fun j x => tbyte e N (s.length + j) x)) := by
        intro ht
        refine Ev.step (f := fun k => capnpref06_Trim.l0 k e N d (s ++ [x]) ((i : Int) + 1)) (fun k => by
          simp only [capnpref06_Trim.j1]
          rw [if_neg (by simp), if_pos (by omega), w64 (by omega) (by omega)]) ?_
        have := hr (s ++ [x]) (by simp; omega)
        rw [List.mapIdx_cons, Nat.add_zero, hsi, ht]
        simpa [hsi, Nat.add_assoc, Nat.add_comm 1] using this
      by_cases he : e = 1
      · simp only [if_pos he]
        by_cases hb : 8 * (i : Int) + 8 > N
        · rw [decide_eq_true hb]
          have hkeep : 0 ≤ N - 8 * (i : Int) := by
            have : ebytes e N = (N + 7) / 8 := by unfold ebytes ebits; rw [if_pos he, Int.one_mul]
            omega
          obtain ⟨n, hn⟩ := Int.eq_ofNat_of_zero_le hkeep
          refine Ev.step (f := fun k => capnpref06_Trim.l1 k e N d s (i : Int) x (n : Int) 1 0) (fun k => by
            simp only [capnpref06_Trim.j1]
            rw [if_pos trivial, w64 (x := 8 * (i : Int)) (by omega) (by omega), w64 (x := N - 8 * (i : Int)) (by omega) (by omega), hn]) ?_
          refine Pow_ev e N d s i x _ n (by omega) ?_ 0 n (by omega)
          simp only [if_pos (show s.length < 140737488355328 by omega)]
          rw [w64 (x := (i : Int) + 1) (by omega) (by omega)]
          have := hr (s ++ [(Int.tmod (wrap64 x) (2 ^ n)) % 256]) (by simp; omega)
          rw [List.mapIdx_cons, Nat.add_zero, hsi]
          have ht : tbyte e N i x = (Int.tmod (wrap64 x) (2 ^ n)) % 256 := by
            unfold tbyte
            rw [if_pos ⟨he, hb⟩, hn, Int.toNat_natCast]
          rw [ht]
          simpa [hsi, Nat.add_assoc, Nat.add_comm 1] using this
        · rw [decide_eq_false hb]
          exact plain (by unfold tbyte; rw [if_neg (by omega)])
      · simp only [if_neg he]
        exact plain (by unfold tbyte; rw [if_neg (by omega)]))
    [] (by simp)
  have e2 : ([] : List Int) ++ d.mapIdx (fun j x => tbyte e N (([] : List Int).length + j) x) = tbytes e N d := by
    unfold tbytes
    simp
  rw [e2] at main
  exact main
theorem Same_ev (a b : List Int) (ha : a.length ≤ 4611686018427387904) : Ev (fun k => capnpref01_Same.f k a b) (decide (a = b)) := by
  unfold capnpref01_Same.f
  by_cases hl : (a.length : Int) = (b.length : Int)
  · simp only [if_pos hl]
    have hl' : a.length = b.length := by omega
    have main := Ev.loopI a (fun k (_ : Unit) i => capnpref01_Same.l0 k a b i) (fun _ r => decide (r = b.drop (a.length - r.length))) (fun _ r => r.length ≤ a.length)
      (fun s hs => Ev.step (f := fun _ => some true) (fun k => by simp only [capnpref01_Same.l0]; rw [if_neg (by omega)]) (by simpa [hl'] using Ev.now true))
      (fun s i x r hx hlr hs hr => by
        have hi := lt_of_at hx
        have hib : i < b.length := by omega
        have hbx : b[i]? = some b[i] := List.getElem?_eq_getElem hib
        have hdr : b.drop i = b[i] :: b.drop (i + 1) := List.drop_eq_getElem_cons hib
        refine Ev.step (f := fun k => if x = b[i] then capnpref01_Same.l0 k a b ((i : Int) + 1) else some false) (fun k => by
          simp only [capnpref01_Same.l0]
          rw [if_pos hi, if_pos (by omega), if_pos (by omega), rd_at hx, rd_at hbx, w64 (by omega) (by omega)]) ?_
        rw [show a.length - (x :: r).length = i by simp; omega, hdr]
        by_cases hxb : x = b[i]
        · simp only [if_pos hxb]
          have := hr () (by simp at hs; omega)
          rw [show a.length - r.length = i + 1 by omega] at this
          rw [show decide (x :: r = b[i] :: b.drop (i + 1)) = decide (r = b.drop (i + 1)) by simp only [List.cons.injEq, hxb, true_and]]
          exact this
        · simp only [if_neg hxb]
          rw [show decide (x :: r = b[i] :: b.drop (i + 1)) = false by simp only [List.cons.injEq, hxb, false_and, decide_false]]
          exact Ev.now false)
      () (by simp)
    simpa using main
  · simp only [if_neg hl]
    rw [show (decide (a = b)) = false by simp; intro h; exact hl (by rw [h])]
    exact Ev.now _
/-! #### well-formed nodes -/
def nvtail (a b c : Int) (d : List Int) (ks : List S30) : Bool := if a = 0 then decide (b = 0 ∧ c = 0 ∧ d.length = 0 ∧ ks.length = 0) else if a = 1 then decide (b = 0 ∧ c = 0 ∧ d.length % 8 = 0 ∧ d.length ≤ 524280 ∧ ks.length ≤ 65535)
      else if a = 2 then decide (0 ≤ c ∧ c ≤ 536870911 ∧ 0 ≤ b ∧ b ≤ 7) && (if 6 ≤ b then decide (d.length = 0 ∧ (ks.length : Int) = c) else decide (ks.length = 0 ∧ (d.length : Int) = ebytes b c ∧ tbytes b c d = d)) else false
mutual
/-- The reference's Valid, as a Bool. -/
def nvalid : S30 → Bool
  | ⟨a, b, c, d, ks⟩ => nvalids a b ks && nvtail a b c d ks
def nvalids (a b : Int) : List S30 → Bool
  | [] => true
  | k :: r => (nvalid k && (!(decide (a = 2 ∧ b = 7)) || decide (k.f0 = 1))) && nvalids a b r
end
theorem Valid_ev (n : S30) : nsz n < 4611686018427387904 → Ev (fun k => capnpref10_Valid.f k n.f0 n.f1 n.f2 n.f3 n.f4) (nvalid n) := by
  induction n using S30.ind with
  | h a b c d ks ih =>
    intro hn
    simp only [nsz] at hn
    refine Ev.step (f := fun k => capnpref10_Valid.l0 k 0 a b c d ks) (fun k => by simp only [capnpref10_Valid.f]) ?_
    have main := Ev.loopI ks (fun k (_ : Unit) i => capnpref10_Valid.l0 k i a b c d ks) (fun _ r => nvalids a b r && nvtail a b c d ks) (fun _ r => ∀ x ∈ r, x ∈ ks)
      (fun _ hs => by
        simp only [nvalids, Bool.true_and]
        unfold nvtail
        by_cases a0 : a = 0
        · refine Ev.step (f := fun _ => some (decide (b = 0 ∧ c = 0 ∧ d.length = 0 ∧ ks.length = 0))) (fun k => ?_) (by rw [if_pos a0]; exact Ev.now _)
          simp only [capnpref10_Valid.l0]
          rw [if_neg (by omega), if_pos a0]
          by_cases b0 : b = 0
          · by_cases c0 : c = 0
            · by_cases d0 : (d.length : Int) = 0
              · rw [if_pos b0, if_pos c0, if_pos d0]
                congr 1
                rw [Bool.eq_iff_iff]
                simp only [beq_iff_eq, decide_eq_true_eq]
                omega
              · rw [if_pos b0, if_pos c0, if_neg d0, decide_eq_false (by omega)]
            · rw [if_pos b0, if_neg c0, decide_eq_false (by omega)]
          · rw [if_neg b0, decide_eq_false (by omega)]
        rw [if_neg a0]
        by_cases a1 : a = 1
        · refine Ev.step (f := fun _ => some (decide (b = 0 ∧ c = 0 ∧ d.length % 8 = 0 ∧ d.length ≤ 524280 ∧ ks.length ≤ 65535))) (fun k => ?_) (by rw [if_pos a1]; exact Ev.now _)
          simp only [capnpref10_Valid.l0]
          rw [if_neg (by omega), if_neg a0, if_pos a1]
          by_cases b0 : b = 0
          · by_cases c0 : c = 0
            · by_cases d0 : ((d.length : Int) % 8) = 0
              · by_cases d1 : (d.length : Int) ≤ 524280
                · rw [if_pos b0, if_pos c0, if_pos d0, if_pos d1]
                  congr 1
                  rw [Bool.eq_iff_iff]
                  simp only [decide_eq_true_eq]
                  omega
                · rw [if_pos b0, if_pos c0, if_pos d0, if_neg d1, decide_eq_false (by omega)]
              · rw [if_pos b0, if_pos c0, if_neg d0, decide_eq_false (by omega)]
            · rw [if_pos b0, if_neg c0, decide_eq_false (by omega)]
          · rw [if_neg b0, decide_eq_false (by omega)]
        rw [if_neg a1]
        by_cases a2 : a = 2
        · rw [if_pos a2]
          by_cases hr : 0 ≤ c ∧ c ≤ 536870911 ∧ 0 ≤ b ∧ b ≤ 7
          · rw [decide_eq_true hr, Bool.true_and]
            obtain ⟨h1, h2, h3, h4⟩ := hr
            refine Ev.step (f := fun k => capnpref10_Valid.j1 k false a b c d ks) (fun k => by
              simp only [capnpref10_Valid.l0]
              rw [if_neg (by omega), if_neg a0, if_neg a1, if_pos a2, if_neg (by omega), if_neg (by omega), if_neg (by omega), decide_eq_false (by omega)]) ?_
            by_cases h6 : 6 ≤ b
            · rw [if_pos h6]
              refine Ev.step (f := fun _ => some (decide (d.length = 0 ∧ (ks.length : Int) = c))) (fun k => ?_) (Ev.now _)
              simp only [capnpref10_Valid.j1]
              rw [if_neg (by simp), if_pos (by omega)]
              by_cases d0 : (d.length : Int) = 0
              · rw [if_pos d0]
                congr 1
                rw [Bool.eq_iff_iff]
                simp only [beq_iff_eq, decide_eq_true_eq]
                omega
              · rw [if_neg d0, decide_eq_false (by omega)]
            · rw [if_neg h6]
              by_cases k0 : (ks.length : Int) = 0
              · refine Ev.step (f := fun k => capnpref10_Valid.j2 k ((d.length : Int) != ebytes b c) a b c d ks) (fun k => by
                  simp only [capnpref10_Valid.j1]
                  rw [if_neg (by simp), if_neg (by omega), if_pos k0, Bytes_some b c h1 h2]
                  rfl) ?_
                by_cases hd : (d.length : Int) = ebytes b c
                · rw [show ((d.length : Int) != ebytes b c) = false by simp [hd]]
                  refine Ev.step (f := fun k => (capnpref06_Trim.f k b c d).bind fun t => (capnpref01_Same.f k t d).bind fun t2 => some t2) (fun k => by
                    simp only [capnpref10_Valid.j2]
                    rw [if_neg (by simp)]) ?_
                  refine Ev.bind (Trim_ev b c d h1 h2 hd) ?_
                  refine Ev.bind (Same_ev _ d (by unfold tbytes; rw [List.length_mapIdx]; omega)) ?_
                  rw [show decide (ks.length = 0 ∧ (d.length : Int) = ebytes b c ∧ tbytes b c d = d) = decide (tbytes b c d = d) by
                    rw [Bool.eq_iff_iff]
                    simp only [decide_eq_true_eq]
                    exact ⟨fun h => h.2.2, fun h => ⟨by omega, hd, h⟩⟩]
                  exact Ev.now _
                · rw [show ((d.length : Int) != ebytes b c) = true by simp [hd]]
                  refine Ev.step (f := fun _ => some false) (fun k => by simp only [capnpref10_Valid.j2]; rw [if_pos trivial]) ?_
                  rw [decide_eq_false (by intro h; exact hd h.2.1)]
                  exact Ev.now _
              · refine Ev.step (f := fun k => capnpref10_Valid.j2 k true a b c d ks) (fun k => by
                  simp only [capnpref10_Valid.j1]
                  rw [if_neg (by simp), if_neg (by omega), if_neg k0]) ?_
                refine Ev.step (f := fun _ => some false) (fun k => by simp only [capnpref10_Valid.j2]; rw [if_pos trivial]) ?_
                rw [decide_eq_false (by intro h; omega)]
                exact Ev.now _
          · rw [decide_eq_false hr, Bool.false_and]
            have hj : Ev (fun k => capnpref10_Valid.j1 k true a b c d ks) false := Ev.step (f := fun _ => some false) (fun k => by simp only [capnpref10_Valid.j1]; rw [if_pos trivial]) (Ev.now _)
            refine Ev.step (f := fun k => capnpref10_Valid.j1 k true a b c d ks) (fun k => ?_) hj
            simp only [capnpref10_Valid.l0]
            rw [if_neg (by omega), if_neg a0, if_neg a1, if_pos a2]
            by_cases q1 : c < 0
            · rw [if_pos q1]
            · rw [if_neg q1]
              by_cases q2 : c > 536870911
              · rw [if_pos q2]
              · rw [if_neg q2]
                by_cases q3 : b < 0
                · rw [if_pos q3]
                · rw [if_neg q3, decide_eq_true (by omega)]
        · rw [if_neg a2]
          refine Ev.step (f := fun _ => some false) (fun k => ?_) (Ev.now _)
          simp only [capnpref10_Valid.l0]
          rw [if_neg (by omega), if_neg a0, if_neg a1, if_neg a2])
      (fun _ i x r hx hl hs hr => by
        have hi := lt_of_at hx
        have hlen := nszs_len ks
        have hxs : nsz x ≤ nszs ks := nszs_mem (hs x (by simp))
        have hnext := hr () (fun y hy => hs y (by simp [hy]))
        refine Ev.step (f := fun k => (capnpref10_Valid.f k x.f0 x.f1 x.f2 x.f3 x.f4).bind fun t => if t = true then (if a = 2 then (if b = 7 then (if x.f0 = 1 then capnpref10_Valid.l0 k ((i : Int) + 1) a b c d ks else some false) else capnpref10_Valid.l0 k ((i : Int) + 1) a b c d ks) else capnpref10_Valid.l0 k ((i : Int) + 1) a b c d ks) else some false) (fun k => by
          simp only [capnpref10_Valid.l0]
          rw [if_pos hi, if_pos (by omega), rd_T30_at hx, w64 (x := (i : Int) + 1) (by omega) (by omega)]) ?_
        refine Ev.bind (ih x (hs x (by simp)) (by omega)) ?_
        simp only [nvalids]
        cases hv : nvalid x with
        | false => simpa using Ev.now false
        | true =>
          simp only [if_true, Bool.true_and]
          by_cases a2 : a = 2
          · simp only [if_pos a2]
            by_cases b7 : b = 7
            · simp only [if_pos b7]
              by_cases x1 : x.f0 = 1
              · simp only [if_pos x1]
                simpa [a2, b7, x1] using hnext
              · simp only [if_neg x1]
                simpa [a2, b7, x1] using Ev.now false
            · simp only [if_neg b7]
              simpa [b7] using hnext
          · simp only [if_neg a2]
            simpa [a2] using hnext)
      () (fun x hx => hx)
    simpa only [nvalid] using main
/-! #### trimmed nodes -/
/-- The reference's Words and Pointers from place i on, n so far. -/
def wlast : Nat → Int → List Int → Int
  | _, n, [] => n
  | i, n, c :: r => wlast (i + 1) (if c = 0 then n else (i : Int) / 8 + 1) r
def plast : Nat → Int → List S30 → Int
  | _, n, [] => n
  | i, n, c :: r => plast (i + 1) (if c.f0 = 0 then n else (i : Int) + 1) r
theorem Words11_ev (d : List Int) (hd : d.length < 4611686018427387904) : Ev (fun k => capnpref11_Words.f k d) (wlast 0 0 d) := by
  unfold capnpref11_Words.f
  have main := Ev.loopI d (fun k (s : Int) i => capnpref11_Words.l0 k d s i) (fun s r => wlast (d.length - r.length) s r) (fun _ r => r.length ≤ d.length)
    (fun s hs => Ev.step (f := fun _ => some s) (fun k => by simp only [capnpref11_Words.l0]; rw [if_neg (by omega)]) (by simp only [wlast]; exact Ev.now _))
    (fun s i x r hx hl hs hr => by
      have hi := lt_of_at hx
      have hnext := hr (if x = 0 then s else (i : Int) / 8 + 1) (by omega)
      rw [show d.length - r.length = i + 1 by omega] at hnext
      rw [show d.length - (x :: r).length = i by simp; omega]
      simp only [wlast]
      refine Ev.step (f := fun k => capnpref11_Words.l0 k d (if x = 0 then s else (i : Int) / 8 + 1) ((i : Int) + 1)) (fun k => ?_) hnext
      simp only [capnpref11_Words.l0]
      rw [if_pos hi, if_pos (by omega), rd_at hx, w64 (x := (i : Int) + 1) (by omega) (by omega)]
      by_cases x0 : x = 0
      · rw [if_pos x0, if_pos x0]
      · rw [if_neg x0, if_neg x0, Int.tdiv_eq_ediv_of_nonneg (by omega), w64 (x := (i : Int) / 8) (by omega) (by omega), w64 (by omega) (by omega)])
    0 (by omega)
  simpa using main
theorem Pointers11_ev (d : List S30) (hd : d.length < 4611686018427387904) : Ev (fun k => capnpref11_Pointers.f k d) (plast 0 0 d) := by
  unfold capnpref11_Pointers.f
  have main := Ev.loopI d (fun k (s : Int) i => capnpref11_Pointers.l0 k d s i) (fun s r => plast (d.length - r.length) s r) (fun _ r => r.length ≤ d.length)
    (fun s hs => Ev.step (f := fun _ => some s) (fun k => by simp only [capnpref11_Pointers.l0]; rw [if_neg (by omega)]) (by simp only [plast]; exact Ev.now _))
    (fun s i x r hx hl hs hr => by
      have hi := lt_of_at hx
      have hnext := hr (if x.f0 = 0 then s else (i : Int) + 1) (by omega)
      rw [show d.length - r.length = i + 1 by omega] at hnext
      rw [show d.length - (x :: r).length = i by simp; omega]
      simp only [plast]
      refine Ev.step (f := fun k => capnpref11_Pointers.l0 k d (if x.f0 = 0 then s else (i : Int) + 1) ((i : Int) + 1)) (fun k => ?_) hnext
      simp only [capnpref11_Pointers.l0]
      rw [if_pos hi, if_pos (by omega), rd_T30_at hx, w64 (x := (i : Int) + 1) (by omega) (by omega)]
      by_cases x0 : x.f0 = 0
      · rw [if_pos x0, if_pos x0]
      · rw [if_neg x0, if_neg x0])
    0 (by omega)
  simpa using main

end Go.Proofs.YtomjnaakkfimhaaDoor.D

namespace Go.Proofs.YtomjnaakkfimhaaDoor.D
open Go.RowKit Go.Proofs.YtomjnaakkfimhaaDoorW.PrintWords Go.Proofs.YtomjnaakkfimhaaDoorW.PrintLast Go.Proofs.YtomjnaakkfimhaaDoorW.PrintMore
attribute [local go_sem] max2_int min2_int max_two min_two max_three min_three max_four min_four
set_option linter.unusedVariables false
set_option linter.unusedSimpArgs false

/-! ### Plain laws of the node functions, continued: trimmed, copied, equal nodes; sizes of canonical forms -/
mutual
/-- The reference's Trimmed, as a Bool. -/
def ntrim : S30 → Bool
  | ⟨a, _, _, d, ks⟩ => (if a = 1 then decide (wrap64 (8 * wlast 0 0 d) = (d.length : Int) ∧ plast 0 0 ks = (ks.length : Int)) else true) && ntrims ks
def ntrims : List S30 → Bool
  | [] => true
  | k :: r => ntrim k && ntrims r
end
theorem Trimmed_ev (n : S30) : nsz n < 4611686018427387904 → Ev (fun k => capnpref11_Trimmed.f k n.f0 n.f1 n.f2 n.f3 n.f4) (ntrim n) := by
  induction n using S30.ind with
  | h a b c d ks ih =>
    intro hn
    simp only [nsz] at hn
    have hlen := nszs_len ks
    have loop : Ev (fun k => capnpref11_Trimmed.l0 k 0 a b c d ks) (ntrims ks) := by
      have main := Ev.loopI ks (fun k (_ : Unit) i => capnpref11_Trimmed.l0 k i a b c d ks) (fun _ r => ntrims r) (fun _ r => ∀ x ∈ r, x ∈ ks)
        (fun _ hs => Ev.step (f := fun _ => some true) (fun k => by simp only [capnpref11_Trimmed.l0]; rw [if_neg (by omega)]) (by simp only [ntrims]; exact Ev.now _))
        (fun _ i x r hx hl hs hr => by
          have hi := lt_of_at hx
          have hxs : nsz x ≤ nszs ks := nszs_mem (hs x (by simp))
          refine Ev.step (f := fun k => (capnpref11_Trimmed.f k x.f0 x.f1 x.f2 x.f3 x.f4).bind fun t => if t = true then capnpref11_Trimmed.l0 k ((i : Int) + 1) a b c d ks else some false) (fun k => by
            simp only [capnpref11_Trimmed.l0]
            rw [if_pos hi, if_pos (by omega), rd_T30_at hx, w64 (x := (i : Int) + 1) (by omega) (by omega)]) ?_
          refine Ev.bind (ih x (hs x (by simp)) (by omega)) ?_
          simp only [ntrims]
          cases ntrim x with
          | false => simpa using Ev.now false
          | true => simpa using hr () (fun y hy => hs y (by simp [hy])))
        () (fun x hx => hx)
      exact main
    have jf : Ev (fun k => capnpref11_Trimmed.j0 k false a b c d ks) (ntrims ks) := Ev.step (f := fun k => capnpref11_Trimmed.l0 k 0 a b c d ks) (fun k => by simp only [capnpref11_Trimmed.j0]; rw [if_neg (by simp)]) loop
    have jt : Ev (fun k => capnpref11_Trimmed.j0 k true a b c d ks) false := Ev.step (f := fun _ => some false) (fun k => by simp only [capnpref11_Trimmed.j0]; rw [if_pos trivial]) (Ev.now _)
    simp only [ntrim]
    by_cases a1 : a = 1
    · refine Ev.step (f := fun k => (capnpref11_Words.f k d).bind fun t => if wrap64 (8 * t) = (d.length : Int) then ((capnpref11_Pointers.f k ks).bind fun t2 => capnpref11_Trimmed.j0 k (t2 != (ks.length : Int)) a b c d ks) else capnpref11_Trimmed.j0 k true a b c d ks) (fun k => by simp only [capnpref11_Trimmed.f]; rw [if_pos a1]) ?_
      refine Ev.bind (Words11_ev d (by omega)) ?_
      rw [if_pos a1]
      by_cases hw : wrap64 (8 * wlast 0 0 d) = (d.length : Int)
      · simp only [if_pos hw]
        refine Ev.bind (Pointers11_ev ks (by omega)) ?_
        by_cases hp : plast 0 0 ks = (ks.length : Int)
        · rw [decide_eq_true ⟨hw, hp⟩, Bool.true_and, show (plast 0 0 ks != (ks.length : Int)) = false by simp [hp]]
          exact jf
        · rw [decide_eq_false (fun h => hp h.2), Bool.false_and, show (plast 0 0 ks != (ks.length : Int)) = true by simp [hp]]
          exact jt
      · simp only [if_neg hw]
        rw [decide_eq_false (fun h => hw h.1), Bool.false_and]
        exact jt
    · refine Ev.step (f := fun k => capnpref11_Trimmed.j0 k false a b c d ks) (fun k => by simp only [capnpref11_Trimmed.f]; rw [if_neg a1]) ?_
      rw [if_neg a1, Bool.true_and]
      exact jf
/-- What the law's guard asks: small, well-formed and trimmed. -/
def nright (n : S30) : Bool := decide (nsz n ≤ 3000 ∧ nnest n ≤ 40) && (nvalid n && ntrim n)
theorem Right_ev (n : S30) (hn : nsz n < 4611686018427387904) : Ev (fun k => capnpref13_Right.f k n.f0 n.f1 n.f2 n.f3 n.f4) (nright n) := by
  unfold capnpref13_Right.f nright
  refine Ev.bind (Few_ev n hn) ?_
  by_cases h : nsz n ≤ 3000 ∧ nnest n ≤ 40
  · simp only [decide_eq_true h, if_true, Bool.true_and]
    refine Ev.bind (Valid_ev n hn) ?_
    cases nvalid n with
    | false => simpa using Ev.now false
    | true =>
      simp only [if_true, Bool.true_and]
      exact Ev.bind (Trimmed_ev n hn) (Ev.now _)
  · simp only [decide_eq_false h, Bool.false_and]
    simpa using Ev.now false
/-! #### copies -/
theorem Copy_ev (n : S30) : nsz n < 1000000000000 → Ev (fun k => capnpref10_Copy.f k n.f0 n.f1 n.f2 n.f3 n.f4) (n.f0, n.f1, n.f2, n.f3, n.f4) := by
  induction n using S30.ind with
  | h a b c d ks ih =>
    intro hn
    simp only [nsz] at hn
    have hlen := nszs_len ks
    refine Ev.step (f := fun k => capnpref10_Copy.l0 k 0 a b c d ks a b c d []) (fun k => by
      simp only [capnpref10_Copy.f, Option.bind_some]
      rw [if_pos (by simp; omega), List.nil_append]) ?_
    have main := Ev.loopI ks (fun k (s : List S30) i => capnpref10_Copy.l0 k i a b c d ks a b c d s) (fun s r => (a, b, c, d, s ++ r)) (fun s r => s.length + r.length = ks.length ∧ ∀ x ∈ r, x ∈ ks)
      (fun s hs => Ev.step (f := fun _ => some (a, b, c, d, s)) (fun k => by simp only [capnpref10_Copy.l0]; rw [if_neg (by omega)]) (by rw [List.append_nil]; exact Ev.now _))
      (fun s i x r hx hl hs hr => by
        have hi := lt_of_at hx
        have hxs : nsz x ≤ nszs ks := nszs_mem (hs.2 x (by simp))
        have hsl := hs.1
        simp only [List.length_cons] at hsl
        refine Ev.step (f := fun k => (capnpref10_Copy.f k x.f0 x.f1 x.f2 x.f3 x.f4).bind fun t => capnpref10_Copy.l0 k ((i : Int) + 1) a b c d ks a b c d (s ++ [(⟨t.1, t.2.1, t.2.2.1, t.2.2.2.1, t.2.2.2.2⟩ : S30)])) (fun k => by
          simp only [capnpref10_Copy.l0]
          rw [if_pos hi, if_pos (by omega), rd_T30_at hx, w64 (x := (i : Int) + 1) (by omega) (by omega)]
          simp only [if_pos (show s.length < 1954687338268 by omega)]) ?_
        refine Ev.bind (ih x (hs.2 x (by simp)) (by omega)) ?_
        have := hr (s ++ [x]) ⟨by simp; omega, fun y hy => hs.2 y (by simp [hy])⟩
        simp only [List.append_assoc, List.singleton_append] at this
        obtain ⟨x0, x1, x2, x3, x4⟩ := x
        exact this)
      [] ⟨by simp, fun x hx => hx⟩
    exact main
/-! #### equal nodes -/
open Classical in
theorem Equal_ev (n m : S30) : nsz n < 4611686018427387904 → Ev (fun k => capnpref10_Equal.f k n.f0 n.f1 n.f2 n.f3 n.f4 m.f0 m.f1 m.f2 m.f3 m.f4) (decide (n = m)) := by
  induction n using S30.ind generalizing m with
  | h a b c d ks ih =>
    intro hn
    simp only [nsz] at hn
    have hlen := nszs_len ks
    obtain ⟨a', b', c', d', ks'⟩ := m
    have jt : Ev (fun k => capnpref10_Equal.j0 k true a b c d ks a' b' c' d' ks') false := Ev.step (f := fun _ => some false) (fun k => by simp only [capnpref10_Equal.j0]; rw [if_pos trivial]) (Ev.now _)
    have no : (⟨a, b, c, d, ks⟩ : S30) ≠ ⟨a', b', c', d', ks'⟩ → decide ((⟨a, b, c, d, ks⟩ : S30) = ⟨a', b', c', d', ks'⟩) = false := fun h => decide_eq_false h
    by_cases ha : a = a'
    · by_cases hb : b = b'
      · by_cases hc : c = c'
        · refine Ev.step (f := fun k => (capnpref01_Same.f k d d').bind fun t => if t = true then capnpref10_Equal.j0 k ((ks.length : Int) != (ks'.length : Int)) a b c d ks a' b' c' d' ks' else capnpref10_Equal.j0 k true a b c d ks a' b' c' d' ks') (fun k => by simp only [capnpref10_Equal.f]; rw [if_pos ha, if_pos hb, if_pos hc]) ?_
          refine Ev.bind (Same_ev d d' (by omega)) ?_
          by_cases hd : d = d'
          · simp only [decide_eq_true hd, if_true]
            by_cases hl : ks.length = ks'.length
            · rw [show ((ks.length : Int) != (ks'.length : Int)) = false by simp [hl]]
              refine Ev.step (f := fun k => capnpref10_Equal.l0 k 0 a b c d ks a' b' c' d' ks') (fun k => by simp only [capnpref10_Equal.j0]; rw [if_neg (by simp)]) ?_
              have main := Ev.loopI ks (fun k (_ : Unit) i => capnpref10_Equal.l0 k i a b c d ks a' b' c' d' ks') (fun _ r => decide (r = ks'.drop (ks.length - r.length))) (fun _ r => r.length ≤ ks.length ∧ ∀ x ∈ r, x ∈ ks)
                (fun _ hs => Ev.step (f := fun _ => some true) (fun k => by simp only [capnpref10_Equal.l0]; rw [if_neg (by omega)]) (by simpa [hl] using Ev.now true))
                (fun _ i x r hx hlr hs hr => by
                  have hi := lt_of_at hx
                  have hib : i < ks'.length := by omega
                  have hbx : ks'[i]? = some ks'[i] := List.getElem?_eq_getElem hib
                  have hdr : ks'.drop i = ks'[i] :: ks'.drop (i + 1) := List.drop_eq_getElem_cons hib
                  have hxs : nsz x ≤ nszs ks := nszs_mem (hs.2 x (by simp))
                  obtain ⟨y, hy⟩ : ∃ y, ks'[i] = y := ⟨_, rfl⟩
                  rw [hy] at hbx hdr
                  refine Ev.step (f := fun k => (capnpref10_Equal.f k x.f0 x.f1 x.f2 x.f3 x.f4 y.f0 y.f1 y.f2 y.f3 y.f4).bind fun t => if t = true then capnpref10_Equal.l0 k ((i : Int) + 1) a b c d ks a' b' c' d' ks' else some false) (fun k => by
                    simp only [capnpref10_Equal.l0]
                    rw [if_pos hi, if_pos (by omega), if_pos (by omega), rd_T30_at hx, rd_T30_at hbx, w64 (x := (i : Int) + 1) (by omega) (by omega)]) ?_
                  refine Ev.bind (ih x (hs.2 x (by simp)) y (by omega)) ?_
                  rw [show ks.length - (x :: r).length = i by simp; omega, hdr]
                  by_cases hxb : x = y
                  · simp only [decide_eq_true hxb, if_true]
                    have := hr () ⟨by omega, fun y hy => hs.2 y (by simp [hy])⟩
                    rw [show ks.length - r.length = i + 1 by omega] at this
                    rw [show decide (x :: r = y :: ks'.drop (i + 1)) = decide (r = ks'.drop (i + 1)) by simp only [List.cons.injEq, hxb, true_and]]
                    exact this
                  · simp only [decide_eq_false hxb]
                    rw [show decide (x :: r = y :: ks'.drop (i + 1)) = false by simp only [List.cons.injEq, hxb, false_and, decide_false]]
                    simpa using Ev.now false)
                () ⟨by omega, fun x hx => hx⟩
              rw [show decide ((⟨a, b, c, d, ks⟩ : S30) = ⟨a', b', c', d', ks'⟩) = decide (ks = ks'.drop (ks.length - ks.length)) by simp [ha, hb, hc, hd]]
              exact main
            · rw [show ((ks.length : Int) != (ks'.length : Int)) = true by simp; omega, no (by intro h; injection h with _ _ _ _ h; exact hl (by rw [h]))]
              exact jt
          · simp only [decide_eq_false hd]
            rw [no (by intro h; injection h with _ _ _ h _; exact hd h)]
            simpa using jt
        · refine Ev.step (f := fun k => capnpref10_Equal.j0 k true a b c d ks a' b' c' d' ks') (fun k => by simp only [capnpref10_Equal.f]; rw [if_pos ha, if_pos hb, if_neg hc]) ?_
          rw [no (by intro h; injection h with _ _ h _ _; exact hc h)]
          exact jt
      · refine Ev.step (f := fun k => capnpref10_Equal.j0 k true a b c d ks a' b' c' d' ks') (fun k => by simp only [capnpref10_Equal.f]; rw [if_pos ha, if_neg hb]) ?_
        rw [no (by intro h; injection h with _ h _ _ _; exact hb h)]
        exact jt
    · refine Ev.step (f := fun k => capnpref10_Equal.j0 k true a b c d ks a' b' c' d' ks') (fun k => by simp only [capnpref10_Equal.f]; rw [if_neg ha]) ?_
      rw [no (by intro h; injection h with h _ _ _ _; exact ha h)]
      exact jt
/-! #### sizes of canonical forms -/
def umax (f : S30 → Int) : List S30 → Int
  | [] => 0
  | k :: r => max (f k) (umax f r)
def ux (ks : List S30) : Int := umax (fun k => (k.f3.length : Int) / 8) ks
def uy (ks : List S30) : Int := umax (fun k => (k.f4.length : Int)) ks
theorem umax_le (f : S30 → Int) (ks : List S30) (B : Int) (h0 : 0 ≤ B) (h : ∀ k ∈ ks, f k ≤ B) : 0 ≤ umax f ks ∧ umax f ks ≤ B := by
  induction ks with
  | nil => simp only [umax]; omega
  | cons a r ih =>
    have h1 := h a (by simp)
    have h2 := ih (fun k hk => h k (by simp [hk]))
    simp only [umax]
    omega
theorem f3_le (k : S30) : (k.f3.length : Int) ≤ nsz k := by cases k; simp only [nsz]; omega
theorem f4_le (k : S30) : (k.f4.length : Int) ≤ nsz k := by
  obtain ⟨a, b, c, d, ks⟩ := k
  have := nszs_len ks
  simp only [nsz]
  omega
theorem ux_le (ks : List S30) : 0 ≤ ux ks ∧ ux ks ≤ nszs ks := umax_le _ ks _ (by omega) (fun k hk => by have := f3_le k; have := nszs_mem hk; omega)
theorem uy_le (ks : List S30) : 0 ≤ uy ks ∧ uy ks ≤ nszs ks := umax_le _ ks _ (by omega) (fun k hk => by have := f4_le k; have := nszs_mem hk; omega)
theorem Uniform_ev (a b c : Int) (d : List Int) (ks : List S30) (hn : nszs ks < 4611686018427387904) : Ev (fun k => trim_Uniform.f k a b c d ks) (ux ks, uy ks) := by
  unfold trim_Uniform.f
  have hlen := nszs_len ks
  have main := Ev.loopI ks (fun k (s : Int × Int) i => trim_Uniform.l0 k s.1 s.2 ks (ks.length : Int) i) (fun s r => (max s.1 (ux r), max s.2 (uy r))) (fun s r => 0 ≤ s.1 ∧ 0 ≤ s.2 ∧ ∀ x ∈ r, x ∈ ks)
    (fun s hs => Ev.step (f := fun _ => some s) (fun k => by simp only [trim_Uniform.l0]; rw [if_neg (by omega)]) (by
      simp only [ux, uy, umax]
      rw [show max s.1 0 = s.1 by omega, show max s.2 0 = s.2 by omega]
      exact Ev.now _))
    (fun s i x r hx hl hs hr => by
      have hi := lt_of_at hx
      have hxs : nsz x ≤ nszs ks := nszs_mem (hs.2.2 x (by simp))
      have h3 := f3_le x
      refine Ev.step (f := fun k => trim_Uniform.l0 k (max s.1 ((x.f3.length : Int) / 8)) (max s.2 (x.f4.length : Int)) ks (ks.length : Int) ((i : Int) + 1)) (fun k => by
        simp only [trim_Uniform.l0]
        rw [if_pos (by omega), if_pos (by omega), if_pos hi, rd_T30_at hx, w64 (x := (i : Int) + 1) (by omega) (by omega), w64 (x := (x.f3.length : Int) / 8) (by omega) (by omega),
          show mx s.1 ((x.f3.length : Int) / 8) = max s.1 ((x.f3.length : Int) / 8) by unfold mx; split <;> omega, show mx s.2 (x.f4.length : Int) = max s.2 (x.f4.length : Int) by unfold mx; split <;> omega]) ?_
      have := hr (max s.1 ((x.f3.length : Int) / 8), max s.2 (x.f4.length : Int)) ⟨by simp only; omega, by simp only; omega, fun y hy => hs.2.2 y (by simp [hy])⟩
      simp only [ux, uy, umax] at this ⊢
      rw [show max s.1 (max ((x.f3.length : Int) / 8) (umax (fun k => (k.f3.length : Int) / 8) r)) = max (max s.1 ((x.f3.length : Int) / 8)) (umax (fun k => (k.f3.length : Int) / 8) r) by omega,
        show max s.2 (max (x.f4.length : Int) (umax (fun k => (k.f4.length : Int)) r)) = max (max s.2 (x.f4.length : Int)) (umax (fun k => (k.f4.length : Int)) r) by omega]
      exact this)
    (0, 0) ⟨by omega, by omega, fun x hx => hx⟩
  have hx := ux_le ks
  have hy := uy_le ks
  rw [show ((ux ks, uy ks) : Int × Int) = (max 0 (ux ks), max 0 (uy ks)) by rw [show max 0 (ux ks) = ux ks by omega, show max 0 (uy ks) = uy ks by omega]]
  exact main
/-- The canonical size of an object. -/
def nobj (n : S30) : Int := if n.f0 = 0 then 0 else if n.f0 = 1 then (n.f3.length : Int) / 8 + (n.f4.length : Int) else if n.f1 = 7 then 1 + n.f2 * (ux n.f4 + uy n.f4) else (ebits n.f1 * n.f2 + 63) / 64
mutual
/-- The canonical size of a node: its own, and that of all that its pointers refer to. -/
def nnode : S30 → Int
  | ⟨a, b, c, d, ks⟩ => nobj ⟨a, b, c, d, ks⟩ + (if b = 7 then nnode2 ks else nnodes ks)
def nnodes : List S30 → Int
  | [] => 0
  | k :: r => nnode k + nnodes r
def nnode2 : List S30 → Int
  | [] => 0
  | ⟨_, _, _, _, ks⟩ :: r => nnodes ks + nnode2 r
end
theorem nvalids_mem {a b : Int} {ks : List S30} (h : nvalids a b ks = true) {k : S30} (hk : k ∈ ks) : nvalid k = true ∧ (a = 2 → b = 7 → k.f0 = 1) := by
  induction ks with
  | nil => cases hk
  | cons x r ih =>
    simp only [nvalids, Bool.and_eq_true] at h
    rcases List.mem_cons.1 hk with e | e
    · subst e
      refine ⟨h.1.1, fun a2 b7 => ?_⟩
      have := h.1.2
      simpa [a2, b7] using this
    · exact ih h.2 e
theorem nvalid_kids {n : S30} (h : nvalid n = true) {k : S30} (hk : k ∈ n.f4) : nvalid k = true := by
  obtain ⟨a, b, c, d, ks⟩ := n
  simp only [nvalid, Bool.and_eq_true] at h
  exact (nvalids_mem h.1 hk).1
/-- What a well-formed node's own fields satisfy. -/
theorem nvalid_own {n : S30} (h : nvalid n = true) : (n.f0 = 0 ∧ n.f1 = 0 ∧ n.f2 = 0 ∧ n.f3 = [] ∧ n.f4 = []) ∨ (n.f0 = 1 ∧ n.f1 = 0 ∧ n.f2 = 0 ∧ n.f3.length % 8 = 0 ∧ n.f3.length ≤ 524280 ∧ n.f4.length ≤ 65535) ∨
    (n.f0 = 2 ∧ 0 ≤ n.f2 ∧ n.f2 ≤ 536870911 ∧ 0 ≤ n.f1 ∧ n.f1 ≤ 7 ∧ ((6 ≤ n.f1 ∧ n.f3 = [] ∧ (n.f4.length : Int) = n.f2 ∧ (n.f1 = 7 → ∀ k ∈ n.f4, k.f0 = 1)) ∨ (n.f1 < 6 ∧ n.f4 = [] ∧ (n.f3.length : Int) = ebytes n.f1 n.f2 ∧ tbytes n.f1 n.f2 n.f3 = n.f3))) := by
  obtain ⟨a, b, c, d, ks⟩ := n
  simp only [nvalid, Bool.and_eq_true] at h
  obtain ⟨hk, ht⟩ := h
  unfold nvtail at ht
  by_cases a0 : a = 0
  · rw [if_pos a0, decide_eq_true_eq] at ht
    exact .inl ⟨a0, ht.1, ht.2.1, List.eq_nil_of_length_eq_zero ht.2.2.1, List.eq_nil_of_length_eq_zero ht.2.2.2⟩
  rw [if_neg a0] at ht
  by_cases a1 : a = 1
  · rw [if_pos a1, decide_eq_true_eq] at ht
    exact .inr (.inl ⟨a1, ht⟩)
  rw [if_neg a1] at ht
  by_cases a2 : a = 2
  · rw [if_pos a2, Bool.and_eq_true, decide_eq_true_eq] at ht
    obtain ⟨⟨h1, h2, h3, h4⟩, ht⟩ := ht
    refine .inr (.inr ⟨a2, h1, h2, h3, h4, ?_⟩)
    by_cases h6 : 6 ≤ b
    · rw [if_pos h6, decide_eq_true_eq] at ht
      exact .inl ⟨h6, List.eq_nil_of_length_eq_zero ht.1, ht.2, fun b7 k hm => (nvalids_mem hk hm).2 a2 b7⟩
    · rw [if_neg h6, decide_eq_true_eq] at ht
      exact .inr ⟨by simp only; omega, List.eq_nil_of_length_eq_zero ht.1, ht.2⟩
  · rw [if_neg a2] at ht
    cases ht
theorem nobj_le {n : S30} (h : nvalid n = true) (hs : nsz n ≤ 1048576) : 0 ≤ nobj n ∧ nobj n ≤ 2199023255553 := by
  have hx := ux_le n.f4
  have hy := uy_le n.f4
  have h3 := f3_le n
  have h4 := f4_le n
  have hk : nszs n.f4 ≤ nsz n := by cases n; simp only [nsz]; omega
  unfold nobj
  rcases nvalid_own h with h | h | ⟨h0, h1, h2, h5, h6, h7⟩
  · rw [if_pos h.1]; omega
  · rw [if_neg (by omega), if_pos h.1]; omega
  · rw [if_neg (by omega), if_neg (by omega)]
    by_cases b7 : n.f1 = 7
    · rw [if_pos b7]
      rcases h7 with ⟨_, _, hl, _⟩ | ⟨h, _⟩
      · have hb : n.f2 ≤ 1048576 := by omega
        have hu : 0 ≤ ux n.f4 + uy n.f4 ∧ ux n.f4 + uy n.f4 ≤ 2097152 := by omega
        have p0 := Int.mul_nonneg h1 hu.1
        have p1 : n.f2 * (ux n.f4 + uy n.f4) ≤ 1048576 * 2097152 := Int.le_trans (Int.mul_le_mul_of_nonneg_right hb hu.1) (Int.mul_le_mul_of_nonneg_left hu.2 (by omega))
        omega
      · omega
    · rw [if_neg b7]
      obtain ⟨b0, b1⟩ := ebits_le n.f1
      have p0 := Int.mul_nonneg b0 h1
      have p1 : ebits n.f1 * n.f2 ≤ 64 * 536870911 := Int.le_trans (Int.mul_le_mul_of_nonneg_right b1 h1) (Int.mul_le_mul_of_nonneg_left h2 (by omega))
      omega
theorem bitsL_eq {e : Int} (h0 : 0 ≤ e) (h7 : e ≤ 7) : bitsL.getD e.toNat 0 = ebits e := by
  have : e = 0 ∨ e = 1 ∨ e = 2 ∨ e = 3 ∨ e = 4 ∨ e = 5 ∨ e = 6 ∨ e = 7 := by omega
  rcases this with rfl | rfl | rfl | rfl | rfl | rfl | rfl | rfl <;> rfl
theorem Words6_some {e N : Int} (h0 : 0 ≤ e) (h7 : e < 7) (n0 : 0 ≤ N) (n1 : N ≤ 536870911) : listsize_Words.f e N = some ((ebits e * N + 63) / 64) := by
  unfold listsize_Words.f listsize_up.f
  rw [if_neg (by omega), if_pos h0, if_pos (by omega), if_neg (by omega), bitsL_eq h0 (by omega)]
  obtain ⟨b0, b1⟩ := ebits_le e
  have p0 := Int.mul_nonneg b0 n0
  have p1 : ebits e * N ≤ 64 * 536870911 := Int.le_trans (Int.mul_le_mul_of_nonneg_right b1 n0) (Int.mul_le_mul_of_nonneg_left n1 (by omega))
  generalize ebits e * N = x at p0 p1 ⊢
  rw [w64 (x := x) (by omega) (by omega), w64 (x := x + 64) (by omega) (by omega), w64 (x := x + 64 - 1) (by omega) (by omega), Int.tdiv_eq_ediv_of_nonneg (by omega), w64 (by omega) (by omega)]
  congr 1
  omega
theorem Object_ev {n : S30} (h : nvalid n = true) (hs : nsz n ≤ 1048576) : Ev (fun k => canonsize_Object.f k n.f0 n.f1 n.f2 n.f3 n.f4) (nobj n) := by
  have hle := nobj_le h hs
  have h3 := f3_le n
  have h4 := f4_le n
  have hk : nszs n.f4 ≤ nsz n := by cases n; simp only [nsz]; omega
  have hx := ux_le n.f4
  have hy := uy_le n.f4
  unfold nobj at hle ⊢
  unfold canonsize_Object.f
  rcases nvalid_own h with h | h | ⟨h0, h1, h2, h5, h6, h7⟩
  · simp only [if_pos h.1]; exact Ev.now _
  · have e0 : ¬ n.f0 = 0 := by omega
    simp only [if_neg e0, if_pos h.1]
    rw [w64 (x := (n.f3.length : Int) / 8) (by omega) (by omega), w64 (by omega) (by omega)]
    exact Ev.now _
  · have e0 : ¬ n.f0 = 0 := by omega
    have e1 : ¬ n.f0 = 1 := by omega
    simp only [if_neg e0, if_neg e1] at hle ⊢
    by_cases b7 : n.f1 = 7
    · simp only [if_pos b7] at hle ⊢
      refine Ev.bind (Uniform_ev n.f0 n.f1 n.f2 n.f3 n.f4 (by omega)) ?_
      simp only
      rw [w64 (x := ux n.f4 + uy n.f4) (by omega) (by omega), w64 (x := n.f2 * (ux n.f4 + uy n.f4)) (by omega) (by omega), w64 (by omega) (by omega)]
      exact Ev.now _
    · simp only [if_neg b7]
      rw [Words6_some (by omega) (by omega) h1 h2]
      exact Ev.now _

end Go.Proofs.YtomjnaakkfimhaaDoor.D

namespace Go.Proofs.YtomjnaakkfimhaaDoor.D
open Go.RowKit Go.Proofs.YtomjnaakkfimhaaDoorW.PrintWords Go.Proofs.YtomjnaakkfimhaaDoorW.PrintLast Go.Proofs.YtomjnaakkfimhaaDoorW.PrintMore
attribute [local go_sem] max2_int min2_int max_two min_two max_three min_three max_four min_four
set_option linter.unusedVariables false
set_option linter.unusedSimpArgs false

/-! ### The size of a canonical form: canonsize.Node, and the law that it keeps the node -/
theorem nsz_kid {n k : S30} (h : k ∈ n.f4) : nsz k < nsz n := by
  obtain ⟨a, b, c, d, ks⟩ := n
  have : nsz k ≤ nszs ks := nszs_mem h
  simp only [nsz]
  omega
theorem nnode_eq (n : S30) : nnode n = nobj n + (if n.f1 = 7 then nnode2 n.f4 else nnodes n.f4) := by cases n; simp only [nnode]
theorem nnodes_le {ks : List S30} (h : ∀ k ∈ ks, 0 ≤ nnode k ∧ nnode k ≤ nsz k * 2199023255553) : 0 ≤ nnodes ks ∧ nnodes ks ≤ nszs ks * 2199023255553 := by
  induction ks with
  | nil => simp only [nnodes, nszs]; omega
  | cons x r ih =>
    have h1 := h x (by simp)
    have h2 := ih (fun k hk => h k (by simp [hk]))
    simp only [nnodes, nszs]
    omega
theorem nnode2_le {ks : List S30} (h : ∀ k ∈ ks, 0 ≤ nnodes k.f4 ∧ nnodes k.f4 ≤ nszs k.f4 * 2199023255553) : 0 ≤ nnode2 ks ∧ nnode2 ks ≤ nszs ks * 2199023255553 := by
  induction ks with
  | nil => simp only [nnode2, nszs]; omega
  | cons x r ih =>
    have h1 := h x (by simp)
    have h2 := ih (fun k hk => h k (by simp [hk]))
    obtain ⟨a, b, c, d, ys⟩ := x
    simp only [nnode2, nszs, nsz] at *
    omega
theorem nnode_le (m : Nat) : ∀ n : S30, nsz n ≤ m → nvalid n = true → nsz n ≤ 1048576 → 0 ≤ nnode n ∧ nnode n ≤ nsz n * 2199023255553 := by
  induction m with
  | zero => intro n h; exfalso; cases n; simp only [nsz] at h; omega
  | succ m ih =>
    intro n hm hv hs
    have ho := nobj_le hv hs
    have hk : nszs n.f4 < nsz n := by cases n; simp only [nsz]; omega
    have one : ∀ x : S30, nvalid x = true → nsz x < nsz n → 0 ≤ nnodes x.f4 ∧ nnodes x.f4 ≤ nszs x.f4 * 2199023255553 := fun x hx hlt => nnodes_le (fun y hy => by
      have := nsz_kid hy
      exact ih y (by omega) (nvalid_kids hx hy) (by omega))
    rw [nnode_eq]
    by_cases b7 : n.f1 = 7
    · rw [if_pos b7]
      have := nnode2_le (ks := n.f4) (fun x hx => one x (nvalid_kids hv hx) (nsz_kid hx))
      omega
    · rw [if_neg b7]
      have := nnodes_le (ks := n.f4) (fun x hx => by have := nsz_kid hx; exact ih x (by omega) (nvalid_kids hv hx) (by omega))
      omega
theorem Node1_ev (m : Nat) : ∀ (n : S30) (s : Int), nsz n ≤ m → nvalid n = true → nsz n ≤ 1048576 → 0 ≤ s → s + nnode n ≤ 4611686018427387904 → Ev (fun k => canonsize_Node_1.f k s n.f0 n.f1 n.f2 n.f3 n.f4) (s + nnode n) := by
  induction m with
  | zero => intro n s h; exfalso; cases n; simp only [nsz] at h; omega
  | succ m ih =>
    intro n s hm hv hs h0 hle
    have ho := nobj_le hv hs
    have hk : nszs n.f4 < nsz n := by cases n; simp only [nsz]; omega
    have hlen := nszs_len n.f4
    rw [nnode_eq] at hle ⊢
    have kid : ∀ x ∈ n.f4, 0 ≤ nnode x ∧ nnode x ≤ nsz x * 2199023255553 := fun x hx => nnode_le (nsz x) x (by omega) (nvalid_kids hv hx) (by have := nsz_kid hx; omega)
    have grand : ∀ x ∈ n.f4, ∀ y ∈ x.f4, 0 ≤ nnode y ∧ nnode y ≤ nsz y * 2199023255553 := fun x hx y hy => nnode_le (nsz y) y (by omega) (nvalid_kids (nvalid_kids hv hx) hy) (by have := nsz_kid hx; have := nsz_kid hy; omega)
    refine Ev.step (f := fun k => (canonsize_Object.f k n.f0 n.f1 n.f2 n.f3 n.f4).bind fun t => canonsize_Node_1.l0 k (wrap64 (s + t)) n.f1 n.f4 0) (fun k => by simp only [canonsize_Node_1.f]) ?_
    refine Ev.bind (Object_ev hv hs) ?_
    by_cases b7 : n.f1 = 7
    · simp only [if_pos b7] at hle ⊢
      have h2 := nnode2_le (ks := n.f4) (fun x hx => nnodes_le (grand x hx))
      rw [w64 (x := s + nobj n) (by omega) (by omega)]
      have main := Ev.loopI n.f4 (fun k (s : Int) i => canonsize_Node_1.l0 k s n.f1 n.f4 i) (fun s r => s + nnode2 r) (fun s r => 0 ≤ s ∧ s + nnode2 r ≤ 4611686018427387904 ∧ ∀ x ∈ r, x ∈ n.f4)
        (fun s hs => Ev.step (f := fun _ => some s) (fun k => by simp only [canonsize_Node_1.l0]; rw [if_neg (by omega)]) (by simp only [nnode2]; rw [Int.add_zero]; exact Ev.now _))
        (fun s i x r hx hl hI hr => by
          have hi := lt_of_at hx
          have hxm := hI.2.2 x (by simp)
          have hxs := nsz_kid hxm
          have hx4 := nszs_len x.f4
          have hxk : nszs x.f4 < nsz x := by cases x; simp only [nsz]; omega
          have hg := nnodes_le (grand x hxm)
          have h2 := nnode2_le (ks := r) (fun y hy => nnodes_le (grand y (hI.2.2 y (by simp [hy]))))
          obtain ⟨hI0, hI1, hI2⟩ := hI
          have e2 : nnode2 (x :: r) = nnodes x.f4 + nnode2 r := by cases x; simp only [nnode2]
          rw [e2] at hI1 ⊢
          refine Ev.step (f := fun k => canonsize_Node_1.l1 k s x.f4 0 n.f1 n.f4 (i : Int)) (fun k => by
            simp only [canonsize_Node_1.l0]
            rw [if_pos hi, if_pos (by omega), if_pos b7, rd_T30_at hx]) ?_
          have inner := Ev.loopI x.f4 (fun k (s : Int) j => canonsize_Node_1.l1 k s x.f4 j n.f1 n.f4 (i : Int)) (fun s q => s + nnodes q + nnode2 r) (fun s q => 0 ≤ s ∧ s + nnodes q + nnode2 r ≤ 4611686018427387904 ∧ ∀ y ∈ q, y ∈ x.f4)
            (fun s hs => by
              have := hr s ⟨hs.1, by have := hs.2.1; simp only [nnodes] at this; omega, fun y hy => hI2 y (by simp [hy])⟩
              refine Ev.step (f := fun k => canonsize_Node_1.l0 k s n.f1 n.f4 ((i : Int) + 1)) (fun k => by simp only [canonsize_Node_1.l1]; rw [if_neg (by omega), w64 (by omega) (by omega)]) ?_
              simp only [nnodes, Int.add_zero]
              exact this)
            (fun s j y q hy hlq hJ hrq => by
              have hj := lt_of_at hy
              have hym := hJ.2.2 y (by simp)
              have hys := nsz_kid hym
              have hn := grand x hxm y hym
              have hq := nnodes_le (ks := q) (fun z hz => grand x hxm z (hJ.2.2 z (by simp [hz])))
              obtain ⟨hJ0, hJ1, hJ2⟩ := hJ
              simp only [nnodes] at hJ1 ⊢
              refine Ev.step (f := fun k => (canonsize_Node_1.f k s y.f0 y.f1 y.f2 y.f3 y.f4).bind fun t => canonsize_Node_1.l1 k t x.f4 ((j : Int) + 1) n.f1 n.f4 (i : Int)) (fun k => by
                simp only [canonsize_Node_1.l1]
                rw [if_pos hj, if_pos (by omega), rd_T30_at hy, w64 (x := (j : Int) + 1) (by omega) (by omega)]) ?_
              refine Ev.bind (ih y s (by omega) (nvalid_kids (nvalid_kids hv hxm) hym) (by omega) hJ0 (by omega)) ?_
              have := hrq (s + nnode y) ⟨by omega, by omega, fun z hz => hJ2 z (by simp [hz])⟩
              rw [show s + (nnode y + nnodes q) + nnode2 r = s + nnode y + nnodes q + nnode2 r by omega]
              exact this)
            s ⟨hI0, by omega, fun y hy => hy⟩
          rw [show s + (nnodes x.f4 + nnode2 r) = s + nnodes x.f4 + nnode2 r by omega]
          exact inner)
        (s + nobj n) ⟨by omega, by omega, fun x hx => hx⟩
      rw [show s + (nobj n + nnode2 n.f4) = s + nobj n + nnode2 n.f4 by omega]
      exact main
    · simp only [if_neg b7] at hle ⊢
      have h2 := nnodes_le kid
      rw [w64 (x := s + nobj n) (by omega) (by omega)]
      have main := Ev.loopI n.f4 (fun k (s : Int) i => canonsize_Node_1.l0 k s n.f1 n.f4 i) (fun s r => s + nnodes r) (fun s r => 0 ≤ s ∧ s + nnodes r ≤ 4611686018427387904 ∧ ∀ x ∈ r, x ∈ n.f4)
        (fun s hs => Ev.step (f := fun _ => some s) (fun k => by simp only [canonsize_Node_1.l0]; rw [if_neg (by omega)]) (by simp only [nnodes]; rw [Int.add_zero]; exact Ev.now _))
        (fun s i x r hx hl hI hr => by
          have hi := lt_of_at hx
          have hxm := hI.2.2 x (by simp)
          have hxs := nsz_kid hxm
          have hn := kid x hxm
          have hq := nnodes_le (ks := r) (fun z hz => kid z (hI.2.2 z (by simp [hz])))
          obtain ⟨hI0, hI1, hI2⟩ := hI
          simp only [nnodes] at hI1 ⊢
          refine Ev.step (f := fun k => (canonsize_Node_1.f k s x.f0 x.f1 x.f2 x.f3 x.f4).bind fun t => canonsize_Node_1.l0 k t n.f1 n.f4 ((i : Int) + 1)) (fun k => by
            simp only [canonsize_Node_1.l0]
            rw [if_pos hi, if_pos (by omega), if_neg b7, rd_T30_at hx, w64 (x := (i : Int) + 1) (by omega) (by omega)]) ?_
          refine Ev.bind (ih x s (by omega) (nvalid_kids hv hxm) (by omega) hI0 (by omega)) ?_
          have := hr (s + nnode x) ⟨by omega, by omega, fun z hz => hI2 z (by simp [hz])⟩
          rw [show s + (nnode x + nnodes r) = s + nnode x + nnodes r by omega]
          exact this)
        (s + nobj n) ⟨by omega, by omega, fun x hx => hx⟩
      rw [show s + (nobj n + nnodes n.f4) = s + nobj n + nnodes n.f4 by omega]
      exact main
theorem Node_ev {n : S30} (hv : nvalid n = true) (hs : nsz n ≤ 1048576) : Ev (fun k => canonsize_Node.f k n.f0 n.f1 n.f2 n.f3 n.f4) (nnode n) := by
  have := Node1_ev (nsz n) n 0 (by omega) hv hs (by omega) (by have := nnode_le (nsz n) n (by omega) hv hs; omega)
  rw [Int.zero_add] at this
  exact this
theorem Total_ev {n : S30} (hv : nvalid n = true) (hs : nsz n ≤ 1048576) : Ev (fun k => canonsize_Total.f k n.f0 n.f1 n.f2 n.f3 n.f4) (nnode n + 1) := by
  unfold canonsize_Total.f
  refine Ev.bind (Node_ev hv hs) ?_
  have := nnode_le (nsz n) n (by omega) hv hs
  rw [w64 (by omega) (by omega)]
  exact Ev.now _
theorem nobj_nnode {n : S30} (hv : nvalid n = true) (hs : nsz n ≤ 1048576) : nobj n ≤ nnode n := by
  rw [nnode_eq]
  have kid : ∀ x ∈ n.f4, 0 ≤ nnode x ∧ nnode x ≤ nsz x * 2199023255553 := fun x hx => nnode_le (nsz x) x (by omega) (nvalid_kids hv hx) (by have := nsz_kid hx; omega)
  have grand : ∀ x ∈ n.f4, ∀ y ∈ x.f4, 0 ≤ nnode y ∧ nnode y ≤ nsz y * 2199023255553 := fun x hx y hy => nnode_le (nsz y) y (by omega) (nvalid_kids (nvalid_kids hv hx) hy) (by have := nsz_kid hx; have := nsz_kid hy; omega)
  have h1 := nnodes_le kid
  have h2 := nnode2_le (ks := n.f4) (fun x hx => nnodes_le (grand x hx))
  split <;> omega
/-- The law, over trees alone. -/
theorem CanonsizeKeeps_ev (n : S30) (hs : nsz n ≤ 1048576) : ∃ k, capnplaw13_CanonsizeKeeps.f k n.f0 n.f1 n.f2 n.f3 n.f4 = some true := by
  refine Ev.rounds ?_
  unfold capnplaw13_CanonsizeKeeps.f capnplaw13_awake.f
  simp only [Option.bind_some, if_true]
  refine Ev.bind (Right_ev n (by omega)) ?_
  cases hr : nright n with
  | false =>
    refine Ev.step (f := fun _ => some true) (fun k => ?_) (Ev.now _)
    simp only [capnplaw13_CanonsizeKeeps.j0, capnplaw13_awake.f, Bool.not_false, if_true, Option.bind_some]
  | true =>
    have hv : nvalid n = true := by
      unfold nright at hr
      simp only [Bool.and_eq_true] at hr
      exact hr.2.1
    refine Ev.step (f := fun k => ((capnpref10_Copy.f k n.f0 n.f1 n.f2 n.f3 n.f4).bind fun bt105 => ((canonsize_Object.f k bt105.1 bt105.2.1 bt105.2.2.1 bt105.2.2.2.1 bt105.2.2.2.2).bind fun t115 => ((canonsize_Node.f k bt105.1 bt105.2.1 bt105.2.2.1 bt105.2.2.2.1 bt105.2.2.2.2).bind fun t116 => ((canonsize_Total.f k bt105.1 bt105.2.1 bt105.2.2.1 bt105.2.2.2.1 bt105.2.2.2.2).bind fun t117 => ((capnpref10_Equal.f k bt105.1 bt105.2.1 bt105.2.2.1 bt105.2.2.2.1 bt105.2.2.2.2 n.f0 n.f1 n.f2 n.f3 n.f4).bind fun t118 => (if t118 = true then (if t115 ≥ 0 then (if t115 ≤ t116 then (if t117 = (wrap64 (t116 + 1)) then ((canonsize_Node.f k n.f0 n.f1 n.f2 n.f3 n.f4).bind fun t119 => (some (t119 == t116))) else (some false)) else (some false)) else (some false)) else (some false)))))))) (fun k => by
      simp only [capnplaw13_CanonsizeKeeps.j0, Bool.not_true]
      rw [if_neg (by simp)]) ?_
    refine Ev.bind (Copy_ev n (by omega)) ?_
    simp only
    have b1 := nobj_le hv hs
    have b2 := nobj_nnode hv hs
    have b3 := nnode_le (nsz n) n (by omega) hv hs
    refine Ev.bind (Object_ev hv hs) ?_
    refine Ev.bind (Node_ev hv hs) ?_
    refine Ev.bind (Total_ev hv hs) ?_
    refine Ev.bind (Equal_ev n n (by omega)) ?_
    simp only [decide_true, if_true]
    simp only [if_pos (show nobj n ≥ 0 by omega), if_pos b2, if_pos (show nnode n + 1 = wrap64 (nnode n + 1) by rw [w64 (by omega) (by omega)])]
    refine Ev.bind (Node_ev hv hs) ?_
    rw [beq_self_eq_true]
    exact Ev.now _

end Go.Proofs.YtomjnaakkfimhaaDoor.D

namespace Go.Proofs.YtomjnaakkfimhaaDoor.D
open Go.RowKit Go.Proofs.YtomjnaakkfimhaaDoorW.PrintWords Go.Proofs.YtomjnaakkfimhaaDoorW.PrintLast Go.Proofs.YtomjnaakkfimhaaDoorW.PrintMore
attribute [local go_sem] max2_int min2_int max_two min_two max_three min_three max_four min_four
set_option linter.unusedVariables false
set_option linter.unusedSimpArgs false

/-! ### A NODE AS A ROW READS IT -/
instance : Inhabited S30 := ⟨z30⟩
section
variable {H : Type}
theorem bulk_one_le (d : DataW H) : 1 ≤ Rows.uptoBulk d := by
  cases d with
  | lit l => cases l <;> simp [Rows.uptoBulk]
  | nil => simp [Rows.uptoBulk]
  | ptr d => simp [Rows.uptoBulk]
  | slice elems spare => simp [Rows.uptoBulk]
  | agg parts => simp [Rows.uptoBulk]
  | iface t d => simp [Rows.uptoBulk]
  | map entries => simp [Rows.uptoBulk]
  | held h => simp [Rows.uptoBulk]
theorem bulk_length_le (l : List (DataW H)) : l.length ≤ Rows.uptoBulkAll l := by
  induction l with
  | nil => simp [Rows.uptoBulkAll]
  | cons x r ih => have := bulk_one_le x; simp only [Rows.uptoBulkAll, List.length_cons]; omega

theorem nszs_bulk : ∀ (ns : List S30) (ds : List (DataW H)), ns.length = ds.length → (∀ (i : Nat) n d, ns[i]? = some n → ds[i]? = some d → nsz n ≤ Rows.uptoBulk d) → nszs ns ≤ Rows.uptoBulkAll ds := by
  intro ns
  induction ns with
  | nil => intro ds _ _; simp [nszs]
  | cons n r ih =>
    intro ds hl h
    cases ds with
    | nil => simp at hl
    | cons d e =>
      have h0 := h 0 n d rfl rfl
      have h1 := ih e (by simpa using hl) (fun i a b ha hb => h (i + 1) a b (by simpa using ha) (by simpa using hb))
      simp only [nszs, Rows.uptoBulkAll]
      omega

variable {enc : TypeId × Value → H} {W : World}
theorem cellsT5 : Tryd.prog.cellsOf 5 = 1 := by kernel_rfl
theorem cellsT3 : Tryd.prog.cellsOf 3 = 1 := by kernel_rfl
theorem cellsT27 : Tryd.prog.cellsOf 27 = 1 := by kernel_rfl
theorem cellsT28 : Tryd.prog.cellsOf 28 = 1 := by kernel_rfl
theorem cellsT30 : Tryd.prog.cellsOf 30 = 5 := by kernel_rfl

/-- a slice of whole numbers, as a row reads it -/
theorem ints_of_trod {t e : TypeId} {k : IntKind} {fuel : Nat} {cs : List Value} {x : DataW H × List MemPlace} (ht : Tryd.prog.underlying t = some (.slice e)) (he : Tryd.prog.underlying e = some (.int k)) (hc : Tryd.prog.cellsOf e = 1)
    (h : DataW.trod enc Tryd.prog W 0 (fun _ => true) true fuel t cs = some x) :
    ∃ (l : List Int) (A : Option Addr) (c : Nat), cs = [.slice A l.length c] ∧ l.length ≤ c ∧ (Kd.int k).C W A l.length l ∧ (∀ n ∈ l, (Lit.int k n).wf = true) ∧ l.length + 1 ≤ Rows.uptoBulk x.1 := by
  rcases Deep.open_slice1 ht hc h with ⟨rfl, rfl⟩ | ⟨a, len, cap, m, n, V, D, Pl, rfl, hb, hl, hm, hmm, rfl, hx⟩
  · exact ⟨[], none, 0, rfl, Nat.le_refl _, ⟨rfl, by decide, fun h => absurd h (Nat.lt_irrefl _)⟩, (fun n hn => by cases hn), by simp [Rows.uptoBulk]⟩
  · have hm' : m = cap := by simpa using hmm
    subst hm'
    obtain ⟨z, hz⟩ := Deep.choose_lt (α := Int) (n := len) (p := fun i z => W.cell? (a.add i) = some (.int k z) ∧ (Lit.int k z).wf = true) (fun i hi => by
      obtain ⟨h1, h2⟩ := hx i (by omega)
      obtain ⟨z, hz1, hz2, hw⟩ := DataW.trod_int he h2
      have : V i = .int k z := by simpa using hz1
      exact ⟨z, by rw [h1, this], hw⟩)
    have hlen : ((List.range len).map z).length = len := by simp
    refine ⟨(List.range len).map z, some a, m, by rw [hlen], by rw [hlen]; exact hl, ?_, ?_, ?_⟩
    · rw [hlen]
      have hmax : maxLen = 9223372036854775807 := by decide +kernel
      refine ⟨hlen, by omega, fun _ => ⟨a, rfl, fun j p hj => ?_⟩⟩
      have hj2 : j < len := by have := (List.getElem?_eq_some_iff.1 hj).1; rwa [hlen] at this
      have hp : p = z j := by simp [List.getElem?_map, hj2] at hj; exact hj.symm
      refine ⟨[.int k p], rfl, rfl, fun i u hu => ?_⟩
      match i, hu with
      | 0, hu =>
        simp only [List.getElem?_cons_zero, Option.some.injEq] at hu
        subst hu
        show W.cell? (a.add (j * 1 + 0)) = _
        rw [Nat.mul_one, Nat.add_zero, (hz j hj2).1, hp]
    · intro n hn
      obtain ⟨j, hj, rfl⟩ := List.mem_map.1 hn
      exact (hz j (List.mem_range.1 hj)).2
    · rw [hlen]
      have := bulk_length_le ((List.range len).map D)
      simp only [List.length_map, List.length_range] at this
      show len + 1 ≤ Rows.uptoBulk (DataW.slice _ _)
      simp only [Rows.uptoBulk]
      omega

set_option maxRecDepth 100000 in
/-- a node, as a row reads it -/
theorem node_of_trod : ∀ (fuel : Nat) (cs : List Value) (x : DataW H × List MemPlace), DataW.trod enc Tryd.prog W 0 (fun _ => true) true fuel 30 cs = some x → ∃ n : S30, k30.K W n cs ∧ nsz n ≤ Rows.uptoBulk x.1 := by
  intro fuel
  induction fuel using Nat.strongRecOn with
  | ind fuel ih =>
  intro cs x h
  obtain ⟨xs, n, rfl, rfl, hl, hxl, hf⟩ := DataW.trod_struct Tryd.underlying30 h
  rw [cellsT30] at hl
  match cs, hl with
  | [c0, c1, c2, c3, c4], _ =>
  have hxs : xs.length = 5 := by rw [hxl]; rfl
  match xs, hxs with
  | [x0, x1, x2, x3, x4], _ =>
  have g0 : DataW.trod enc Tryd.prog W 0 (fun _ => true) true n 3 (([c0, c1, c2, c3, c4].drop 0).take (Tryd.prog.cellsOf 3)) = some x0 := hf 0 _ rfl
  rw [cellsT3] at g0
  replace g0 : DataW.trod enc Tryd.prog W 0 (fun _ => true) true n 3 [c0] = some x0 := g0
  have g1 : DataW.trod enc Tryd.prog W 0 (fun _ => true) true n 3 (([c0, c1, c2, c3, c4].drop 1).take (Tryd.prog.cellsOf 3)) = some x1 := hf 1 _ rfl
  rw [cellsT3] at g1
  replace g1 : DataW.trod enc Tryd.prog W 0 (fun _ => true) true n 3 [c1] = some x1 := g1
  have g2 : DataW.trod enc Tryd.prog W 0 (fun _ => true) true n 3 (([c0, c1, c2, c3, c4].drop 2).take (Tryd.prog.cellsOf 3)) = some x2 := hf 2 _ rfl
  rw [cellsT3] at g2
  replace g2 : DataW.trod enc Tryd.prog W 0 (fun _ => true) true n 3 [c2] = some x2 := g2
  have g3 : DataW.trod enc Tryd.prog W 0 (fun _ => true) true n 27 (([c0, c1, c2, c3, c4].drop 3).take (Tryd.prog.cellsOf 27)) = some x3 := hf 3 _ rfl
  rw [cellsT27] at g3
  replace g3 : DataW.trod enc Tryd.prog W 0 (fun _ => true) true n 27 [c3] = some x3 := g3
  have g4 : DataW.trod enc Tryd.prog W 0 (fun _ => true) true n 28 (([c0, c1, c2, c3, c4].drop 4).take (Tryd.prog.cellsOf 28)) = some x4 := hf 4 _ rfl
  rw [cellsT28] at g4
  replace g4 : DataW.trod enc Tryd.prog W 0 (fun _ => true) true n 28 [c4] = some x4 := g4
  obtain ⟨i0, e0, rfl, _⟩ := DataW.trod_int Tryd.underlying3 g0
  obtain ⟨i1, e1, rfl, _⟩ := DataW.trod_int Tryd.underlying3 g1
  obtain ⟨i2, e2, rfl, _⟩ := DataW.trod_int Tryd.underlying3 g2
  obtain ⟨l, A3, c3', e3, l3, C3, _, b3⟩ := ints_of_trod Tryd.underlying27 Tryd.underlying5 cellsT5 g3
  obtain rfl : c0 = _ := by simpa using e0
  obtain rfl : c1 = _ := by simpa using e1
  obtain rfl : c2 = _ := by simpa using e2
  obtain rfl : c3 = _ := by simpa using e3
  have kids : ∃ (ks : List S30) (A4 : Option Addr) (c4' : Nat), c4 = .slice A4 ks.length c4' ∧ ks.length ≤ c4' ∧ k30.C W A4 ks.length ks ∧ nszs ks + 1 ≤ Rows.uptoBulk x4.1 := by
    cases n with
    | zero => simp [DataW.trod] at g4
    | succ n =>
    rcases DataW.trod_slice Tryd.underlying28 g4 with ⟨e4, rfl⟩ | ⟨a, len, cap, elems, rest, m, hm0, e4, rfl, hb, hl, hm, hel, hx, _, _⟩
    · simp only [List.cons.injEq, and_true] at e4
      subst e4
      exact ⟨[], none, 0, rfl, Nat.le_refl _, ⟨rfl, by decide, fun h => absurd h (Nat.lt_irrefl _)⟩, by simp [Rows.uptoBulk, nszs]⟩
    · simp only [List.cons.injEq, and_true] at e4
      subst e4
      obtain rfl : n = m := by omega
      rw [cellsT30] at hx
      obtain ⟨z, hz⟩ := Deep.choose_lt (α := S30) (n := len) (p := fun i q => ∃ cs', W.cells? 0 (a.add (i * 5)) 5 = some cs' ∧ k30.K W q cs' ∧ ∀ d, elems[i]? = some d → nsz q ≤ Rows.uptoBulk d.1) (fun i hi => by
        have key := hx i hi
        rw [List.getElem?_eq_getElem (by omega)] at key
        obtain ⟨cs', h1, h2⟩ := Option.bind_eq_some_iff.1 key
        obtain ⟨q, hq, hs⟩ := ih n (by omega) cs' _ h2
        refine ⟨q, cs', h1, hq, fun d hd => ?_⟩
        rw [List.getElem?_eq_getElem (by omega), Option.some.injEq] at hd
        rw [← hd]
        exact hs)
      have hlen : ((List.range len).map z).length = len := by simp
      refine ⟨(List.range len).map z, some a, cap, by rw [hlen], by rw [hlen]; exact hl, ?_, ?_⟩
      · rw [hlen]
        have hmax : maxLen = 9223372036854775807 := by decide +kernel
        refine ⟨hlen, by omega, fun _ => ⟨a, rfl, fun j p hj => ?_⟩⟩
        have hj2 : j < len := by have := (List.getElem?_eq_some_iff.1 hj).1; rwa [hlen] at this
        have hp : p = z j := by simp [List.getElem?_map, hj2] at hj; exact hj.symm
        obtain ⟨cs', h1, h2, _⟩ := hz j hj2
        rw [← hp] at h2
        have h3 := World.cells?_some h1
        refine ⟨cs', h3.2.1, h2, fun i u hu => ?_⟩
        have hi : i < 5 := by have := (List.getElem?_eq_some_iff.1 hu).1; have := h3.2.1; omega
        show W.cell? (a.add (j * 5 + i)) = _
        rw [← Deep.add_add, h3.2.2 i hi, hu]
      · have := nszs_bulk ((List.range len).map z) (elems.map (·.1)) (by simp [hel]) (fun i q d hq hd => by
          rw [List.getElem?_map] at hd
          obtain ⟨y, hy, rfl⟩ := Option.map_eq_some_iff.1 hd
          have hj2 : i < len := by have := (List.getElem?_eq_some_iff.1 hy).1; omega
          have hp : q = z i := by simp [List.getElem?_map, hj2] at hq; exact hq.symm
          obtain ⟨_, _, _, h3⟩ := hz i hj2
          rw [hp]
          exact h3 y hy)
        show nszs _ + 1 ≤ Rows.uptoBulk (DataW.slice _ _)
        simp only [Rows.uptoBulk]
        omega
  obtain ⟨ks, A4, c4', rfl, l4, C4, b4⟩ := kids
  refine ⟨⟨i0, i1, i2, l, ks⟩, k30_mk W ⟨i0, i1, i2, l, ks⟩ l3 C3 l4 C4, ?_⟩
  show 1 + l.length + nszs ks ≤ Rows.uptoBulk (DataW.agg _)
  simp only [Rows.uptoBulk, List.map_cons, List.map_nil, Rows.uptoBulkAll]
  omega
end
theorem tabGL : Tryd.prog.globalNamed "capnp/listsize.bits" = some 0 := by kernel_rfl

end Go.Proofs.YtomjnaakkfimhaaDoor.D

namespace Go.Proofs.YtomjnaakkfimhaaDoor.D
open Go.RowKit Go.Proofs.YtomjnaakkfimhaaDoorW.PrintWords Go.Proofs.YtomjnaakkfimhaaDoorW.PrintLast Go.Proofs.YtomjnaakkfimhaaDoorW.PrintMore
attribute [local go_sem] max2_int min2_int max_two min_two max_three min_three max_four min_four
set_option linter.unusedVariables false
set_option linter.unusedSimpArgs false

/-! ### WHAT THE ROWS' LISTS OF PACKAGE VARIABLES GIVE -/
theorem ownN : ownKnob Tryd.prog.godebug = none := by kernel_rfl
theorem laidOutP : laidOutB Tryd.prog = true := by kernel_rfl
theorem gBits : Tryd.prog.globalNamed "capnp/listsize.bits" = some 0 := by kernel_rfl
theorem gBitsType : (Tryd.prog.globals[0]?).map (·.type) = some 116 := by kernel_rfl
theorem cellsT116 : Tryd.prog.cellsOf 116 = 8 := by kernel_rfl
theorem cellsT3' : Tryd.prog.cellsOf 3 = 1 := by kernel_rfl
theorem glb_of {W : World} {rest : List (String × DataW Unit)} (h : laidMet Tryd.prog (("capnp/listsize.bits", Rows.laid_capnp_listsize_bits) :: rest) W) : GLB W := by
  have hT : Lib.TabIs Tryd.prog W "capnp/listsize.bits" .i64 [0, 1, 8, 16, 32, 64, 64, 0] := Lib.tabIs_of_head (rest := rest) gBits gBitsType Tryd.underlying116 Tryd.underlying3 cellsT3' cellsT116 h
  refine ⟨fun j hj => ?_⟩
  rw [hT.cell gBits j hj]
  match j, hj with
  | 0, _ => rfl
  | 1, _ => rfl
  | 2, _ => rfl
  | 3, _ => rfl
  | 4, _ => rfl
  | 5, _ => rfl
  | 6, _ => rfl
  | 7, _ => rfl

end Go.Proofs.YtomjnaakkfimhaaDoor.D

namespace Go.Proofs.YtomjnaakkfimhaaDoor.D
open Go.RowKit Go.Proofs.YtomjnaakkfimhaaDoorW.PrintWords Go.Proofs.YtomjnaakkfimhaaDoorW.PrintLast Go.Proofs.YtomjnaakkfimhaaDoorW.PrintMore
attribute [local go_sem] max2_int min2_int max_two min_two max_three min_three max_four min_four
set_option linter.unusedVariables false
set_option linter.unusedSimpArgs false

namespace CanonsizeKeepsRow
open Go.ChangeShapes Go.WideShapes Go.ChangeAt Go.RowKit

set_option maxRecDepth 100000 in
theorem contract (H : Type) (enc : TypeId × Value → H) (W : World) (base : Nat) (args : Array Value) (ds gs : List (DataW H)) (before : List MemPlace)
    (hval0 : ∀ (j : Nat) t v, Tryd.f4.params[j]? = some t → args[j]? = some v → Value.okWide Tryd.prog W .any base t v)
    (hW : DataW.Whole enc Tryd.prog Tryd.f4.params.toList Rows.canonsizeKeepsSpec.vars false W args.toList ds gs before) (hL : laidMetH Tryd.prog Rows.canonsizeKeepsUptoRow.laid W)
    (hk : Rows.uptoSmall H (ds ++ gs) = true) :
    Calls Tryd.prog 4 args W fun e W' => ∃ v, e = .returned v ∧ Rows.canonsizeKeepsSpec.post enc Tryd.prog Tryd.f4 false true false false W args v W' := by
  have hval : ∀ (j : Nat) t v, Tryd.f4.params[j]? = some t → args[j]? = some v → Value.okWide Tryd.prog W .any base t v := hval0
  have hW' := hW
  obtain ⟨p, q, hA0, hV, rfl, hfz, hnd⟩ := hW
  have hA : DataW.TrodAll enc Tryd.prog W 0 (fun _ => true) true Tryd.f4.params.toList args.toList ds p := hA0
  rw [Tryd.params4] at hA hval
  obtain ⟨v0, vs0, d0, ds0, p0, q0, hargs, rfl, rfl, h0, r0⟩ := trodAll_cons hA
  obtain ⟨rfl, rfl, rfl⟩ := trodAll_nil r0
  obtain rfl : args = #[v0] := by cases args; simp_all
  obtain ⟨rfl, rfl⟩ := trodVars_none hV
  simp only [List.append_nil] at hk
  have hb : Rows.uptoBulkAll [d0] ≤ 1048576 := of_decide_eq_true hk
  obtain ⟨cs, rfl, _⟩ := okWide_struct Tryd.underlying30 (hval 0 30 v0 rfl rfl)
  have k0 := h0
  have lt0 : ∀ x ∈ p0, x.block < W.heap.size := by obtain ⟨m, hm⟩ := k0; exact DataW.trod_lt m _ _ _ hm
  obtain ⟨m, hm⟩ := h0
  obtain ⟨n, hn, hs⟩ := node_of_trod m _ _ hm
  obtain ⟨A3, c3, A4, c4, e, l3, g3, l4, g4⟩ := k30_open hn
  have e' : cs.toList = [.int .i64 n.f0, .int .i64 n.f1, .int .i64 n.f2, .slice A3 n.f3.length c3, .slice A4 n.f4.length c4] := e
  obtain rfl : cs = #[.int .i64 n.f0, .int .i64 n.f1, .int .i64 n.f2, .slice A3 n.f3.length c3, .slice A4 n.f4.length c4] := Array.ext' e'
  have hs1 : nsz n ≤ 1048576 := by
    simp only [Rows.uptoBulkAll] at hb
    have hs2 : nsz n ≤ Rows.uptoBulk d0 := hs
    omega
  obtain ⟨k, hf⟩ := CanonsizeKeeps_ev n hs1
  clear hA0 hval0 hval e e' hm hA
  refine (capnplaw13_CanonsizeKeeps.calls k _ _ _ A3 c3 _ A4 c4 _ true W (glb_of hL) g3 l3 g4 l4 hf).mono fun e W' ⟨he, bel⟩ => ?_
  subst he
  exact ⟨_, rfl, _, _, _, [], _, [], hW', trodAll_mk1 (shut_bool Tryd.underlying4 _), (trodAll_cons_mk (Below.trod laidOutP (by kernel_rfl) (of_decide_eq_true (by kernel_rfl)) k0 bel lt0) trodAll_mk0), rfl, bel.frame _, fun h => by cases h⟩

/-- A WORLD FOR THE WITNESS: the settled one, the table (block 0) holding what its initialiser lays. -/
noncomputable def laidWorld (os : Os) : World :=
  { World.holding Tryd.prog os ⟨#[], #[], []⟩ with heap := (World.holding Tryd.prog os ⟨#[], #[], []⟩).heap.modify 0 fun
      | .cells _ t frozen => .cells #[.int .i64 0, .int .i64 1, .int .i64 8, .int .i64 16, .int .i64 32, .int .i64 64, .int .i64 64, .int .i64 0] t frozen
      | o => o }
def arg0 : Value := .agg #[.int .i64 0, .int .i64 0, .int .i64 0, .slice none 0 0, .slice none 0 0]
theorem laid_met (os : Os) : laidMet Tryd.prog Rows.canonsizeKeepsUptoRow.laid ((laidWorld os).forCall (fun _ _ => 0) ⟨#[], #[arg0], []⟩).memory :=
  laidMet_of_run' 8 (by kernel_rfl) (by kernel_rfl)
theorem reads (os : Os) {H : Type} (enc : TypeId × Value → H) : ∃ places, DataW.whole enc Tryd.prog ((laidWorld os).forCall (fun _ _ => 0) ⟨#[], #[arg0], []⟩).memory Tryd.f4.params.toList Rows.canonsizeKeepsSpec.vars false #[arg0].toList 8 = some ([.agg [.lit (.int .i64 0), .lit (.int .i64 0), .lit (.int .i64 0), .nil, .nil]], [], places) :=
  ⟨[], by kernel_rfl⟩

set_option maxRecDepth 100000 in
theorem liftedUpto (os : Os) (started : os.Started) (H : Type) (enc : TypeId × Value → H) (F : Stop.Interp) :
    ReturnsInHanded {} Tryd.checked os 4 .any ((Rows.OpenSpec.upto Rows.canonsizeKeepsSpec).preRow enc Tryd.prog Tryd.f4 Rows.canonsizeKeepsUptoRow.domain false Rows.canonsizeKeepsUptoRow.laid) (((Rows.OpenSpec.upto Rows.canonsizeKeepsSpec).at F).post enc Tryd.prog Tryd.f4 false true false false) := by
  obtain ⟨places, hx⟩ := reads os enc
  refine returnsInHanded_of_row (C := Tryd.checked) (s := Rows.OpenSpec.upto Rows.canonsizeKeepsSpec) ownN started (by kernel_rfl) Tryd.func4
    (witness_row_at (enc := enc) (C := Tryd.checked) false (laidWorld os) #[arg0] rfl (by kernel_rfl) (by kernel_rfl) (by kernel_rfl)
      (OpenSpec.preRow_of_cond 8 hx (by kernel_rfl) (fun k hk => by cases hk; kernel_rfl) (by kernel_rfl) (laid_met os))) ?_
  intro W base args ds gs before hval hW _ hcond _ hL _ _
  exact contract H enc W base args ds gs before hval hW hL (hcond _ rfl)

theorem saidUpto : Rows.CanonsizeKeepsUptoSaid :=
  OpenClaim.holds_of_cond 4 Tryd.f4 rfl rfl rfl rfl rfl rfl rfl ⟨rfl, rfl, rfl, rfl, rfl⟩ rfl rfl rfl rfl rfl (by kernel_rfl) Tryd.func4 (by kernel_rfl)
    (of_decide_eq_true (by kernel_rfl)) (by unfold Func.isWrapper; first | (rw [if_pos (by decide +kernel)]; kernel_rfl) | (rw [if_neg (by decide +kernel)]; exact ⟨rfl, rfl⟩))
    (fun os started H enc _ F => by rw [OpenClaim.pre_eq_preRow]; exact liftedUpto os started H enc F)

theorem plain (f : FuncId) (fn : Func) (hf : Tryd.pinned.checked.prog.funcNamed "capnp/capnplaw13.CanonsizeKeeps" = some f) (hfn : Tryd.pinned.checked.prog.funcs[f]? = some fn) :
    true = Tryd.pinned.checked.prog.looks [] ∧ ∀ (j : Nat) t, fn.params[j]? = some t → Tryd.pinned.checked.prog.wantsStandIn t = false := by
  obtain rfl : f = 4 := Option.some.inj ((show Tryd.prog.funcNamed "capnp/capnplaw13.CanonsizeKeeps" = some 4 by kernel_rfl).symm.trans hf) |>.symm
  obtain rfl : fn = Tryd.f4 := (Option.some.inj (Tryd.func4.symm.trans hfn)).symm
  refine ⟨by kernel_rfl, fun j t ht => ?_⟩
  rw [Tryd.params4] at ht
  obtain rfl : t = 30 := by simpa using Array.mem_of_getElem? ht
  exact (show Tryd.prog.wantsStandIn 30 = false by kernel_rfl)

theorem cardUpto : Rows.CanonsizeKeepsUptoCardSaid :=
  Claim7.holds_tied_plain_at .later [] _ _ _ _ saidUpto (fun _ h => by cases h) (by kernel_rfl) (fun _ h => by cases h) canonsizeKeepsUpto_row_tie rfl ⟨rfl, rfl⟩ (by kernel_rfl) rfl plain (by kernel_rfl)
end CanonsizeKeepsRow

end Go.Proofs.YtomjnaakkfimhaaDoor.D
