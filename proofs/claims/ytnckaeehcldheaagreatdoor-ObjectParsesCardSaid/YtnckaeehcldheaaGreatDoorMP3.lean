import Derived.ArgAppend
import Derived.Below
import Derived.BigQuiet
import Derived.Deep.AppendLies
import Derived.Deep.CutBlock
import Derived.Deep.DeepCutAuto
import Derived.Deep.Draws
import Derived.Deep.LoopGhost
import Derived.Deep.OwnRows
import Derived.Deep.QuietTactic
import Derived.Deep.RegionHeld3
import Derived.KernelRfl
import Derived.Laws.BitsLemmas
import Derived.Laws.BytesArg
import Derived.Laws.IdiomCopy
import Derived.Laws.MakeOwn
import Derived.Laws.OwnMore
import Derived.Laws.Rows
import Derived.Laws.Slices
import Derived.Laws.StructEq
import Derived.Lib.AppendStr
import Derived.Lib.ConvBytes
import Derived.Lib.SlBytesConst
import Derived.Maps.AppendAt
import Derived.OrdersHeld
import Derived.OwnWalk
import Derived.RowKit
import Derived.RowKit3
import Derived.Tactics
import Derived.Test.YtnckaeehcldheaaGreatDoorMP0
import Derived.Test.YtnckaeehcldheaaGreatDoorMP1
import Derived.Test.YtnckaeehcldheaaGreatDoorMP2
import Derived.WalkKit
import Derived.WideLaws

section
namespace Go.Proofs.YtnckaeehcldheaaGreatDoor.Pr
open Go.Proofs.YtnckaeehcldheaaGreatDoor.Ob (S28 z28 k28 k34 rd_T28 rd_T34 at_T28 at_T34 k28_open k28_openM k28_mk k28_mkM k28_openF k28_mkF k34_open k34_openM k34_mk k34_mkM k34_openF k34_mkF)
open Go.RowKit Go.Proofs.YtnckaeehcldheaaGreatDoorW.PrintWords Go.Proofs.YtnckaeehcldheaaGreatDoorW.PrintLast Go.Proofs.YtnckaeehcldheaaGreatDoorW.PrintMore
attribute [local go_sem] max2_int min2_int max_two min_two max_three min_three max_four min_four   -- for this text's walks alone
set_option linter.unusedVariables false
set_option linter.unusedSimpArgs false
def errW : Option Int → Value
  | none => .nilIface
  | some c => .iface 222 (.int .i64 c)
theorem errW_none : errW none = .nilIface := rfl
theorem errW_some (c : Int) : errW (some c) = .iface 222 (.int .i64 c) := rfl
theorem info5 : (Tryz.prog.info? 5).map (fun i => (i.zero, i.size, i.bytes)) = some (some (.int .u8 0), 1, 1) := by kernel_rfl
theorem info9 : (Tryz.prog.info? 9).map (fun i => (i.zero, i.size, i.bytes)) = some (some (.string ⟨#[]⟩), 1, 16) := by kernel_rfl
def punchcutref18_Plain.f (k : Nat) (a0 : ByteArray) : Option (Bool) := if a0.size ≤ 4294967281 then some (Go.Proofs.YtnckaeehcldheaaGreatDoor.Ob.plainL a0.data.toList) else none
theorem punchcutref18_Plain.mono : ∀ a0 k, LeO (punchcutref18_Plain.f k a0) (punchcutref18_Plain.f (k + 1) a0) := fun _ _ => LeO.refl _
theorem punchcutref18_Plain.calls (k : Nat) (a0 : ByteArray) (r : Bool) (w : World) (h : punchcutref18_Plain.f k a0 = some r) :
    Calls Tryz.prog 46 #[.string a0] w fun e w' => e = .returned (.bool r) ∧ Below w.heap.size w w' := by
  unfold punchcutref18_Plain.f at h
  split at h
  · next hs => exact Go.Proofs.YtnckaeehcldheaaGreatDoor.Ob.rplain_ok a0 r w hs (Option.some.inj h)
  · cases h
mutual
def punchcutref18_bare.j0 : Nat → Bool → Int → Int → Int → ByteArray → List (S28) → List ByteArray → Option (Bool)
  | 0, _, _, _, _, _, _, _ => none
  | k + 1, x3, x179000, x179001, x179002, x179003, x179004, x179005 => if x179000 = 0 then (if x3 = true then (if x179003.toList = ([] : List UInt8) then (some ((wrap64 ((x179004.length : Int) + (x179005.length : Int))) == 0)) else (some false)) else (some false)) else (if x179000 = 1 then (punchcutref18_bare.j1 k x3 x179000 (x179000 == 1) x179000 x179001 x179002 x179003 x179004 x179005) else (punchcutref18_bare.j1 k x3 x179000 (x179000 == 2) x179000 x179001 x179002 x179003 x179004 x179005))
def punchcutref18_bare.j1 : Nat → Bool → Int → Bool → Int → Int → Int → ByteArray → List (S28) → List ByteArray → Option (Bool)
  | 0, _, _, _, _, _, _, _, _, _ => none
  | k + 1, x3, x13, x32, x179000, x179001, x179002, x179003, x179004, x179005 => if x32 = true then (if x179002 = 0 then (if x179003.toList = ([] : List UInt8) then (some ((wrap64 ((x179004.length : Int) + (x179005.length : Int))) == 0)) else (some false)) else (some false)) else (if x13 = 3 then (punchcutref18_bare.j2 k x3 x13 (x13 == 3) x179000 x179001 x179002 x179003 x179004 x179005) else (punchcutref18_bare.j2 k x3 x13 (x13 == 4) x179000 x179001 x179002 x179003 x179004 x179005))
def punchcutref18_bare.j2 : Nat → Bool → Int → Bool → Int → Int → Int → ByteArray → List (S28) → List ByteArray → Option (Bool)
  | 0, _, _, _, _, _, _, _, _, _ => none
  | k + 1, x3, x13, x53, x179000, x179001, x179002, x179003, x179004, x179005 => if x53 = true then (if x3 = true then (some ((wrap64 ((x179004.length : Int) + (x179005.length : Int))) == 0)) else (some false)) else (if x13 = 5 then (if x3 = true then (if x179003.toList = ([] : List UInt8) then (some ((x179005.length : Int) == 0)) else (some false)) else (some false)) else (if x13 = 6 then (if x3 = true then (if x179003.toList = ([] : List UInt8) then (some ((x179005.length : Int) == (x179004.length : Int))) else (some false)) else (some false)) else (if x179000 = 7 then (if x179003.toList = ([] : List UInt8) then (some ((wrap64 ((x179004.length : Int) + (x179005.length : Int))) == 0)) else (some false)) else (some false))))
end
def punchcutref18_bare.f (k : Nat) (a0_0 : Int) (a0_1 : Int) (a0_2 : Int) (a0_3 : ByteArray) (l0_4 : List (S28)) (l0_5 : List ByteArray) : Option (Bool) := if a0_1 = 0 then (punchcutref18_bare.j0 k (a0_2 == 0) a0_0 a0_1 a0_2 a0_3 l0_4 l0_5) else (punchcutref18_bare.j0 k false a0_0 a0_1 a0_2 a0_3 l0_4 l0_5)
theorem punchcutref18_bare.mono_l : ∀ k, (∀ y0 y1 y2 y3 y4 y5 y6, LeO (punchcutref18_bare.j0 k y0 y1 y2 y3 y4 y5 y6) (punchcutref18_bare.j0 (k + 1) y0 y1 y2 y3 y4 y5 y6)) ∧ (∀ y0 y1 y2 y3 y4 y5 y6 y7 y8, LeO (punchcutref18_bare.j1 k y0 y1 y2 y3 y4 y5 y6 y7 y8) (punchcutref18_bare.j1 (k + 1) y0 y1 y2 y3 y4 y5 y6 y7 y8)) ∧ (∀ y0 y1 y2 y3 y4 y5 y6 y7 y8, LeO (punchcutref18_bare.j2 k y0 y1 y2 y3 y4 y5 y6 y7 y8) (punchcutref18_bare.j2 (k + 1) y0 y1 y2 y3 y4 y5 y6 y7 y8))
  | 0 => ⟨fun _ _ _ _ _ _ _ r h => by simp [punchcutref18_bare.j0] at h, fun _ _ _ _ _ _ _ _ _ r h => by simp [punchcutref18_bare.j1] at h, fun _ _ _ _ _ _ _ _ _ r h => by simp [punchcutref18_bare.j2] at h⟩
  | k + 1 => by
    obtain ⟨ih0, ih1, ih2⟩ := punchcutref18_bare.mono_l k
    refine ⟨?_, ?_, ?_⟩
    · intro y0 y1 y2 y3 y4 y5 y6
      unfold punchcutref18_bare.j0
      repeat' first
      | (with_reducible exact ih0 _ _ _ _ _ _ _)
      | (with_reducible exact ih1 _ _ _ _ _ _ _ _ _)
      | (with_reducible exact ih2 _ _ _ _ _ _ _ _ _)
      | (with_reducible exact LeO.refl _)
      | (with_reducible exact LeO.none _)
      | (with_reducible refine LeO.ite ?_ ?_)
      | (with_reducible refine LeO.bind ?_ (fun _ => ?_))
      | exact ih0 _ _ _ _ _ _ _
      | exact ih1 _ _ _ _ _ _ _ _ _
      | exact ih2 _ _ _ _ _ _ _ _ _
      | exact LeO.none _
      | refine LeO.ite ?_ ?_
      | refine LeO.bind ?_ (fun _ => ?_)
    · intro y0 y1 y2 y3 y4 y5 y6 y7 y8
      unfold punchcutref18_bare.j1
      repeat' first
      | (with_reducible exact ih0 _ _ _ _ _ _ _)
      | (with_reducible exact ih1 _ _ _ _ _ _ _ _ _)
      | (with_reducible exact ih2 _ _ _ _ _ _ _ _ _)
      | (with_reducible exact LeO.refl _)
      | (with_reducible exact LeO.none _)
      | (with_reducible refine LeO.ite ?_ ?_)
      | (with_reducible refine LeO.bind ?_ (fun _ => ?_))
      | exact ih0 _ _ _ _ _ _ _
      | exact ih1 _ _ _ _ _ _ _ _ _
      | exact ih2 _ _ _ _ _ _ _ _ _
      | exact LeO.none _
      | refine LeO.ite ?_ ?_
      | refine LeO.bind ?_ (fun _ => ?_)
    · intro y0 y1 y2 y3 y4 y5 y6 y7 y8
      unfold punchcutref18_bare.j2
      repeat' first
      | (with_reducible exact ih0 _ _ _ _ _ _ _)
      | (with_reducible exact ih1 _ _ _ _ _ _ _ _ _)
      | (with_reducible exact ih2 _ _ _ _ _ _ _ _ _)
      | (with_reducible exact LeO.refl _)
      | (with_reducible exact LeO.none _)
      | (with_reducible refine LeO.ite ?_ ?_)
      | (with_reducible refine LeO.bind ?_ (fun _ => ?_))
      | exact ih0 _ _ _ _ _ _ _
      | exact ih1 _ _ _ _ _ _ _ _ _
      | exact ih2 _ _ _ _ _ _ _ _ _
      | exact LeO.none _
      | refine LeO.ite ?_ ?_
      | refine LeO.bind ?_ (fun _ => ?_)
theorem punchcutref18_bare.mono : ∀ a0 a1 a2 a3 a4 a5 k, LeO (punchcutref18_bare.f k a0 a1 a2 a3 a4 a5) (punchcutref18_bare.f (k + 1) a0 a1 a2 a3 a4 a5) := by
  intro a0 a1 a2 a3 a4 a5 k
  obtain ⟨ih0, ih1, ih2⟩ := punchcutref18_bare.mono_l k
  unfold punchcutref18_bare.f
  repeat' first
      | (with_reducible exact ih0 _ _ _ _ _ _ _)
      | (with_reducible exact ih1 _ _ _ _ _ _ _ _ _)
      | (with_reducible exact ih2 _ _ _ _ _ _ _ _ _)
      | (with_reducible exact LeO.refl _)
      | (with_reducible exact LeO.none _)
      | (with_reducible refine LeO.ite ?_ ?_)
      | (with_reducible refine LeO.bind ?_ (fun _ => ?_))
      | exact ih0 _ _ _ _ _ _ _
      | exact ih1 _ _ _ _ _ _ _ _ _
      | exact ih2 _ _ _ _ _ _ _ _ _
      | exact LeO.none _
      | refine LeO.ite ?_ ?_
      | refine LeO.bind ?_ (fun _ => ?_)
set_option maxHeartbeats 8000000 in
set_option maxRecDepth 100000 in
theorem punchcutref18_bare.calls (k : Nat) (a0_0 : Int) (a0_1 : Int) (a0_2 : Int) (a0_3 : ByteArray) (A0_4 : Option Addr) (c0_4 : Nat) (l0_4 : List (S28)) (A0_5 : Option Addr) (c0_5 : Nat) (l0_5 : List ByteArray) (r : Bool) (w : World) (hr0_4 : Kd.C k34 w A0_4 l0_4.length l0_4) (hc0_4 : l0_4.length ≤ c0_4) (hr0_5 : Kd.C Kd.string w A0_5 l0_5.length l0_5) (hc0_5 : l0_5.length ≤ c0_5) (h : punchcutref18_bare.f k a0_0 a0_1 a0_2 a0_3 l0_4 l0_5 = some r) :
    Calls Tryz.prog 63 #[.agg #[.int .u8 a0_0, .int .i64 a0_1, .int .i64 a0_2, .string a0_3, .slice A0_4 l0_4.length c0_4, .slice A0_5 l0_5.length c0_5]] w fun e w' => e = .returned (.bool r) ∧ Below w.heap.size w w' := by
  have hu34 := Tryz.underlying34
  have HR0_4 := Aside0.mk hr0_4
  have HC0_4 := Aside0.mk hc0_4
  clear hr0_4 hc0_4
  have HR0_5 := Aside0.mk hr0_5
  have HC0_5 := Aside0.mk hc0_5
  clear hr0_5 hc0_5
  have HB := Aside0.mk (Below.refl w.heap.size w)
  have H : (if a0_1 = 0 then (punchcutref18_bare.j0 k (a0_2 == 0) a0_0 a0_1 a0_2 a0_3 l0_4 l0_5) else (punchcutref18_bare.j0 k false a0_0 a0_1 a0_2 a0_3 l0_4 l0_5)) = some r := h
  clear h
  have HC2 := Aside0.mk H
  clear H
  go_enter Tryz.func63, Tryz.ntmps63
  go_upto_region 1 with (first | ((with_reducible refine gate_dst (N := 1) rfl ?_); (try (refine gate_guard (by rfl) ?_; dsimp only)); refine box_event ?hg (N := 1) ?hd (cs := #[.int .u8 a0_0, .int .i64 a0_1, .int .i64 a0_2, .string a0_3, .slice A0_4 l0_4.length c0_4, .slice A0_5 l0_5.length c0_5]) (t := 34) ?hr ?_; (case hd => rfl); (case hg => rfl); (case hr => first | (go_simp; done) | (go_simp; rfl)); intro gb178 hg w3 hbox hb; have n0_ := Aside0.mk (below_step (by repeat (first | (with_reducible first | exact HB.out | apply below_alloc | apply pw_below_drewN | apply below_drew1) | exact HB.out)) hb); have n1_ := Aside0.mk (hbox); have n2_ := Aside0.mk ((by rw [hg]; exact (below_size (by repeat (first | (with_reducible first | exact HB.out | apply below_alloc | apply pw_below_drewN | apply below_drew1) | exact HB.out))) : w.heap.size ≤ gb178)); have n3_ := Aside0.mk ((by rw [hg]; exact (below_size (by repeat (first | (with_reducible first | exact HB.out | apply below_alloc | apply pw_below_drewN | apply below_drew1) | exact HB.out))) : w.heap.size ≤ gb178)); clear HB; have HB := n0_; have BK178 := n1_; have GW178 := n2_; have GE178 := n3_; clear n0_ n1_ n2_ n3_; clear hb hbox hg))
  (try simp only [Act.put, List.setIfInBounds_toArray, List.set_cons_zero, List.set_cons_succ])
  go_cut [3] (fun v3 wc => ∃ (kq : Nat) (x3_1 : Bool), v3 = .bool x3_1 ∧ Aside0 (punchcutref18_bare.j0 kq x3_1 a0_0 a0_1 a0_2 a0_3 l0_4 l0_5 = some r) ∧ Aside0 (kq ≤ k) ∧ Aside0 (wc.heap[gb178]? = some (.cells #[.int .u8 a0_0, .int .i64 a0_1, .int .i64 a0_2, .string a0_3, (.slice A0_4 l0_4.length c0_4), (.slice A0_5 l0_5.length c0_5)] 34 (0, 0))) ∧ Aside0 (Below w.heap.size w wc))
  case first =>
    have H := HC2.out
    clear HC2
    by_cases c4 : a0_1 = 0
    · rw [if_pos c4] at H
      have c4b0 : (a0_1 == 0) = true := beq_iff_eq.mpr c4
      have c4b1 : (a0_1 != 0) = false := bne_eq_false_iff_eq.mpr c4
      clear c4
      (first | rw [c4b0] | (simp only [i64_w, i32_w]; rw [c4b0]) | skip)
      have H' := Aside0.mk H
      clear H
      have hcz5_0 : w3.cell? ⟨gb178, 0, none⟩ = some (.int .u8 a0_0) := (blk_cell BK178.out 0).trans rfl
      have hcz5_1 : w3.cell? ⟨gb178, 1, none⟩ = some (.int .i64 a0_1) := (blk_cell BK178.out 1).trans rfl
      have hcz5_2 : w3.cell? ⟨gb178, 2, none⟩ = some (.int .i64 a0_2) := (blk_cell BK178.out 2).trans rfl
      have hcz5_3 : w3.cell? ⟨gb178, 3, none⟩ = some (.string a0_3) := (blk_cell BK178.out 3).trans rfl
      have hcz5_4 : w3.cell? ⟨gb178, 4, none⟩ = some (.slice A0_4 l0_4.length c0_4) := (blk_cell BK178.out 4).trans rfl
      have hcz5_5 : w3.cell? ⟨gb178, 5, none⟩ = some (.slice A0_5 l0_5.length c0_5) := (blk_cell BK178.out 5).trans rfl
      have hfz5_0 := blk_frozen BK178.out 0
      have hfz5_1 := blk_frozen BK178.out 1
      have hfz5_2 := blk_frozen BK178.out 2
      have hfz5_3 := blk_frozen BK178.out 3
      have hfz5_4 := blk_frozen BK178.out 4
      have hfz5_5 := blk_frozen BK178.out 5
      go_wp2
      go_meet
      case rel => exact ⟨_, ((a0_2 == 0)), (by first | rfl | (simp; done) | (simp [*]; done)), H', ⟨by first | omega | exact Nat.le_refl _⟩, ⟨by (with_reducible repeat (first | refine blk_drewN ?_ _ | refine blk_drew ?_ | refine blk_alloc ?_ _)); exact BK178.out⟩, ⟨by repeat (first | (with_reducible first | exact HB.out | apply below_alloc | apply pw_below_drewN | apply below_drew1 | refine below_set ?_ GE178.out) | exact HB.out)⟩⟩
    · rw [if_neg c4] at H
      have c4b0 : (a0_1 == 0) = false := beq_eq_false_iff_ne.mpr c4
      have c4b1 : (a0_1 != 0) = true := bne_iff_ne.mpr c4
      (first | rw [c4b0] | (simp only [i64_w, i32_w]; rw [c4b0]) | skip)
      have H' := Aside0.mk H
      clear H
      have hcz6_0 : w3.cell? ⟨gb178, 0, none⟩ = some (.int .u8 a0_0) := (blk_cell BK178.out 0).trans rfl
      have hcz6_1 : w3.cell? ⟨gb178, 1, none⟩ = some (.int .i64 a0_1) := (blk_cell BK178.out 1).trans rfl
      have hcz6_2 : w3.cell? ⟨gb178, 2, none⟩ = some (.int .i64 a0_2) := (blk_cell BK178.out 2).trans rfl
      have hcz6_3 : w3.cell? ⟨gb178, 3, none⟩ = some (.string a0_3) := (blk_cell BK178.out 3).trans rfl
      have hcz6_4 : w3.cell? ⟨gb178, 4, none⟩ = some (.slice A0_4 l0_4.length c0_4) := (blk_cell BK178.out 4).trans rfl
      have hcz6_5 : w3.cell? ⟨gb178, 5, none⟩ = some (.slice A0_5 l0_5.length c0_5) := (blk_cell BK178.out 5).trans rfl
      have hfz6_0 := blk_frozen BK178.out 0
      have hfz6_1 := blk_frozen BK178.out 1
      have hfz6_2 := blk_frozen BK178.out 2
      have hfz6_3 := blk_frozen BK178.out 3
      have hfz6_4 := blk_frozen BK178.out 4
      have hfz6_5 := blk_frozen BK178.out 5
      go_wp2
      go_meet
      case rel => exact ⟨_, (false), (by first | rfl | (simp; done) | (simp [*]; done)), H', ⟨by first | omega | exact Nat.le_refl _⟩, ⟨by (with_reducible repeat (first | refine blk_drewN ?_ _ | refine blk_drew ?_ | refine blk_alloc ?_ _)); exact BK178.out⟩, ⟨by repeat (first | (with_reducible first | exact HB.out | apply below_alloc | apply pw_below_drewN | apply below_drew1 | refine below_set ?_ GE178.out) | exact HB.out)⟩⟩
  case rest =>
    clear HC2
    try clear p2
    try clear c4
    try clear c4b0
    try clear c4b1
    try clear c6
    try clear hcz5_0
    try clear hcz5_1
    try clear hcz5_2
    try clear hcz5_3
    try clear hcz5_4
    try clear hcz5_5
    try clear hcz6_0
    try clear hcz6_1
    try clear hcz6_2
    try clear hcz6_3
    try clear hcz6_4
    try clear hcz6_5
    try clear hfz5_0
    try clear hfz5_1
    try clear hfz5_2
    try clear hfz5_3
    try clear hfz5_4
    try clear hfz5_5
    try clear hfz6_0
    try clear hfz6_1
    try clear hfz6_2
    try clear hfz6_3
    try clear hfz6_4
    try clear hfz6_5
    obtain ⟨kq, x3_1, rfl, HA, HJ1, BK178, HB⟩ := hcut
    cases kq with
    | zero => exact absurd HA.out (by simp [punchcutref18_bare.j0])
    | succ kj1 =>
      have H := HA.out
      clear HA
      simp only [punchcutref18_bare.j0] at H
      by_cases c7 : a0_0 = 0
      · rw [if_pos c7] at H
        have c7b0 : (a0_0 == 0) = true := beq_iff_eq.mpr c7
        have c7b1 : (a0_0 != 0) = false := bne_eq_false_iff_eq.mpr c7
        clear c7
        by_cases c8 : x3_1 = true
        · subst c8
          have H1 : (if a0_3.toList = ([] : List UInt8) then (some ((wrap64 ((l0_4.length : Int) + (l0_5.length : Int))) == 0)) else (some false)) = some r := by rw [if_pos rfl] at H; exact H
          clear H
          have H := H1
          clear H1
          by_cases c9 : a0_3.toList = ([] : List UInt8)
          · rw [if_pos c9] at H
            have c9b0 : (a0_3.toList == ([] : List UInt8)) = true := beq_iff_eq.mpr c9
            have c9b1 : (a0_3.toList != ([] : List UInt8)) = false := bne_eq_false_iff_eq.mpr c9
            clear c9
            obtain rfl := Option.some.inj H
            have hcz10_0 : wc.cell? ⟨gb178, 0, none⟩ = some (.int .u8 a0_0) := (blk_cell BK178.out 0).trans rfl
            have hcz10_1 : wc.cell? ⟨gb178, 1, none⟩ = some (.int .i64 a0_1) := (blk_cell BK178.out 1).trans rfl
            have hcz10_2 : wc.cell? ⟨gb178, 2, none⟩ = some (.int .i64 a0_2) := (blk_cell BK178.out 2).trans rfl
            have hcz10_3 : wc.cell? ⟨gb178, 3, none⟩ = some (.string a0_3) := (blk_cell BK178.out 3).trans rfl
            have hcz10_4 : wc.cell? ⟨gb178, 4, none⟩ = some (.slice A0_4 l0_4.length c0_4) := (blk_cell BK178.out 4).trans rfl
            have hcz10_5 : wc.cell? ⟨gb178, 5, none⟩ = some (.slice A0_5 l0_5.length c0_5) := (blk_cell BK178.out 5).trans rfl
            have hfz10_0 := blk_frozen BK178.out 0
            have hfz10_1 := blk_frozen BK178.out 1
            have hfz10_2 := blk_frozen BK178.out 2
            have hfz10_3 := blk_frozen BK178.out 3
            have hfz10_4 := blk_frozen BK178.out 4
            have hfz10_5 := blk_frozen BK178.out 5
            go_wp2
            go_ret
            exact ⟨by first | rfl | (simp [errW_none, errW_some] <;> rfl) | (simp [*, errW_none, errW_some] <;> rfl), by repeat (first | (with_reducible first | exact HB.out | apply below_alloc | apply pw_below_drewN | apply below_drew1 | refine below_set ?_ GE178.out) | exact HB.out)⟩
          · rw [if_neg c9] at H
            have c9b0 : (a0_3.toList == ([] : List UInt8)) = false := beq_eq_false_iff_ne.mpr c9
            have c9b1 : (a0_3.toList != ([] : List UInt8)) = true := bne_iff_ne.mpr c9
            obtain rfl := Option.some.inj H
            have hcz11_0 : wc.cell? ⟨gb178, 0, none⟩ = some (.int .u8 a0_0) := (blk_cell BK178.out 0).trans rfl
            have hcz11_1 : wc.cell? ⟨gb178, 1, none⟩ = some (.int .i64 a0_1) := (blk_cell BK178.out 1).trans rfl
            have hcz11_2 : wc.cell? ⟨gb178, 2, none⟩ = some (.int .i64 a0_2) := (blk_cell BK178.out 2).trans rfl
            have hcz11_3 : wc.cell? ⟨gb178, 3, none⟩ = some (.string a0_3) := (blk_cell BK178.out 3).trans rfl
            have hcz11_4 : wc.cell? ⟨gb178, 4, none⟩ = some (.slice A0_4 l0_4.length c0_4) := (blk_cell BK178.out 4).trans rfl
            have hcz11_5 : wc.cell? ⟨gb178, 5, none⟩ = some (.slice A0_5 l0_5.length c0_5) := (blk_cell BK178.out 5).trans rfl
            have hfz11_0 := blk_frozen BK178.out 0
            have hfz11_1 := blk_frozen BK178.out 1
            have hfz11_2 := blk_frozen BK178.out 2
            have hfz11_3 := blk_frozen BK178.out 3
            have hfz11_4 := blk_frozen BK178.out 4
            have hfz11_5 := blk_frozen BK178.out 5
            go_wp2
            go_ret
            exact ⟨by first | rfl | (simp [errW_none, errW_some] <;> rfl) | (simp [*, errW_none, errW_some] <;> rfl), by repeat (first | (with_reducible first | exact HB.out | apply below_alloc | apply pw_below_drewN | apply below_drew1 | refine below_set ?_ GE178.out) | exact HB.out)⟩
        · replace c8 := Bool.eq_false_iff.mpr c8
          subst c8
          have H1 : (some false) = some r := by rw [if_neg (show ¬ (false = true) by decide)] at H; exact H
          clear H
          have H := H1
          clear H1
          obtain rfl := Option.some.inj H
          have hcz12_0 : wc.cell? ⟨gb178, 0, none⟩ = some (.int .u8 a0_0) := (blk_cell BK178.out 0).trans rfl
          have hcz12_1 : wc.cell? ⟨gb178, 1, none⟩ = some (.int .i64 a0_1) := (blk_cell BK178.out 1).trans rfl
          have hcz12_2 : wc.cell? ⟨gb178, 2, none⟩ = some (.int .i64 a0_2) := (blk_cell BK178.out 2).trans rfl
          have hcz12_3 : wc.cell? ⟨gb178, 3, none⟩ = some (.string a0_3) := (blk_cell BK178.out 3).trans rfl
          have hcz12_4 : wc.cell? ⟨gb178, 4, none⟩ = some (.slice A0_4 l0_4.length c0_4) := (blk_cell BK178.out 4).trans rfl
          have hcz12_5 : wc.cell? ⟨gb178, 5, none⟩ = some (.slice A0_5 l0_5.length c0_5) := (blk_cell BK178.out 5).trans rfl
          have hfz12_0 := blk_frozen BK178.out 0
          have hfz12_1 := blk_frozen BK178.out 1
          have hfz12_2 := blk_frozen BK178.out 2
          have hfz12_3 := blk_frozen BK178.out 3
          have hfz12_4 := blk_frozen BK178.out 4
          have hfz12_5 := blk_frozen BK178.out 5
          go_wp2
          go_ret
          exact ⟨by first | rfl | (simp [errW_none, errW_some] <;> rfl) | (simp [*, errW_none, errW_some] <;> rfl), by repeat (first | (with_reducible first | exact HB.out | apply below_alloc | apply pw_below_drewN | apply below_drew1 | refine below_set ?_ GE178.out) | exact HB.out)⟩
      · rw [if_neg c7] at H
        have c7b0 : (a0_0 == 0) = false := beq_eq_false_iff_ne.mpr c7
        have c7b1 : (a0_0 != 0) = true := bne_iff_ne.mpr c7
        have HC13 := Aside0.mk H
        clear H
        have hcz14_0 : wc.cell? ⟨gb178, 0, none⟩ = some (.int .u8 a0_0) := (blk_cell BK178.out 0).trans rfl
        have hcz14_1 : wc.cell? ⟨gb178, 1, none⟩ = some (.int .i64 a0_1) := (blk_cell BK178.out 1).trans rfl
        have hcz14_2 : wc.cell? ⟨gb178, 2, none⟩ = some (.int .i64 a0_2) := (blk_cell BK178.out 2).trans rfl
        have hcz14_3 : wc.cell? ⟨gb178, 3, none⟩ = some (.string a0_3) := (blk_cell BK178.out 3).trans rfl
        have hcz14_4 : wc.cell? ⟨gb178, 4, none⟩ = some (.slice A0_4 l0_4.length c0_4) := (blk_cell BK178.out 4).trans rfl
        have hcz14_5 : wc.cell? ⟨gb178, 5, none⟩ = some (.slice A0_5 l0_5.length c0_5) := (blk_cell BK178.out 5).trans rfl
        have hfz14_0 := blk_frozen BK178.out 0
        have hfz14_1 := blk_frozen BK178.out 1
        have hfz14_2 := blk_frozen BK178.out 2
        have hfz14_3 := blk_frozen BK178.out 3
        have hfz14_4 := blk_frozen BK178.out 4
        have hfz14_5 := blk_frozen BK178.out 5
        go_upto_if 32 with (fail)
        go_cut [32] (fun v32 wc => ∃ (kq : Nat) (x32_12 : Bool), v32 = .bool x32_12 ∧ Aside0 (punchcutref18_bare.j1 kq x3_1 a0_0 x32_12 a0_0 a0_1 a0_2 a0_3 l0_4 l0_5 = some r) ∧ Aside0 (kq ≤ kj1) ∧ Aside0 (wc.heap[gb178]? = some (.cells #[.int .u8 a0_0, .int .i64 a0_1, .int .i64 a0_2, .string a0_3, (.slice A0_4 l0_4.length c0_4), (.slice A0_5 l0_5.length c0_5)] 34 (0, 0))) ∧ Aside0 (Below w.heap.size w wc))
        case first =>
          have H := HC13.out
          clear HC13
          by_cases c15 : a0_0 = 1
          · rw [if_pos c15] at H
            have c15b0 : (a0_0 == 1) = true := beq_iff_eq.mpr c15
            have c15b1 : (a0_0 != 1) = false := bne_eq_false_iff_eq.mpr c15
            clear c15
            (first | rw [c15b0] | (simp only [i64_w, i32_w]; rw [c15b0]) | skip)
            have H' := Aside0.mk H
            clear H
            go_wp2
            go_meet
            case rel => exact ⟨_, ((a0_0 == 1)), (by first | rfl | (simp; done) | (simp [*]; done)), H', ⟨by have := HJ1.out; first | omega | exact Nat.le_refl _⟩, ⟨by (with_reducible repeat (first | refine blk_drewN ?_ _ | refine blk_drew ?_ | refine blk_alloc ?_ _)); exact BK178.out⟩, ⟨by repeat (first | (with_reducible first | exact HB.out | apply below_alloc | apply pw_below_drewN | apply below_drew1 | refine below_set ?_ GE178.out) | exact HB.out)⟩⟩
          · rw [if_neg c15] at H
            have c15b0 : (a0_0 == 1) = false := beq_eq_false_iff_ne.mpr c15
            have c15b1 : (a0_0 != 1) = true := bne_iff_ne.mpr c15
            (first | rw [c15b0] | (simp only [i64_w, i32_w]; rw [c15b0]) | skip)
            have H' := Aside0.mk H
            clear H
            go_wp2
            go_meet
            case rel => exact ⟨_, ((a0_0 == 2)), (by first | rfl | (simp; done) | (simp [*]; done)), H', ⟨by have := HJ1.out; first | omega | exact Nat.le_refl _⟩, ⟨by (with_reducible repeat (first | refine blk_drewN ?_ _ | refine blk_drew ?_ | refine blk_alloc ?_ _)); exact BK178.out⟩, ⟨by repeat (first | (with_reducible first | exact HB.out | apply below_alloc | apply pw_below_drewN | apply below_drew1 | refine below_set ?_ GE178.out) | exact HB.out)⟩⟩
        case rest =>
          clear HC13
          try clear c1
          try clear p2
          try clear c4
          try clear c4b0
          try clear c4b1
          try clear c6
          try clear p6
          try clear c7
          try clear c7b0
          try clear c7b1
          try clear c8
          try clear c9
          try clear c9b0
          try clear c9b1
          try clear c15
          try clear c15b0
          try clear c15b1
          try clear hcz10_0
          try clear hcz10_1
          try clear hcz10_2
          try clear hcz10_3
          try clear hcz10_4
          try clear hcz10_5
          try clear hcz11_0
          try clear hcz11_1
          try clear hcz11_2
          try clear hcz11_3
          try clear hcz11_4
          try clear hcz11_5
          try clear hcz12_0
          try clear hcz12_1
          try clear hcz12_2
          try clear hcz12_3
          try clear hcz12_4
          try clear hcz12_5
          try clear hcz14_0
          try clear hcz14_1
          try clear hcz14_2
          try clear hcz14_3
          try clear hcz14_4
          try clear hcz14_5
          try clear hcz5_0
          try clear hcz5_1
          try clear hcz5_2
          try clear hcz5_3
          try clear hcz5_4
          try clear hcz5_5
          try clear hcz6_0
          try clear hcz6_1
          try clear hcz6_2
          try clear hcz6_3
          try clear hcz6_4
          try clear hcz6_5
          try clear hfz10_0
          try clear hfz10_1
          try clear hfz10_2
          try clear hfz10_3
          try clear hfz10_4
          try clear hfz10_5
          try clear hfz11_0
          try clear hfz11_1
          try clear hfz11_2
          try clear hfz11_3
          try clear hfz11_4
          try clear hfz11_5
          try clear hfz12_0
          try clear hfz12_1
          try clear hfz12_2
          try clear hfz12_3
          try clear hfz12_4
          try clear hfz12_5
          try clear hfz14_0
          try clear hfz14_1
          try clear hfz14_2
          try clear hfz14_3
          try clear hfz14_4
          try clear hfz14_5
          try clear hfz5_0
          try clear hfz5_1
          try clear hfz5_2
          try clear hfz5_3
          try clear hfz5_4
          try clear hfz5_5
          try clear hfz6_0
          try clear hfz6_1
          try clear hfz6_2
          try clear hfz6_3
          try clear hfz6_4
          try clear hfz6_5
          try clear p2
          obtain ⟨kq, x32_12, rfl, HA, HJ12, BK178, HB⟩ := hcut
          cases kq with
          | zero => exact absurd HA.out (by simp [punchcutref18_bare.j1])
          | succ kj12 =>
            have H := HA.out
            clear HA
            simp only [punchcutref18_bare.j1] at H
            by_cases c16 : x32_12 = true
            · subst c16
              have H1 : (if a0_2 = 0 then (if a0_3.toList = ([] : List UInt8) then (some ((wrap64 ((l0_4.length : Int) + (l0_5.length : Int))) == 0)) else (some false)) else (some false)) = some r := by rw [if_pos rfl] at H; exact H
              clear H
              have H := H1
              clear H1
              by_cases c17 : a0_2 = 0
              · rw [if_pos c17] at H
                have c17b0 : (a0_2 == 0) = true := beq_iff_eq.mpr c17
                have c17b1 : (a0_2 != 0) = false := bne_eq_false_iff_eq.mpr c17
                clear c17
                by_cases c18 : a0_3.toList = ([] : List UInt8)
                · rw [if_pos c18] at H
                  have c18b0 : (a0_3.toList == ([] : List UInt8)) = true := beq_iff_eq.mpr c18
                  have c18b1 : (a0_3.toList != ([] : List UInt8)) = false := bne_eq_false_iff_eq.mpr c18
                  clear c18
                  obtain rfl := Option.some.inj H
                  have hcz19_0 : wc.cell? ⟨gb178, 0, none⟩ = some (.int .u8 a0_0) := (blk_cell BK178.out 0).trans rfl
                  have hcz19_1 : wc.cell? ⟨gb178, 1, none⟩ = some (.int .i64 a0_1) := (blk_cell BK178.out 1).trans rfl
                  have hcz19_2 : wc.cell? ⟨gb178, 2, none⟩ = some (.int .i64 a0_2) := (blk_cell BK178.out 2).trans rfl
                  have hcz19_3 : wc.cell? ⟨gb178, 3, none⟩ = some (.string a0_3) := (blk_cell BK178.out 3).trans rfl
                  have hcz19_4 : wc.cell? ⟨gb178, 4, none⟩ = some (.slice A0_4 l0_4.length c0_4) := (blk_cell BK178.out 4).trans rfl
                  have hcz19_5 : wc.cell? ⟨gb178, 5, none⟩ = some (.slice A0_5 l0_5.length c0_5) := (blk_cell BK178.out 5).trans rfl
                  have hfz19_0 := blk_frozen BK178.out 0
                  have hfz19_1 := blk_frozen BK178.out 1
                  have hfz19_2 := blk_frozen BK178.out 2
                  have hfz19_3 := blk_frozen BK178.out 3
                  have hfz19_4 := blk_frozen BK178.out 4
                  have hfz19_5 := blk_frozen BK178.out 5
                  go_wp2
                  go_ret
                  exact ⟨by first | rfl | (simp [errW_none, errW_some] <;> rfl) | (simp [*, errW_none, errW_some] <;> rfl), by repeat (first | (with_reducible first | exact HB.out | apply below_alloc | apply pw_below_drewN | apply below_drew1 | refine below_set ?_ GE178.out) | exact HB.out)⟩
                · rw [if_neg c18] at H
                  have c18b0 : (a0_3.toList == ([] : List UInt8)) = false := beq_eq_false_iff_ne.mpr c18
                  have c18b1 : (a0_3.toList != ([] : List UInt8)) = true := bne_iff_ne.mpr c18
                  obtain rfl := Option.some.inj H
                  have hcz20_0 : wc.cell? ⟨gb178, 0, none⟩ = some (.int .u8 a0_0) := (blk_cell BK178.out 0).trans rfl
                  have hcz20_1 : wc.cell? ⟨gb178, 1, none⟩ = some (.int .i64 a0_1) := (blk_cell BK178.out 1).trans rfl
                  have hcz20_2 : wc.cell? ⟨gb178, 2, none⟩ = some (.int .i64 a0_2) := (blk_cell BK178.out 2).trans rfl
                  have hcz20_3 : wc.cell? ⟨gb178, 3, none⟩ = some (.string a0_3) := (blk_cell BK178.out 3).trans rfl
                  have hcz20_4 : wc.cell? ⟨gb178, 4, none⟩ = some (.slice A0_4 l0_4.length c0_4) := (blk_cell BK178.out 4).trans rfl
                  have hcz20_5 : wc.cell? ⟨gb178, 5, none⟩ = some (.slice A0_5 l0_5.length c0_5) := (blk_cell BK178.out 5).trans rfl
                  have hfz20_0 := blk_frozen BK178.out 0
                  have hfz20_1 := blk_frozen BK178.out 1
                  have hfz20_2 := blk_frozen BK178.out 2
                  have hfz20_3 := blk_frozen BK178.out 3
                  have hfz20_4 := blk_frozen BK178.out 4
                  have hfz20_5 := blk_frozen BK178.out 5
                  go_wp2
                  go_ret
                  exact ⟨by first | rfl | (simp [errW_none, errW_some] <;> rfl) | (simp [*, errW_none, errW_some] <;> rfl), by repeat (first | (with_reducible first | exact HB.out | apply below_alloc | apply pw_below_drewN | apply below_drew1 | refine below_set ?_ GE178.out) | exact HB.out)⟩
              · rw [if_neg c17] at H
                have c17b0 : (a0_2 == 0) = false := beq_eq_false_iff_ne.mpr c17
                have c17b1 : (a0_2 != 0) = true := bne_iff_ne.mpr c17
                obtain rfl := Option.some.inj H
                have hcz21_0 : wc.cell? ⟨gb178, 0, none⟩ = some (.int .u8 a0_0) := (blk_cell BK178.out 0).trans rfl
                have hcz21_1 : wc.cell? ⟨gb178, 1, none⟩ = some (.int .i64 a0_1) := (blk_cell BK178.out 1).trans rfl
                have hcz21_2 : wc.cell? ⟨gb178, 2, none⟩ = some (.int .i64 a0_2) := (blk_cell BK178.out 2).trans rfl
                have hcz21_3 : wc.cell? ⟨gb178, 3, none⟩ = some (.string a0_3) := (blk_cell BK178.out 3).trans rfl
                have hcz21_4 : wc.cell? ⟨gb178, 4, none⟩ = some (.slice A0_4 l0_4.length c0_4) := (blk_cell BK178.out 4).trans rfl
                have hcz21_5 : wc.cell? ⟨gb178, 5, none⟩ = some (.slice A0_5 l0_5.length c0_5) := (blk_cell BK178.out 5).trans rfl
                have hfz21_0 := blk_frozen BK178.out 0
                have hfz21_1 := blk_frozen BK178.out 1
                have hfz21_2 := blk_frozen BK178.out 2
                have hfz21_3 := blk_frozen BK178.out 3
                have hfz21_4 := blk_frozen BK178.out 4
                have hfz21_5 := blk_frozen BK178.out 5
                go_wp2
                go_ret
                exact ⟨by first | rfl | (simp [errW_none, errW_some] <;> rfl) | (simp [*, errW_none, errW_some] <;> rfl), by repeat (first | (with_reducible first | exact HB.out | apply below_alloc | apply pw_below_drewN | apply below_drew1 | refine below_set ?_ GE178.out) | exact HB.out)⟩
            · replace c16 := Bool.eq_false_iff.mpr c16
              subst c16
              have H1 : (if a0_0 = 3 then (punchcutref18_bare.j2 kj12 x3_1 a0_0 (a0_0 == 3) a0_0 a0_1 a0_2 a0_3 l0_4 l0_5) else (punchcutref18_bare.j2 kj12 x3_1 a0_0 (a0_0 == 4) a0_0 a0_1 a0_2 a0_3 l0_4 l0_5)) = some r := by rw [if_neg (show ¬ (false = true) by decide)] at H; exact H
              clear H
              have H := H1
              clear H1
              have HC22 := Aside0.mk H
              clear H
              go_upto_if 53 with (fail)
              go_cut [53] (fun v53 wc => ∃ (kq : Nat) (x53_21 : Bool), v53 = .bool x53_21 ∧ Aside0 (punchcutref18_bare.j2 kq x3_1 a0_0 x53_21 a0_0 a0_1 a0_2 a0_3 l0_4 l0_5 = some r) ∧ Aside0 (kq ≤ kj12) ∧ Aside0 (wc.heap[gb178]? = some (.cells #[.int .u8 a0_0, .int .i64 a0_1, .int .i64 a0_2, .string a0_3, (.slice A0_4 l0_4.length c0_4), (.slice A0_5 l0_5.length c0_5)] 34 (0, 0))) ∧ Aside0 (Below w.heap.size w wc))
              case first =>
                have H := HC22.out
                clear HC22
                by_cases c23 : a0_0 = 3
                · rw [if_pos c23] at H
                  have c23b0 : (a0_0 == 3) = true := beq_iff_eq.mpr c23
                  have c23b1 : (a0_0 != 3) = false := bne_eq_false_iff_eq.mpr c23
                  clear c23
                  (first | rw [c23b0] | (simp only [i64_w, i32_w]; rw [c23b0]) | skip)
                  have H' := Aside0.mk H
                  clear H
                  go_wp2
                  go_meet
                  case rel => exact ⟨_, ((a0_0 == 3)), (by first | rfl | (simp; done) | (simp [*]; done)), H', ⟨by have := HJ1.out; have := HJ12.out; first | omega | exact Nat.le_refl _⟩, ⟨by (with_reducible repeat (first | refine blk_drewN ?_ _ | refine blk_drew ?_ | refine blk_alloc ?_ _)); exact BK178.out⟩, ⟨by repeat (first | (with_reducible first | exact HB.out | apply below_alloc | apply pw_below_drewN | apply below_drew1 | refine below_set ?_ GE178.out) | exact HB.out)⟩⟩
                · rw [if_neg c23] at H
                  have c23b0 : (a0_0 == 3) = false := beq_eq_false_iff_ne.mpr c23
                  have c23b1 : (a0_0 != 3) = true := bne_iff_ne.mpr c23
                  (first | rw [c23b0] | (simp only [i64_w, i32_w]; rw [c23b0]) | skip)
                  have H' := Aside0.mk H
                  clear H
                  go_wp2
                  go_meet
                  case rel => exact ⟨_, ((a0_0 == 4)), (by first | rfl | (simp; done) | (simp [*]; done)), H', ⟨by have := HJ1.out; have := HJ12.out; first | omega | exact Nat.le_refl _⟩, ⟨by (with_reducible repeat (first | refine blk_drewN ?_ _ | refine blk_drew ?_ | refine blk_alloc ?_ _)); exact BK178.out⟩, ⟨by repeat (first | (with_reducible first | exact HB.out | apply below_alloc | apply pw_below_drewN | apply below_drew1 | refine below_set ?_ GE178.out) | exact HB.out)⟩⟩
              case rest =>
                clear HC22
                try clear c1
                try clear c2
                try clear p2
                try clear c4
                try clear c4b0
                try clear c4b1
                try clear c6
                try clear p6
                try clear c7
                try clear c7b0
                try clear c7b1
                try clear c8
                try clear c9
                try clear c9b0
                try clear c9b1
                try clear c15
                try clear c15b0
                try clear c15b1
                try clear c16
                try clear c17
                try clear c17b0
                try clear c17b1
                try clear c18
                try clear c18b0
                try clear c18b1
                try clear c23
                try clear c23b0
                try clear c23b1
                try clear hcz10_0
                try clear hcz10_1
                try clear hcz10_2
                try clear hcz10_3
                try clear hcz10_4
                try clear hcz10_5
                try clear hcz11_0
                try clear hcz11_1
                try clear hcz11_2
                try clear hcz11_3
                try clear hcz11_4
                try clear hcz11_5
                try clear hcz12_0
                try clear hcz12_1
                try clear hcz12_2
                try clear hcz12_3
                try clear hcz12_4
                try clear hcz12_5
                try clear hcz14_0
                try clear hcz14_1
                try clear hcz14_2
                try clear hcz14_3
                try clear hcz14_4
                try clear hcz14_5
                try clear hcz19_0
                try clear hcz19_1
                try clear hcz19_2
                try clear hcz19_3
                try clear hcz19_4
                try clear hcz19_5
                try clear hcz20_0
                try clear hcz20_1
                try clear hcz20_2
                try clear hcz20_3
                try clear hcz20_4
                try clear hcz20_5
                try clear hcz21_0
                try clear hcz21_1
                try clear hcz21_2
                try clear hcz21_3
                try clear hcz21_4
                try clear hcz21_5
                try clear hcz5_0
                try clear hcz5_1
                try clear hcz5_2
                try clear hcz5_3
                try clear hcz5_4
                try clear hcz5_5
                try clear hcz6_0
                try clear hcz6_1
                try clear hcz6_2
                try clear hcz6_3
                try clear hcz6_4
                try clear hcz6_5
                try clear hfz10_0
                try clear hfz10_1
                try clear hfz10_2
                try clear hfz10_3
                try clear hfz10_4
                try clear hfz10_5
                try clear hfz11_0
                try clear hfz11_1
                try clear hfz11_2
                try clear hfz11_3
                try clear hfz11_4
                try clear hfz11_5
                try clear hfz12_0
                try clear hfz12_1
                try clear hfz12_2
                try clear hfz12_3
                try clear hfz12_4
                try clear hfz12_5
                try clear hfz14_0
                try clear hfz14_1
                try clear hfz14_2
                try clear hfz14_3
                try clear hfz14_4
                try clear hfz14_5
                try clear hfz19_0
                try clear hfz19_1
                try clear hfz19_2
                try clear hfz19_3
                try clear hfz19_4
                try clear hfz19_5
                try clear hfz20_0
                try clear hfz20_1
                try clear hfz20_2
                try clear hfz20_3
                try clear hfz20_4
                try clear hfz20_5
                try clear hfz21_0
                try clear hfz21_1
                try clear hfz21_2
                try clear hfz21_3
                try clear hfz21_4
                try clear hfz21_5
                try clear hfz5_0
                try clear hfz5_1
                try clear hfz5_2
                try clear hfz5_3
                try clear hfz5_4
                try clear hfz5_5
                try clear hfz6_0
                try clear hfz6_1
                try clear hfz6_2
                try clear hfz6_3
                try clear hfz6_4
                try clear hfz6_5
                try clear p2
                try clear p6
                obtain ⟨kq, x53_21, rfl, HA, HJ21, BK178, HB⟩ := hcut
                cases kq with
                | zero => exact absurd HA.out (by simp [punchcutref18_bare.j2])
                | succ kj21 =>
                  have H := HA.out
                  clear HA
                  simp only [punchcutref18_bare.j2] at H
                  by_cases c24 : x53_21 = true
                  · subst c24
                    have H1 : (if x3_1 = true then (some ((wrap64 ((l0_4.length : Int) + (l0_5.length : Int))) == 0)) else (some false)) = some r := by rw [if_pos rfl] at H; exact H
                    clear H
                    have H := H1
                    clear H1
                    by_cases c25 : x3_1 = true
                    · subst c25
                      have H1 : (some ((wrap64 ((l0_4.length : Int) + (l0_5.length : Int))) == 0)) = some r := by rw [if_pos rfl] at H; exact H
                      clear H
                      have H := H1
                      clear H1
                      obtain rfl := Option.some.inj H
                      have hcz26_0 : wc.cell? ⟨gb178, 0, none⟩ = some (.int .u8 a0_0) := (blk_cell BK178.out 0).trans rfl
                      have hcz26_1 : wc.cell? ⟨gb178, 1, none⟩ = some (.int .i64 a0_1) := (blk_cell BK178.out 1).trans rfl
                      have hcz26_2 : wc.cell? ⟨gb178, 2, none⟩ = some (.int .i64 a0_2) := (blk_cell BK178.out 2).trans rfl
                      have hcz26_3 : wc.cell? ⟨gb178, 3, none⟩ = some (.string a0_3) := (blk_cell BK178.out 3).trans rfl
                      have hcz26_4 : wc.cell? ⟨gb178, 4, none⟩ = some (.slice A0_4 l0_4.length c0_4) := (blk_cell BK178.out 4).trans rfl
                      have hcz26_5 : wc.cell? ⟨gb178, 5, none⟩ = some (.slice A0_5 l0_5.length c0_5) := (blk_cell BK178.out 5).trans rfl
                      have hfz26_0 := blk_frozen BK178.out 0
                      have hfz26_1 := blk_frozen BK178.out 1
                      have hfz26_2 := blk_frozen BK178.out 2
                      have hfz26_3 := blk_frozen BK178.out 3
                      have hfz26_4 := blk_frozen BK178.out 4
                      have hfz26_5 := blk_frozen BK178.out 5
                      go_wp2
                      go_ret
                      exact ⟨by first | rfl | (simp [errW_none, errW_some] <;> rfl) | (simp [*, errW_none, errW_some] <;> rfl), by repeat (first | (with_reducible first | exact HB.out | apply below_alloc | apply pw_below_drewN | apply below_drew1 | refine below_set ?_ GE178.out) | exact HB.out)⟩
                    · replace c25 := Bool.eq_false_iff.mpr c25
                      subst c25
                      have H1 : (some false) = some r := by rw [if_neg (show ¬ (false = true) by decide)] at H; exact H
                      clear H
                      have H := H1
                      clear H1
                      obtain rfl := Option.some.inj H
                      go_wp2
                      go_ret
                      exact ⟨by first | rfl | (simp [errW_none, errW_some] <;> rfl) | (simp [*, errW_none, errW_some] <;> rfl), by repeat (first | (with_reducible first | exact HB.out | apply below_alloc | apply pw_below_drewN | apply below_drew1 | refine below_set ?_ GE178.out) | exact HB.out)⟩
                  · replace c24 := Bool.eq_false_iff.mpr c24
                    subst c24
                    have H1 : (if a0_0 = 5 then (if x3_1 = true then (if a0_3.toList = ([] : List UInt8) then (some ((l0_5.length : Int) == 0)) else (some false)) else (some false)) else (if a0_0 = 6 then (if x3_1 = true then (if a0_3.toList = ([] : List UInt8) then (some ((l0_5.length : Int) == (l0_4.length : Int))) else (some false)) else (some false)) else (if a0_0 = 7 then (if a0_3.toList = ([] : List UInt8) then (some ((wrap64 ((l0_4.length : Int) + (l0_5.length : Int))) == 0)) else (some false)) else (some false)))) = some r := by rw [if_neg (show ¬ (false = true) by decide)] at H; exact H
                    clear H
                    have H := H1
                    clear H1
                    by_cases c27 : a0_0 = 5
                    · rw [if_pos c27] at H
                      have c27b0 : (a0_0 == 5) = true := beq_iff_eq.mpr c27
                      have c27b1 : (a0_0 != 5) = false := bne_eq_false_iff_eq.mpr c27
                      clear c27
                      by_cases c28 : x3_1 = true
                      · subst c28
                        have H1 : (if a0_3.toList = ([] : List UInt8) then (some ((l0_5.length : Int) == 0)) else (some false)) = some r := by rw [if_pos rfl] at H; exact H
                        clear H
                        have H := H1
                        clear H1
                        by_cases c29 : a0_3.toList = ([] : List UInt8)
                        · rw [if_pos c29] at H
                          have c29b0 : (a0_3.toList == ([] : List UInt8)) = true := beq_iff_eq.mpr c29
                          have c29b1 : (a0_3.toList != ([] : List UInt8)) = false := bne_eq_false_iff_eq.mpr c29
                          clear c29
                          obtain rfl := Option.some.inj H
                          have hcz30_0 : wc.cell? ⟨gb178, 0, none⟩ = some (.int .u8 a0_0) := (blk_cell BK178.out 0).trans rfl
                          have hcz30_1 : wc.cell? ⟨gb178, 1, none⟩ = some (.int .i64 a0_1) := (blk_cell BK178.out 1).trans rfl
                          have hcz30_2 : wc.cell? ⟨gb178, 2, none⟩ = some (.int .i64 a0_2) := (blk_cell BK178.out 2).trans rfl
                          have hcz30_3 : wc.cell? ⟨gb178, 3, none⟩ = some (.string a0_3) := (blk_cell BK178.out 3).trans rfl
                          have hcz30_4 : wc.cell? ⟨gb178, 4, none⟩ = some (.slice A0_4 l0_4.length c0_4) := (blk_cell BK178.out 4).trans rfl
                          have hcz30_5 : wc.cell? ⟨gb178, 5, none⟩ = some (.slice A0_5 l0_5.length c0_5) := (blk_cell BK178.out 5).trans rfl
                          have hfz30_0 := blk_frozen BK178.out 0
                          have hfz30_1 := blk_frozen BK178.out 1
                          have hfz30_2 := blk_frozen BK178.out 2
                          have hfz30_3 := blk_frozen BK178.out 3
                          have hfz30_4 := blk_frozen BK178.out 4
                          have hfz30_5 := blk_frozen BK178.out 5
                          go_wp2
                          go_ret
                          exact ⟨by first | rfl | (simp [errW_none, errW_some] <;> rfl) | (simp [*, errW_none, errW_some] <;> rfl), by repeat (first | (with_reducible first | exact HB.out | apply below_alloc | apply pw_below_drewN | apply below_drew1 | refine below_set ?_ GE178.out) | exact HB.out)⟩
                        · rw [if_neg c29] at H
                          have c29b0 : (a0_3.toList == ([] : List UInt8)) = false := beq_eq_false_iff_ne.mpr c29
                          have c29b1 : (a0_3.toList != ([] : List UInt8)) = true := bne_iff_ne.mpr c29
                          obtain rfl := Option.some.inj H
                          have hcz31_0 : wc.cell? ⟨gb178, 0, none⟩ = some (.int .u8 a0_0) := (blk_cell BK178.out 0).trans rfl
                          have hcz31_1 : wc.cell? ⟨gb178, 1, none⟩ = some (.int .i64 a0_1) := (blk_cell BK178.out 1).trans rfl
                          have hcz31_2 : wc.cell? ⟨gb178, 2, none⟩ = some (.int .i64 a0_2) := (blk_cell BK178.out 2).trans rfl
                          have hcz31_3 : wc.cell? ⟨gb178, 3, none⟩ = some (.string a0_3) := (blk_cell BK178.out 3).trans rfl
                          have hcz31_4 : wc.cell? ⟨gb178, 4, none⟩ = some (.slice A0_4 l0_4.length c0_4) := (blk_cell BK178.out 4).trans rfl
                          have hcz31_5 : wc.cell? ⟨gb178, 5, none⟩ = some (.slice A0_5 l0_5.length c0_5) := (blk_cell BK178.out 5).trans rfl
                          have hfz31_0 := blk_frozen BK178.out 0
                          have hfz31_1 := blk_frozen BK178.out 1
                          have hfz31_2 := blk_frozen BK178.out 2
                          have hfz31_3 := blk_frozen BK178.out 3
                          have hfz31_4 := blk_frozen BK178.out 4
                          have hfz31_5 := blk_frozen BK178.out 5
                          go_wp2
                          go_ret
                          exact ⟨by first | rfl | (simp [errW_none, errW_some] <;> rfl) | (simp [*, errW_none, errW_some] <;> rfl), by repeat (first | (with_reducible first | exact HB.out | apply below_alloc | apply pw_below_drewN | apply below_drew1 | refine below_set ?_ GE178.out) | exact HB.out)⟩
                      · replace c28 := Bool.eq_false_iff.mpr c28
                        subst c28
                        have H1 : (some false) = some r := by rw [if_neg (show ¬ (false = true) by decide)] at H; exact H
                        clear H
                        have H := H1
                        clear H1
                        obtain rfl := Option.some.inj H
                        go_wp2
                        go_ret
                        exact ⟨by first | rfl | (simp [errW_none, errW_some] <;> rfl) | (simp [*, errW_none, errW_some] <;> rfl), by repeat (first | (with_reducible first | exact HB.out | apply below_alloc | apply pw_below_drewN | apply below_drew1 | refine below_set ?_ GE178.out) | exact HB.out)⟩
                    · rw [if_neg c27] at H
                      have c27b0 : (a0_0 == 5) = false := beq_eq_false_iff_ne.mpr c27
                      have c27b1 : (a0_0 != 5) = true := bne_iff_ne.mpr c27
                      by_cases c32 : a0_0 = 6
                      · rw [if_pos c32] at H
                        have c32b0 : (a0_0 == 6) = true := beq_iff_eq.mpr c32
                        have c32b1 : (a0_0 != 6) = false := bne_eq_false_iff_eq.mpr c32
                        clear c32
                        by_cases c33 : x3_1 = true
                        · subst c33
                          have H1 : (if a0_3.toList = ([] : List UInt8) then (some ((l0_5.length : Int) == (l0_4.length : Int))) else (some false)) = some r := by rw [if_pos rfl] at H; exact H
                          clear H
                          have H := H1
                          clear H1
                          by_cases c34 : a0_3.toList = ([] : List UInt8)
                          · rw [if_pos c34] at H
                            have c34b0 : (a0_3.toList == ([] : List UInt8)) = true := beq_iff_eq.mpr c34
                            have c34b1 : (a0_3.toList != ([] : List UInt8)) = false := bne_eq_false_iff_eq.mpr c34
                            clear c34
                            obtain rfl := Option.some.inj H
                            have hcz35_0 : wc.cell? ⟨gb178, 0, none⟩ = some (.int .u8 a0_0) := (blk_cell BK178.out 0).trans rfl
                            have hcz35_1 : wc.cell? ⟨gb178, 1, none⟩ = some (.int .i64 a0_1) := (blk_cell BK178.out 1).trans rfl
                            have hcz35_2 : wc.cell? ⟨gb178, 2, none⟩ = some (.int .i64 a0_2) := (blk_cell BK178.out 2).trans rfl
                            have hcz35_3 : wc.cell? ⟨gb178, 3, none⟩ = some (.string a0_3) := (blk_cell BK178.out 3).trans rfl
                            have hcz35_4 : wc.cell? ⟨gb178, 4, none⟩ = some (.slice A0_4 l0_4.length c0_4) := (blk_cell BK178.out 4).trans rfl
                            have hcz35_5 : wc.cell? ⟨gb178, 5, none⟩ = some (.slice A0_5 l0_5.length c0_5) := (blk_cell BK178.out 5).trans rfl
                            have hfz35_0 := blk_frozen BK178.out 0
                            have hfz35_1 := blk_frozen BK178.out 1
                            have hfz35_2 := blk_frozen BK178.out 2
                            have hfz35_3 := blk_frozen BK178.out 3
                            have hfz35_4 := blk_frozen BK178.out 4
                            have hfz35_5 := blk_frozen BK178.out 5
                            go_wp2
                            go_ret
                            exact ⟨by first | rfl | (simp [errW_none, errW_some] <;> rfl) | (simp [*, errW_none, errW_some] <;> rfl), by repeat (first | (with_reducible first | exact HB.out | apply below_alloc | apply pw_below_drewN | apply below_drew1 | refine below_set ?_ GE178.out) | exact HB.out)⟩
                          · rw [if_neg c34] at H
                            have c34b0 : (a0_3.toList == ([] : List UInt8)) = false := beq_eq_false_iff_ne.mpr c34
                            have c34b1 : (a0_3.toList != ([] : List UInt8)) = true := bne_iff_ne.mpr c34
                            obtain rfl := Option.some.inj H
                            have hcz36_0 : wc.cell? ⟨gb178, 0, none⟩ = some (.int .u8 a0_0) := (blk_cell BK178.out 0).trans rfl
                            have hcz36_1 : wc.cell? ⟨gb178, 1, none⟩ = some (.int .i64 a0_1) := (blk_cell BK178.out 1).trans rfl
                            have hcz36_2 : wc.cell? ⟨gb178, 2, none⟩ = some (.int .i64 a0_2) := (blk_cell BK178.out 2).trans rfl
                            have hcz36_3 : wc.cell? ⟨gb178, 3, none⟩ = some (.string a0_3) := (blk_cell BK178.out 3).trans rfl
                            have hcz36_4 : wc.cell? ⟨gb178, 4, none⟩ = some (.slice A0_4 l0_4.length c0_4) := (blk_cell BK178.out 4).trans rfl
                            have hcz36_5 : wc.cell? ⟨gb178, 5, none⟩ = some (.slice A0_5 l0_5.length c0_5) := (blk_cell BK178.out 5).trans rfl
                            have hfz36_0 := blk_frozen BK178.out 0
                            have hfz36_1 := blk_frozen BK178.out 1
                            have hfz36_2 := blk_frozen BK178.out 2
                            have hfz36_3 := blk_frozen BK178.out 3
                            have hfz36_4 := blk_frozen BK178.out 4
                            have hfz36_5 := blk_frozen BK178.out 5
                            go_wp2
                            go_ret
                            exact ⟨by first | rfl | (simp [errW_none, errW_some] <;> rfl) | (simp [*, errW_none, errW_some] <;> rfl), by repeat (first | (with_reducible first | exact HB.out | apply below_alloc | apply pw_below_drewN | apply below_drew1 | refine below_set ?_ GE178.out) | exact HB.out)⟩
                        · replace c33 := Bool.eq_false_iff.mpr c33
                          subst c33
                          have H1 : (some false) = some r := by rw [if_neg (show ¬ (false = true) by decide)] at H; exact H
                          clear H
                          have H := H1
                          clear H1
                          obtain rfl := Option.some.inj H
                          go_wp2
                          go_ret
                          exact ⟨by first | rfl | (simp [errW_none, errW_some] <;> rfl) | (simp [*, errW_none, errW_some] <;> rfl), by repeat (first | (with_reducible first | exact HB.out | apply below_alloc | apply pw_below_drewN | apply below_drew1 | refine below_set ?_ GE178.out) | exact HB.out)⟩
                      · rw [if_neg c32] at H
                        have c32b0 : (a0_0 == 6) = false := beq_eq_false_iff_ne.mpr c32
                        have c32b1 : (a0_0 != 6) = true := bne_iff_ne.mpr c32
                        by_cases c37 : a0_0 = 7
                        · rw [if_pos c37] at H
                          have c37b0 : (a0_0 == 7) = true := beq_iff_eq.mpr c37
                          have c37b1 : (a0_0 != 7) = false := bne_eq_false_iff_eq.mpr c37
                          clear c37
                          by_cases c38 : a0_3.toList = ([] : List UInt8)
                          · rw [if_pos c38] at H
                            have c38b0 : (a0_3.toList == ([] : List UInt8)) = true := beq_iff_eq.mpr c38
                            have c38b1 : (a0_3.toList != ([] : List UInt8)) = false := bne_eq_false_iff_eq.mpr c38
                            clear c38
                            obtain rfl := Option.some.inj H
                            have hcz39_0 : wc.cell? ⟨gb178, 0, none⟩ = some (.int .u8 a0_0) := (blk_cell BK178.out 0).trans rfl
                            have hcz39_1 : wc.cell? ⟨gb178, 1, none⟩ = some (.int .i64 a0_1) := (blk_cell BK178.out 1).trans rfl
                            have hcz39_2 : wc.cell? ⟨gb178, 2, none⟩ = some (.int .i64 a0_2) := (blk_cell BK178.out 2).trans rfl
                            have hcz39_3 : wc.cell? ⟨gb178, 3, none⟩ = some (.string a0_3) := (blk_cell BK178.out 3).trans rfl
                            have hcz39_4 : wc.cell? ⟨gb178, 4, none⟩ = some (.slice A0_4 l0_4.length c0_4) := (blk_cell BK178.out 4).trans rfl
                            have hcz39_5 : wc.cell? ⟨gb178, 5, none⟩ = some (.slice A0_5 l0_5.length c0_5) := (blk_cell BK178.out 5).trans rfl
                            have hfz39_0 := blk_frozen BK178.out 0
                            have hfz39_1 := blk_frozen BK178.out 1
                            have hfz39_2 := blk_frozen BK178.out 2
                            have hfz39_3 := blk_frozen BK178.out 3
                            have hfz39_4 := blk_frozen BK178.out 4
                            have hfz39_5 := blk_frozen BK178.out 5
                            go_wp2
                            go_ret
                            exact ⟨by first | rfl | (simp [errW_none, errW_some] <;> rfl) | (simp [*, errW_none, errW_some] <;> rfl), by repeat (first | (with_reducible first | exact HB.out | apply below_alloc | apply pw_below_drewN | apply below_drew1 | refine below_set ?_ GE178.out) | exact HB.out)⟩
                          · rw [if_neg c38] at H
                            have c38b0 : (a0_3.toList == ([] : List UInt8)) = false := beq_eq_false_iff_ne.mpr c38
                            have c38b1 : (a0_3.toList != ([] : List UInt8)) = true := bne_iff_ne.mpr c38
                            obtain rfl := Option.some.inj H
                            have hcz40_0 : wc.cell? ⟨gb178, 0, none⟩ = some (.int .u8 a0_0) := (blk_cell BK178.out 0).trans rfl
                            have hcz40_1 : wc.cell? ⟨gb178, 1, none⟩ = some (.int .i64 a0_1) := (blk_cell BK178.out 1).trans rfl
                            have hcz40_2 : wc.cell? ⟨gb178, 2, none⟩ = some (.int .i64 a0_2) := (blk_cell BK178.out 2).trans rfl
                            have hcz40_3 : wc.cell? ⟨gb178, 3, none⟩ = some (.string a0_3) := (blk_cell BK178.out 3).trans rfl
                            have hcz40_4 : wc.cell? ⟨gb178, 4, none⟩ = some (.slice A0_4 l0_4.length c0_4) := (blk_cell BK178.out 4).trans rfl
                            have hcz40_5 : wc.cell? ⟨gb178, 5, none⟩ = some (.slice A0_5 l0_5.length c0_5) := (blk_cell BK178.out 5).trans rfl
                            have hfz40_0 := blk_frozen BK178.out 0
                            have hfz40_1 := blk_frozen BK178.out 1
                            have hfz40_2 := blk_frozen BK178.out 2
                            have hfz40_3 := blk_frozen BK178.out 3
                            have hfz40_4 := blk_frozen BK178.out 4
                            have hfz40_5 := blk_frozen BK178.out 5
                            go_wp2
                            go_ret
                            exact ⟨by first | rfl | (simp [errW_none, errW_some] <;> rfl) | (simp [*, errW_none, errW_some] <;> rfl), by repeat (first | (with_reducible first | exact HB.out | apply below_alloc | apply pw_below_drewN | apply below_drew1 | refine below_set ?_ GE178.out) | exact HB.out)⟩
                        · rw [if_neg c37] at H
                          have c37b0 : (a0_0 == 7) = false := beq_eq_false_iff_ne.mpr c37
                          have c37b1 : (a0_0 != 7) = true := bne_iff_ne.mpr c37
                          obtain rfl := Option.some.inj H
                          have hcz41_0 : wc.cell? ⟨gb178, 0, none⟩ = some (.int .u8 a0_0) := (blk_cell BK178.out 0).trans rfl
                          have hcz41_1 : wc.cell? ⟨gb178, 1, none⟩ = some (.int .i64 a0_1) := (blk_cell BK178.out 1).trans rfl
                          have hcz41_2 : wc.cell? ⟨gb178, 2, none⟩ = some (.int .i64 a0_2) := (blk_cell BK178.out 2).trans rfl
                          have hcz41_3 : wc.cell? ⟨gb178, 3, none⟩ = some (.string a0_3) := (blk_cell BK178.out 3).trans rfl
                          have hcz41_4 : wc.cell? ⟨gb178, 4, none⟩ = some (.slice A0_4 l0_4.length c0_4) := (blk_cell BK178.out 4).trans rfl
                          have hcz41_5 : wc.cell? ⟨gb178, 5, none⟩ = some (.slice A0_5 l0_5.length c0_5) := (blk_cell BK178.out 5).trans rfl
                          have hfz41_0 := blk_frozen BK178.out 0
                          have hfz41_1 := blk_frozen BK178.out 1
                          have hfz41_2 := blk_frozen BK178.out 2
                          have hfz41_3 := blk_frozen BK178.out 3
                          have hfz41_4 := blk_frozen BK178.out 4
                          have hfz41_5 := blk_frozen BK178.out 5
                          go_wp2
                          go_ret
                          exact ⟨by first | rfl | (simp [errW_none, errW_some] <;> rfl) | (simp [*, errW_none, errW_some] <;> rfl), by repeat (first | (with_reducible first | exact HB.out | apply below_alloc | apply pw_below_drewN | apply below_drew1 | refine below_set ?_ GE178.out) | exact HB.out)⟩
mutual
def punchcutref18_Deep.l0 : Nat → Int → Int → List (S28) → Int → Int → Option (Int)
  | 0, _, _, _, _, _ => none
  | k + 1, x1, x5, x9, x10, x11 => if x11 < x10 then (if 0 ≤ x11 then (if x11 < (x9.length : Int) then (if x1 > 0 then ((punchcutref18_Deep.f k ((rd_T34 x9 x11).f0) ((rd_T34 x9 x11).f1) ((rd_T34 x9 x11).f2) ((rd_T34 x9 x11).f3) ((rd_T34 x9 x11).f4) ((rd_T34 x9 x11).f5) (wrap64 (x1 - 1))).bind fun t182 => (punchcutref18_Deep.l0 k x1 (mx x5 (wrap64 (1 + t182))) x9 x10 (wrap64 (x11 + 1)))) else (punchcutref18_Deep.l0 k x1 x5 x9 x10 (wrap64 (x11 + 1)))) else (none)) else (none)) else (some x5)
def punchcutref18_Deep.f : Nat → Int → Int → Int → ByteArray → List (S28) → List ByteArray → Int → Option (Int)
  | 0, _, _, _, _, _, _, _ => none
  | k + 1, a0_0, a0_1, a0_2, a0_3, l0_4, l0_5, a1 => punchcutref18_Deep.l0 k a1 0 l0_4 (l0_4.length : Int) 0
end
theorem punchcutref18_Deep.mono_l : ∀ k, (∀ y0 y1 y2 y3 y4 y5 y6, LeO (punchcutref18_Deep.f k y0 y1 y2 y3 y4 y5 y6) (punchcutref18_Deep.f (k + 1) y0 y1 y2 y3 y4 y5 y6)) ∧ (∀ y0 y1 y2 y3 y4, LeO (punchcutref18_Deep.l0 k y0 y1 y2 y3 y4) (punchcutref18_Deep.l0 (k + 1) y0 y1 y2 y3 y4))
  | 0 => ⟨fun _ _ _ _ _ _ _ r h => by simp [punchcutref18_Deep.f] at h, fun _ _ _ _ _ r h => by simp [punchcutref18_Deep.l0] at h⟩
  | k + 1 => by
    obtain ⟨ih0, ih1⟩ := punchcutref18_Deep.mono_l k
    refine ⟨?_, ?_⟩
    · intro y0 y1 y2 y3 y4 y5 y6
      unfold punchcutref18_Deep.f
      repeat' first
      | (with_reducible exact ih0 _ _ _ _ _ _ _)
      | (with_reducible exact ih1 _ _ _ _ _)
      | (with_reducible exact LeO.refl _)
      | (with_reducible exact LeO.none _)
      | (with_reducible refine LeO.ite ?_ ?_)
      | (with_reducible refine LeO.bind ?_ (fun _ => ?_))
      | exact ih0 _ _ _ _ _ _ _
      | exact ih1 _ _ _ _ _
      | exact LeO.none _
      | refine LeO.ite ?_ ?_
      | refine LeO.bind ?_ (fun _ => ?_)
    · intro y0 y1 y2 y3 y4
      unfold punchcutref18_Deep.l0
      repeat' first
      | (with_reducible exact ih0 _ _ _ _ _ _ _)
      | (with_reducible exact ih1 _ _ _ _ _)
      | (with_reducible exact LeO.refl _)
      | (with_reducible exact LeO.none _)
      | (with_reducible refine LeO.ite ?_ ?_)
      | (with_reducible refine LeO.bind ?_ (fun _ => ?_))
      | exact ih0 _ _ _ _ _ _ _
      | exact ih1 _ _ _ _ _
      | exact LeO.none _
      | refine LeO.ite ?_ ?_
      | refine LeO.bind ?_ (fun _ => ?_)
theorem punchcutref18_Deep.mono : ∀ a0 a1 a2 a3 a4 a5 a6 k, LeO (punchcutref18_Deep.f k a0 a1 a2 a3 a4 a5 a6) (punchcutref18_Deep.f (k + 1) a0 a1 a2 a3 a4 a5 a6) := by
  intro a0 a1 a2 a3 a4 a5 a6 k
  obtain ⟨ih0, ih1⟩ := punchcutref18_Deep.mono_l k
  exact ih0 a0 a1 a2 a3 a4 a5 a6
set_option maxHeartbeats 8000000 in
set_option maxRecDepth 100000 in
theorem punchcutref18_Deep.calls (k : Nat) : ∀ (a0_0 : Int) (a0_1 : Int) (a0_2 : Int) (a0_3 : ByteArray) (A0_4 : Option Addr) (c0_4 : Nat) (l0_4 : List (S28)) (A0_5 : Option Addr) (c0_5 : Nat) (l0_5 : List ByteArray) (a1 : Int) (r : Int) (w : World) (hr0_4 : Kd.C k34 w A0_4 l0_4.length l0_4) (hc0_4 : l0_4.length ≤ c0_4) (hr0_5 : Kd.C Kd.string w A0_5 l0_5.length l0_5) (hc0_5 : l0_5.length ≤ c0_5) (h : punchcutref18_Deep.f k a0_0 a0_1 a0_2 a0_3 l0_4 l0_5 a1 = some r),
    Calls Tryz.prog 64 #[.agg #[.int .u8 a0_0, .int .i64 a0_1, .int .i64 a0_2, .string a0_3, .slice A0_4 l0_4.length c0_4, .slice A0_5 l0_5.length c0_5], .int .i64 a1] w fun e w' => e = .returned (.int .i64 r) ∧ Below w.heap.size w w' := by
  induction k using Nat.strongRecOn with
  | _ k ih =>
  intro a0_0 a0_1 a0_2 a0_3 A0_4 c0_4 l0_4 A0_5 c0_5 l0_5 a1 r w hr0_4 hc0_4 hr0_5 hc0_5 h
  cases k with
  | zero => exact absurd h (by simp [punchcutref18_Deep.f])
  | succ k =>
  simp only [punchcutref18_Deep.f] at h
  have hu34 := Tryz.underlying34
  have HR0_4 := Aside0.mk hr0_4
  have HC0_4 := Aside0.mk hc0_4
  clear hr0_4 hc0_4
  have HR0_5 := Aside0.mk hr0_5
  have HC0_5 := Aside0.mk hc0_5
  clear hr0_5 hc0_5
  have HB := Aside0.mk (Below.refl w.heap.size w)
  have H : (punchcutref18_Deep.l0 k a1 0 l0_4 (l0_4.length : Int) 0) = some r := h
  clear h
  have H' := Aside0.mk H
  clear H
  go_enter Tryz.func64, Tryz.ntmps64
  go_wp2_with (first | ((with_reducible refine gate_dst (N := 2) rfl ?_); refine box_event ?hg (N := 2) ?hd (cs := #[.int .u8 a0_0, .int .i64 a0_1, .int .i64 a0_2, .string a0_3, .slice A0_4 l0_4.length c0_4, .slice A0_5 l0_5.length c0_5]) (t := 34) ?hr ?_; (case hd => rfl); (case hg => rfl); (case hr => first | (go_simp; done) | (go_simp; rfl)); intro gb179 hg w3 hbox hb; have n0_ := Aside0.mk (below_step (by repeat (first | (with_reducible first | exact HB.out | apply below_alloc | apply pw_below_drewN | apply below_drew1) | exact HB.out)) hb); have n1_ := Aside0.mk (hbox); have n2_ := Aside0.mk ((by rw [hg]; exact (below_size (by repeat (first | (with_reducible first | exact HB.out | apply below_alloc | apply pw_below_drewN | apply below_drew1) | exact HB.out))) : w.heap.size ≤ gb179)); have n3_ := Aside0.mk ((by rw [hg]; exact (below_size (by repeat (first | (with_reducible first | exact HB.out | apply below_alloc | apply pw_below_drewN | apply below_drew1) | exact HB.out))) : w.heap.size ≤ gb179)); clear HB; have HB := n0_; have BK179 := n1_; have GW179 := n2_; have GE179 := n3_; clear n0_ n1_ n2_ n3_; clear hb hbox hg; have hcz4_0 : w3.cell? ⟨gb179, 0, none⟩ = some (.int .u8 a0_0) := (blk_cell BK179.out 0).trans rfl; have hcz4_1 : w3.cell? ⟨gb179, 1, none⟩ = some (.int .i64 a0_1) := (blk_cell BK179.out 1).trans rfl; have hcz4_2 : w3.cell? ⟨gb179, 2, none⟩ = some (.int .i64 a0_2) := (blk_cell BK179.out 2).trans rfl; have hcz4_3 : w3.cell? ⟨gb179, 3, none⟩ = some (.string a0_3) := (blk_cell BK179.out 3).trans rfl; have hcz4_4 : w3.cell? ⟨gb179, 4, none⟩ = some (.slice A0_4 l0_4.length c0_4) := (blk_cell BK179.out 4).trans rfl; have hcz4_5 : w3.cell? ⟨gb179, 5, none⟩ = some (.slice A0_5 l0_5.length c0_5) := (blk_cell BK179.out 5).trans rfl; have hfz4_0 := blk_frozen BK179.out 0; have hfz4_1 := blk_frozen BK179.out 1; have hfz4_2 := blk_frozen BK179.out 2; have hfz4_3 := blk_frozen BK179.out 3; have hfz4_4 := blk_frozen BK179.out 4; have hfz4_5 := blk_frozen BK179.out 5))
  go_loopg [5, 11] k (fun kq v5 v11 w' => ∃ (x5_1 : Int) (x11_1 : Int), v5 = .int .i64 x5_1 ∧ v11 = .int .i64 x11_1 ∧ Aside0 (punchcutref18_Deep.l0 kq a1 x5_1 l0_4 (l0_4.length : Int) x11_1 = some r) ∧ Aside0 (kq ≤ k) ∧ Aside0 (w'.heap[gb179]? = some (.cells #[.int .u8 a0_0, .int .i64 a0_1, .int .i64 a0_2, .string a0_3, (.slice A0_4 l0_4.length c0_4), (.slice A0_5 l0_5.length c0_5)] 34 (0, 0))) ∧ Aside0 (Below w.heap.size w w'))
  case atStart => exact ⟨(0), (0), (by first | rfl | (simp; done) | (simp [*]; done)), (by first | rfl | (simp; done) | (simp [*]; done)), H', ⟨Nat.le_refl _⟩, ⟨by (with_reducible repeat (first | refine blk_drewN ?_ _ | refine blk_drew ?_ | refine blk_alloc ?_ _)); exact BK179.out⟩, ⟨by repeat (first | (with_reducible first | exact HB.out | apply below_alloc | apply pw_below_drewN | apply below_drew1 | refine below_set ?_ GE179.out) | exact HB.out)⟩⟩
  case round =>
    clear H'
    try clear p2
    try clear hcz4_0
    try clear hcz4_1
    try clear hcz4_2
    try clear hcz4_3
    try clear hcz4_4
    try clear hcz4_5
    try clear hfz4_0
    try clear hfz4_1
    try clear hfz4_2
    try clear hfz4_3
    try clear hfz4_4
    try clear hfz4_5
    obtain ⟨x5_1, x11_1, rfl, rfl, HA, HK1, BK179, HB⟩ := hrel
    cases gk with
    | zero => exact absurd HA.out (by simp [punchcutref18_Deep.l0])
    | succ k1 =>
      have H := HA.out
      clear HA
      simp only [punchcutref18_Deep.l0] at H
      by_cases c5 : x11_1 < (l0_4.length : Int)
      · rw [if_pos c5] at H
        have c5b0 : decide (x11_1 < (l0_4.length : Int)) = true := decide_eq_true c5
        clear c5
        by_cases c6 : 0 ≤ x11_1
        · rw [if_pos c6] at H
          have c6b0 : decide (0 ≤ x11_1) = true := decide_eq_true c6
          clear c6
          by_cases c7 : x11_1 < (l0_4.length : Int)
          · rw [if_pos c7] at H
            have c7b0 : decide (x11_1 < (l0_4.length : Int)) = true := decide_eq_true c7
            clear c7
            by_cases c8 : a1 > 0
            · rw [if_pos c8] at H
              have c8b0 : decide (0 < a1) = true := decide_eq_true c8
              clear c8
              replace H := Option.bind_eq_some_iff.mp H
              obtain ⟨t182, A90, H⟩ := H
              replace H : (punchcutref18_Deep.l0 k1 a1 (mx x5_1 (wrap64 (1 + t182))) l0_4 (l0_4.length : Int) (wrap64 (x11_1 + 1))) = some r := H
              have A9 := Aside0.mk A90
              clear A90
              obtain ⟨ji10, hji10⟩ : ∃ j_ : Int, (mx x5_1 (wrap64 (1 + t182))) = j_ := ⟨_, rfl⟩
              replace H : (punchcutref18_Deep.l0 k1 a1 ji10 l0_4 (l0_4.length : Int) (wrap64 (x11_1 + 1))) = some r := by first | (rw [hji10] at H; exact H) | (simp only [hji10] at H ⊢; exact H)
              (try rw [hji10] at A9)
              have hji10_ : (if x5_1 < (wrap64 (1 + t182)) then (wrap64 (1 + t182)) else x5_1) = ji10 := hji10
              have H' := Aside0.mk H
              clear H
              have p180 : 0 ≤ (x11_1 : Int) := of_decide_eq_true (by first | (with_reducible assumption) | assumption)
              have q180 : x11_1 < (l0_4.length : Int) := of_decide_eq_true (by first | (with_reducible assumption) | assumption)
              obtain ⟨ad180, A180_4, c180_4, A180_5, c180_5, e180, hx180_0, hx180_1, hx180_2, hx180_3, hx180_4, hx180_5, hl180_4, hi180_4, hl180_5, hi180_5⟩ := at_T34 HR0_4.out x11_1 p180 q180
              cases e180
              replace hx180_0 := (HB.out.cell (World.block_lt_of_cell? w _ hx180_0)).trans hx180_0
              replace hx180_1 := (HB.out.cell (World.block_lt_of_cell? w _ hx180_1)).trans hx180_1
              replace hx180_2 := (HB.out.cell (World.block_lt_of_cell? w _ hx180_2)).trans hx180_2
              replace hx180_3 := (HB.out.cell (World.block_lt_of_cell? w _ hx180_3)).trans hx180_3
              replace hx180_4 := (HB.out.cell (World.block_lt_of_cell? w _ hx180_4)).trans hx180_4
              replace hx180_5 := (HB.out.cell (World.block_lt_of_cell? w _ hx180_5)).trans hx180_5
              have HR180_4 := Aside0.mk hi180_4
              have HC180_4 := Aside0.mk hl180_4
              clear hi180_4 hl180_4
              have HR180_5 := Aside0.mk hi180_5
              have HC180_5 := Aside0.mk hl180_5
              clear hi180_5 hl180_5
              replace p180 := eq_true p180
              replace q180 := eq_true q180
              go_wp2_with (first | ((with_reducible refine gate_dst (N := 7) rfl ?_); refine box_event ?hg (N := 7) ?hd (cs := #[.int .u8 0, .int .i64 0, .int .i64 0, .string (⟨#[]⟩ : ByteArray), .slice none 0 0, .slice none 0 0]) (t := 34) ?hr ?_; (case hd => rfl); (case hg => rfl); (case hr => first | (go_simp; done) | (go_simp; rfl)); intro gb181 hg w11 hbox hb; have n0_ := Aside0.mk (blk_below (g := gb179) (o := .cells #[.int .u8 a0_0, .int .i64 a0_1, .int .i64 a0_2, .string a0_3, .slice (some ad180) l0_4.length c0_4, .slice A0_5 l0_5.length c0_5] 34 (0, 0)) (by (with_reducible repeat (first | refine blk_drewN ?_ _ | refine blk_drew ?_ | refine blk_alloc ?_ _)); exact BK179.out) hb); have n1_ := Aside0.mk (below_step (by repeat (first | (with_reducible first | exact HB.out | apply below_alloc | apply pw_below_drewN | apply below_drew1 | refine below_set ?_ GE179.out) | exact HB.out)) hb); have n2_ := Aside0.mk (hbox); have n3_ := Aside0.mk ((by rw [hg]; exact (below_size (by repeat (first | (with_reducible first | exact HB.out | apply below_alloc | apply pw_below_drewN | apply below_drew1 | refine below_set ?_ GE179.out) | exact HB.out))) : w.heap.size ≤ gb181)); have n4_ := Aside0.mk ((by rw [hg]; exact (below_size (by repeat (first | (with_reducible first | exact HB.out | apply below_alloc | apply pw_below_drewN | apply below_drew1 | refine below_set ?_ GE179.out) | exact HB.out))) : w.heap.size ≤ gb181)); have n5_ := Aside0.mk ((by rw [hg]; exact Nat.ne_of_lt (blk_lt (g := gb179) (o := .cells #[.int .u8 a0_0, .int .i64 a0_1, .int .i64 a0_2, .string a0_3, .slice (some ad180) l0_4.length c0_4, .slice A0_5 l0_5.length c0_5] 34 (0, 0)) (by (with_reducible repeat (first | refine blk_drewN ?_ _ | refine blk_drew ?_ | refine blk_alloc ?_ _)); exact BK179.out)) : gb179 ≠ gb181)); have n6_ := Aside0.mk ((by rw [hg]; exact Nat.ne_of_gt (blk_lt (g := gb179) (o := .cells #[.int .u8 a0_0, .int .i64 a0_1, .int .i64 a0_2, .string a0_3, .slice (some ad180) l0_4.length c0_4, .slice A0_5 l0_5.length c0_5] 34 (0, 0)) (by (with_reducible repeat (first | refine blk_drewN ?_ _ | refine blk_drew ?_ | refine blk_alloc ?_ _)); exact BK179.out)) : gb181 ≠ gb179)); clear BK179; clear HB; have BK179 := n0_; have HB := n1_; have BK181 := n2_; have GW181 := n3_; have GE181 := n4_; have NB179_181 := n5_; have NB181_179 := n6_; clear n0_ n1_ n2_ n3_ n4_ n5_ n6_; clear hb hbox hg; have hnb12 := NB181_179.out; have hnc12 := NB179_181.out; have hcz13_0 : w11.cell? ⟨gb181, 0, none⟩ = some (.int .u8 0) := (blk_cell BK181.out 0).trans rfl; have hcz13_1 : w11.cell? ⟨gb181, 1, none⟩ = some (.int .i64 0) := (blk_cell BK181.out 1).trans rfl; have hcz13_2 : w11.cell? ⟨gb181, 2, none⟩ = some (.int .i64 0) := (blk_cell BK181.out 2).trans rfl; have hcz13_3 : w11.cell? ⟨gb181, 3, none⟩ = some (.string (⟨#[]⟩ : ByteArray)) := (blk_cell BK181.out 3).trans rfl; have hcz13_4 : w11.cell? ⟨gb181, 4, none⟩ = some (.slice none 0 0) := (blk_cell BK181.out 4).trans rfl; have hcz13_5 : w11.cell? ⟨gb181, 5, none⟩ = some (.slice none 0 0) := (blk_cell BK181.out 5).trans rfl; have hfz13_0 := blk_frozen BK181.out 0; have hfz13_1 := blk_frozen BK181.out 1; have hfz13_2 := blk_frozen BK181.out 2; have hfz13_3 := blk_frozen BK181.out 3; have hfz13_4 := blk_frozen BK181.out 4; have hfz13_5 := blk_frozen BK181.out 5) | ((with_reducible refine gate_callee (f := 64) rfl ?_); refine goesL_ (some 21) rfl rfl Tryz.func64 (by kernel_rfl) rfl #[.agg #[.int .u8 ((rd_T34 l0_4 x11_1).f0), .int .i64 ((rd_T34 l0_4 x11_1).f1), .int .i64 ((rd_T34 l0_4 x11_1).f2), .string ((rd_T34 l0_4 x11_1).f3), .slice A180_4 ((rd_T34 l0_4 x11_1).f4).length c180_4, .slice A180_5 ((rd_T34 l0_4 x11_1).f5).length c180_5], .int .i64 (wrap64 (a1 - 1))] rfl (by (try simp only [List.map_toArray, List.map_cons, List.map_nil]); first | done | rfl | (simp only [List.length_drop, List.length_take]; rfl)) ?_; (with_reducible refine (ih k1 (by have := HK1.out; omega) ((rd_T34 l0_4 x11_1).f0) ((rd_T34 l0_4 x11_1).f1) ((rd_T34 l0_4 x11_1).f2) ((rd_T34 l0_4 x11_1).f3) _ _ ((rd_T34 l0_4 x11_1).f4) _ _ ((rd_T34 l0_4 x11_1).f5) (wrap64 (a1 - 1)) t182 _ ?side1 ?side2 ?side3 ?side4 A9.out).mono ?_); (case side1 => exact Kd.C_below HR180_4.out (by repeat (first | (with_reducible first | exact HB.out | apply below_alloc | apply pw_below_drewN | apply below_drew1 | refine below_set ?_ GE179.out | refine below_set ?_ GE181.out) | exact HB.out))); (case side2 => exact HC180_4.out); (case side3 => exact Kd.C_below HR180_5.out (by repeat (first | (with_reducible first | exact HB.out | apply below_alloc | apply pw_below_drewN | apply below_drew1 | refine below_set ?_ GE179.out | refine below_set ?_ GE181.out) | exact HB.out))); (case side4 => exact HC180_5.out); rintro e w14 ⟨rfl, hb⟩; refine ⟨_, rfl, ?_⟩; have n0_ := Aside0.mk (blk_below (g := gb179) (o := .cells #[.int .u8 a0_0, .int .i64 a0_1, .int .i64 a0_2, .string a0_3, .slice (some ad180) l0_4.length c0_4, .slice A0_5 l0_5.length c0_5] 34 (0, 0)) (by (with_reducible repeat (first | refine blk_drewN ?_ _ | refine blk_drew ?_ | refine blk_alloc ?_ _)); refine blk_far ?_ NB179_181.out _; (with_reducible repeat (first | refine blk_drewN ?_ _ | refine blk_drew ?_ | refine blk_alloc ?_ _)); refine blk_far ?_ NB179_181.out _; (with_reducible repeat (first | refine blk_drewN ?_ _ | refine blk_drew ?_ | refine blk_alloc ?_ _)); refine blk_far ?_ NB179_181.out _; (with_reducible repeat (first | refine blk_drewN ?_ _ | refine blk_drew ?_ | refine blk_alloc ?_ _)); refine blk_far ?_ NB179_181.out _; (with_reducible repeat (first | refine blk_drewN ?_ _ | refine blk_drew ?_ | refine blk_alloc ?_ _)); refine blk_far ?_ NB179_181.out _; (with_reducible repeat (first | refine blk_drewN ?_ _ | refine blk_drew ?_ | refine blk_alloc ?_ _)); refine blk_far ?_ NB179_181.out _; (with_reducible repeat (first | refine blk_drewN ?_ _ | refine blk_drew ?_ | refine blk_alloc ?_ _)); exact BK179.out) hb); have n1_ := Aside0.mk (blk_below (g := gb181) (o := .cells #[.int .u8 ((rd_T34 l0_4 x11_1).f0), .int .i64 ((rd_T34 l0_4 x11_1).f1), .int .i64 ((rd_T34 l0_4 x11_1).f2), .string ((rd_T34 l0_4 x11_1).f3), .slice A180_4 ((rd_T34 l0_4 x11_1).f4).length c180_4, .slice A180_5 ((rd_T34 l0_4 x11_1).f5).length c180_5] 34 (0, 0)) (by (with_reducible repeat (first | refine blk_drewN ?_ _ | refine blk_drew ?_ | refine blk_alloc ?_ _)); refine blk_put (cs := #[.int .u8 ((rd_T34 l0_4 x11_1).f0), .int .i64 ((rd_T34 l0_4 x11_1).f1), .int .i64 ((rd_T34 l0_4 x11_1).f2), .string ((rd_T34 l0_4 x11_1).f3), .slice A180_4 ((rd_T34 l0_4 x11_1).f4).length c180_4, .slice none 0 0]) ?_ 5 _ rfl; (with_reducible repeat (first | refine blk_drewN ?_ _ | refine blk_drew ?_ | refine blk_alloc ?_ _)); refine blk_put (cs := #[.int .u8 ((rd_T34 l0_4 x11_1).f0), .int .i64 ((rd_T34 l0_4 x11_1).f1), .int .i64 ((rd_T34 l0_4 x11_1).f2), .string ((rd_T34 l0_4 x11_1).f3), .slice none 0 0, .slice none 0 0]) ?_ 4 _ rfl; (with_reducible repeat (first | refine blk_drewN ?_ _ | refine blk_drew ?_ | refine blk_alloc ?_ _)); refine blk_put (cs := #[.int .u8 ((rd_T34 l0_4 x11_1).f0), .int .i64 ((rd_T34 l0_4 x11_1).f1), .int .i64 ((rd_T34 l0_4 x11_1).f2), .string (⟨#[]⟩ : ByteArray), .slice none 0 0, .slice none 0 0]) ?_ 3 _ rfl; (with_reducible repeat (first | refine blk_drewN ?_ _ | refine blk_drew ?_ | refine blk_alloc ?_ _)); refine blk_put (cs := #[.int .u8 ((rd_T34 l0_4 x11_1).f0), .int .i64 ((rd_T34 l0_4 x11_1).f1), .int .i64 0, .string (⟨#[]⟩ : ByteArray), .slice none 0 0, .slice none 0 0]) ?_ 2 _ rfl; (with_reducible repeat (first | refine blk_drewN ?_ _ | refine blk_drew ?_ | refine blk_alloc ?_ _)); refine blk_put (cs := #[.int .u8 ((rd_T34 l0_4 x11_1).f0), .int .i64 0, .int .i64 0, .string (⟨#[]⟩ : ByteArray), .slice none 0 0, .slice none 0 0]) ?_ 1 _ rfl; (with_reducible repeat (first | refine blk_drewN ?_ _ | refine blk_drew ?_ | refine blk_alloc ?_ _)); refine blk_put (cs := #[.int .u8 0, .int .i64 0, .int .i64 0, .string (⟨#[]⟩ : ByteArray), .slice none 0 0, .slice none 0 0]) ?_ 0 _ rfl; (with_reducible repeat (first | refine blk_drewN ?_ _ | refine blk_drew ?_ | refine blk_alloc ?_ _)); exact BK181.out) hb); have n2_ := Aside0.mk (below_step (by repeat (first | (with_reducible first | exact HB.out | apply below_alloc | apply pw_below_drewN | apply below_drew1 | refine below_set ?_ GE179.out | refine below_set ?_ GE181.out) | exact HB.out)) hb); clear BK179; clear BK181; clear HB; have BK179 := n0_; have BK181 := n1_; have HB := n2_; clear n0_ n1_ n2_; (try clear hb); (try clear hb2); (try clear hk); (try clear hi)))
              go_roundg k1
              case measure => have := HK1.out; omega
              case rel => exact ⟨(ji10), (wrap64 (x11_1 + 1)), (by first | rfl | (simp; done) | (simp only [← hji10] <;> (first | rfl | simp)) | (simp [*]; done)), (by first | rfl | (simp; done) | (simp [*]; done)), H', ⟨by have := HK1.out; omega⟩, ⟨by (with_reducible repeat (first | refine blk_drewN ?_ _ | refine blk_drew ?_ | refine blk_alloc ?_ _)); exact BK179.out⟩, ⟨by repeat (first | (with_reducible first | exact HB.out | apply below_alloc | apply pw_below_drewN | apply below_drew1 | refine below_set ?_ GE179.out | refine below_set ?_ GE181.out) | exact HB.out)⟩⟩
            · rw [if_neg c8] at H
              have c8b0 : decide (0 < a1) = false := decide_eq_false c8
              clear c8
              have H' := Aside0.mk H
              clear H
              have p180 : 0 ≤ (x11_1 : Int) := of_decide_eq_true (by first | (with_reducible assumption) | assumption)
              have q180 : x11_1 < (l0_4.length : Int) := of_decide_eq_true (by first | (with_reducible assumption) | assumption)
              obtain ⟨ad180, A180_4, c180_4, A180_5, c180_5, e180, hx180_0, hx180_1, hx180_2, hx180_3, hx180_4, hx180_5, hl180_4, hi180_4, hl180_5, hi180_5⟩ := at_T34 HR0_4.out x11_1 p180 q180
              cases e180
              replace hx180_0 := (HB.out.cell (World.block_lt_of_cell? w _ hx180_0)).trans hx180_0
              replace hx180_1 := (HB.out.cell (World.block_lt_of_cell? w _ hx180_1)).trans hx180_1
              replace hx180_2 := (HB.out.cell (World.block_lt_of_cell? w _ hx180_2)).trans hx180_2
              replace hx180_3 := (HB.out.cell (World.block_lt_of_cell? w _ hx180_3)).trans hx180_3
              replace hx180_4 := (HB.out.cell (World.block_lt_of_cell? w _ hx180_4)).trans hx180_4
              replace hx180_5 := (HB.out.cell (World.block_lt_of_cell? w _ hx180_5)).trans hx180_5
              have HR180_4 := Aside0.mk hi180_4
              have HC180_4 := Aside0.mk hl180_4
              clear hi180_4 hl180_4
              have HR180_5 := Aside0.mk hi180_5
              have HC180_5 := Aside0.mk hl180_5
              clear hi180_5 hl180_5
              replace p180 := eq_true p180
              replace q180 := eq_true q180
              go_wp2_with (first | ((with_reducible refine gate_dst (N := 7) rfl ?_); refine box_event ?hg (N := 7) ?hd (cs := #[.int .u8 0, .int .i64 0, .int .i64 0, .string (⟨#[]⟩ : ByteArray), .slice none 0 0, .slice none 0 0]) (t := 34) ?hr ?_; (case hd => rfl); (case hg => rfl); (case hr => first | (go_simp; done) | (go_simp; rfl)); intro gb181 hg w15 hbox hb; have n0_ := Aside0.mk (blk_below (g := gb179) (o := .cells #[.int .u8 a0_0, .int .i64 a0_1, .int .i64 a0_2, .string a0_3, .slice (some ad180) l0_4.length c0_4, .slice A0_5 l0_5.length c0_5] 34 (0, 0)) (by (with_reducible repeat (first | refine blk_drewN ?_ _ | refine blk_drew ?_ | refine blk_alloc ?_ _)); exact BK179.out) hb); have n1_ := Aside0.mk (below_step (by repeat (first | (with_reducible first | exact HB.out | apply below_alloc | apply pw_below_drewN | apply below_drew1 | refine below_set ?_ GE179.out) | exact HB.out)) hb); have n2_ := Aside0.mk (hbox); have n3_ := Aside0.mk ((by rw [hg]; exact (below_size (by repeat (first | (with_reducible first | exact HB.out | apply below_alloc | apply pw_below_drewN | apply below_drew1 | refine below_set ?_ GE179.out) | exact HB.out))) : w.heap.size ≤ gb181)); have n4_ := Aside0.mk ((by rw [hg]; exact (below_size (by repeat (first | (with_reducible first | exact HB.out | apply below_alloc | apply pw_below_drewN | apply below_drew1 | refine below_set ?_ GE179.out) | exact HB.out))) : w.heap.size ≤ gb181)); have n5_ := Aside0.mk ((by rw [hg]; exact Nat.ne_of_lt (blk_lt (g := gb179) (o := .cells #[.int .u8 a0_0, .int .i64 a0_1, .int .i64 a0_2, .string a0_3, .slice (some ad180) l0_4.length c0_4, .slice A0_5 l0_5.length c0_5] 34 (0, 0)) (by (with_reducible repeat (first | refine blk_drewN ?_ _ | refine blk_drew ?_ | refine blk_alloc ?_ _)); exact BK179.out)) : gb179 ≠ gb181)); have n6_ := Aside0.mk ((by rw [hg]; exact Nat.ne_of_gt (blk_lt (g := gb179) (o := .cells #[.int .u8 a0_0, .int .i64 a0_1, .int .i64 a0_2, .string a0_3, .slice (some ad180) l0_4.length c0_4, .slice A0_5 l0_5.length c0_5] 34 (0, 0)) (by (with_reducible repeat (first | refine blk_drewN ?_ _ | refine blk_drew ?_ | refine blk_alloc ?_ _)); exact BK179.out)) : gb181 ≠ gb179)); clear BK179; clear HB; have BK179 := n0_; have HB := n1_; have BK181 := n2_; have GW181 := n3_; have GE181 := n4_; have NB179_181 := n5_; have NB181_179 := n6_; clear n0_ n1_ n2_ n3_ n4_ n5_ n6_; clear hb hbox hg; have hnb16 := NB181_179.out; have hnc16 := NB179_181.out; have hcz17_0 : w15.cell? ⟨gb181, 0, none⟩ = some (.int .u8 0) := (blk_cell BK181.out 0).trans rfl; have hcz17_1 : w15.cell? ⟨gb181, 1, none⟩ = some (.int .i64 0) := (blk_cell BK181.out 1).trans rfl; have hcz17_2 : w15.cell? ⟨gb181, 2, none⟩ = some (.int .i64 0) := (blk_cell BK181.out 2).trans rfl; have hcz17_3 : w15.cell? ⟨gb181, 3, none⟩ = some (.string (⟨#[]⟩ : ByteArray)) := (blk_cell BK181.out 3).trans rfl; have hcz17_4 : w15.cell? ⟨gb181, 4, none⟩ = some (.slice none 0 0) := (blk_cell BK181.out 4).trans rfl; have hcz17_5 : w15.cell? ⟨gb181, 5, none⟩ = some (.slice none 0 0) := (blk_cell BK181.out 5).trans rfl; have hfz17_0 := blk_frozen BK181.out 0; have hfz17_1 := blk_frozen BK181.out 1; have hfz17_2 := blk_frozen BK181.out 2; have hfz17_3 := blk_frozen BK181.out 3; have hfz17_4 := blk_frozen BK181.out 4; have hfz17_5 := blk_frozen BK181.out 5))
              go_roundg k1
              case measure => have := HK1.out; omega
              case rel => exact ⟨(x5_1), (wrap64 (x11_1 + 1)), (by first | rfl | (simp; done) | (simp [*]; done)), (by first | rfl | (simp; done) | (simp [*]; done)), H', ⟨by have := HK1.out; omega⟩, ⟨by (with_reducible repeat (first | refine blk_drewN ?_ _ | refine blk_drew ?_ | refine blk_alloc ?_ _)); refine blk_far ?_ NB179_181.out _; (with_reducible repeat (first | refine blk_drewN ?_ _ | refine blk_drew ?_ | refine blk_alloc ?_ _)); refine blk_far ?_ NB179_181.out _; (with_reducible repeat (first | refine blk_drewN ?_ _ | refine blk_drew ?_ | refine blk_alloc ?_ _)); refine blk_far ?_ NB179_181.out _; (with_reducible repeat (first | refine blk_drewN ?_ _ | refine blk_drew ?_ | refine blk_alloc ?_ _)); refine blk_far ?_ NB179_181.out _; (with_reducible repeat (first | refine blk_drewN ?_ _ | refine blk_drew ?_ | refine blk_alloc ?_ _)); refine blk_far ?_ NB179_181.out _; (with_reducible repeat (first | refine blk_drewN ?_ _ | refine blk_drew ?_ | refine blk_alloc ?_ _)); refine blk_far ?_ NB179_181.out _; (with_reducible repeat (first | refine blk_drewN ?_ _ | refine blk_drew ?_ | refine blk_alloc ?_ _)); exact BK179.out⟩, ⟨by repeat (first | (with_reducible first | exact HB.out | apply below_alloc | apply pw_below_drewN | apply below_drew1 | refine below_set ?_ GE179.out | refine below_set ?_ GE181.out) | exact HB.out)⟩⟩
          · rw [if_neg c7] at H
            exact absurd H (by simp)
        · rw [if_neg c6] at H
          exact absurd H (by simp)
      · rw [if_neg c5] at H
        have c5b0 : decide (x11_1 < (l0_4.length : Int)) = false := decide_eq_false c5
        clear c5
        obtain rfl := Option.some.inj H
        go_wp2
        go_ret
        exact ⟨by first | rfl | (simp [errW_none, errW_some] <;> rfl) | (simp [*, errW_none, errW_some] <;> rfl), by repeat (first | (with_reducible first | exact HB.out | apply below_alloc | apply pw_below_drewN | apply below_drew1 | refine below_set ?_ GE179.out) | exact HB.out)⟩
end Go.Proofs.YtnckaeehcldheaaGreatDoor.Pr
end

section
namespace Go.Proofs.YtnckaeehcldheaaGreatDoor.Pr
open Go.Proofs.YtnckaeehcldheaaGreatDoor.Ob (S28 z28 k28 k34 rd_T28 rd_T34 at_T28 at_T34 k28_open k28_openM k28_mk k28_mkM k28_openF k28_mkF k34_open k34_openM k34_mk k34_mkM k34_openF k34_mkF)
open Go.RowKit Go.Proofs.YtnckaeehcldheaaGreatDoorW.PrintWords Go.Proofs.YtnckaeehcldheaaGreatDoorW.PrintLast Go.Proofs.YtnckaeehcldheaaGreatDoorW.PrintMore
attribute [local go_sem] max2_int min2_int max_two min_two max_three min_three max_four min_four   -- for this text's walks alone
set_option linter.unusedVariables false
set_option linter.unusedSimpArgs false
def punchcutref01_Cut.l0 : Nat → Int → List Int → List Int → Int → Int → Option (List Int)
  | 0, _, _, _, _, _ => none
  | k + 1, x1, x5, x8, x9, x10 => if x10 < x9 then (if 0 ≤ x10 then (if x10 < (x8.length : Int) then (if x10 < x1 then (if x5.length < 140737488355328 then (punchcutref01_Cut.l0 k x1 (x5 ++ [rd x8 x10]) x8 x9 (wrap64 (x10 + 1))) else (none)) else (punchcutref01_Cut.l0 k x1 x5 x8 x9 (wrap64 (x10 + 1)))) else (none)) else (none)) else (some x5)
def punchcutref01_Cut.f (k : Nat) (l0 : List Int) (a1 : Int) : Option (List Int) := punchcutref01_Cut.l0 k a1 ([] : List Int) l0 (l0.length : Int) 0
theorem punchcutref01_Cut.mono_l : ∀ k, (∀ y0 y1 y2 y3 y4, LeO (punchcutref01_Cut.l0 k y0 y1 y2 y3 y4) (punchcutref01_Cut.l0 (k + 1) y0 y1 y2 y3 y4))
  | 0 => fun _ _ _ _ _ r h => by simp [punchcutref01_Cut.l0] at h
  | k + 1 => by
    have ih0 := punchcutref01_Cut.mono_l k
    · intro y0 y1 y2 y3 y4
      unfold punchcutref01_Cut.l0
      repeat' first
      | (with_reducible exact ih0 _ _ _ _ _)
      | (with_reducible exact LeO.refl _)
      | (with_reducible exact LeO.none _)
      | (with_reducible refine LeO.ite ?_ ?_)
      | (with_reducible refine LeO.bind ?_ (fun _ => ?_))
      | exact ih0 _ _ _ _ _
      | exact LeO.none _
      | refine LeO.ite ?_ ?_
      | refine LeO.bind ?_ (fun _ => ?_)
theorem punchcutref01_Cut.mono : ∀ a0 a1 k, LeO (punchcutref01_Cut.f k a0 a1) (punchcutref01_Cut.f (k + 1) a0 a1) := by
  intro a0 a1 k
  have ih0 := punchcutref01_Cut.mono_l k
  unfold punchcutref01_Cut.f
  repeat' first
      | (with_reducible exact ih0 _ _ _ _ _)
      | (with_reducible exact LeO.refl _)
      | (with_reducible exact LeO.none _)
      | (with_reducible refine LeO.ite ?_ ?_)
      | (with_reducible refine LeO.bind ?_ (fun _ => ?_))
      | exact ih0 _ _ _ _ _
      | exact LeO.none _
      | refine LeO.ite ?_ ?_
      | refine LeO.bind ?_ (fun _ => ?_)
set_option maxHeartbeats 8000000 in
set_option maxRecDepth 100000 in
theorem punchcutref01_Cut.calls (k : Nat) (A0 : Option Addr) (c0 : Nat) (l0 : List Int) (a1 : Int) (r : List Int) (w : World) (hr0 : Kd.C (Kd.int .u8) w A0 l0.length l0) (hc0 : l0.length ≤ c0) (h : punchcutref01_Cut.f k l0 a1 = some r) :
    Calls Tryz.prog 15 #[.slice A0 l0.length c0, .int .i64 a1] w fun e w' => ∃ v0_ : Value, e = .returned (v0_) ∧ Kd.R (Kd.int .u8) 5 w' w.heap.size (fun _ => True) v0_ r ∧ Below w.heap.size w w' := by
  have HR0 := Aside0.mk hr0
  have HC0 := Aside0.mk hc0
  clear hr0 hc0
  have HB := Aside0.mk (Below.refl w.heap.size w)
  have H : (punchcutref01_Cut.l0 k a1 ([] : List Int) l0 (l0.length : Int) 0) = some r := h
  clear h
  have H' := Aside0.mk H
  clear H
  go_enter Tryz.func15, Tryz.ntmps15
  go_wp2
  go_loopg [5, 10] k (fun kq v5 v10 w' => ∃ (x5_1 : List Int) (x10_1 : Int), v10 = .int .i64 x10_1 ∧ Aside0 (punchcutref01_Cut.l0 kq a1 x5_1 l0 (l0.length : Int) x10_1 = some r) ∧ Aside0 (kq ≤ k) ∧ Aside0 (Kd.R (Kd.int .u8) 5 w' w.heap.size (fun _ => True) v5 x5_1) ∧ Aside0 (Below w.heap.size w w'))
  case atStart => exact ⟨(([] : List Int)), (0), (by first | rfl | (simp; done) | (simp [*]; done)), H', ⟨Nat.le_refl _⟩, ⟨by first | exact Kd.R_nil _ _ _ _ _ | exact Kd.N_nil _ _ _ _ _ | exact Kd.V_nil _ _ _ _ _ | exact Kd.Q_nil _ _ _ _ _ | exact Kd.S_nil _ _ _ _ _⟩, ⟨by repeat (first | (with_reducible first | exact HB.out | apply below_alloc | apply pw_below_drewN | apply below_drew1) | exact HB.out)⟩⟩
  case round =>
    clear H'
    try clear c1
    try clear p2
    obtain ⟨x5_1, x10_1, rfl, HA, HK1, HO_5, HB⟩ := hrel
    cases gk with
    | zero => exact absurd HA.out (by simp [punchcutref01_Cut.l0])
    | succ k1 =>
      have H := HA.out
      clear HA
      simp only [punchcutref01_Cut.l0] at H
      by_cases c3 : x10_1 < (l0.length : Int)
      · rw [if_pos c3] at H
        have c3b0 : decide (x10_1 < (l0.length : Int)) = true := decide_eq_true c3
        clear c3
        by_cases c4 : 0 ≤ x10_1
        · rw [if_pos c4] at H
          have c4b0 : decide (0 ≤ x10_1) = true := decide_eq_true c4
          clear c4
          by_cases c5 : x10_1 < (l0.length : Int)
          · rw [if_pos c5] at H
            have c5b0 : decide (x10_1 < (l0.length : Int)) = true := decide_eq_true c5
            clear c5
            by_cases c6 : x10_1 < a1
            · rw [if_pos c6] at H
              have c6b0 : decide (x10_1 < a1) = true := decide_eq_true c6
              clear c6
              by_cases c7 : x5_1.length < 140737488355328
              · rw [if_pos c7] at H
                have LMc7 := Aside0.mk c7
                clear c7
                obtain ⟨y170, hy170⟩ : ∃ y_ : List Int, y_ = (x5_1 ++ [rd l0 x10_1]) := ⟨_, rfl⟩
                replace H : (punchcutref01_Cut.l0 k1 a1 y170 l0 (l0.length : Int) (wrap64 (x10_1 + 1))) = some r := by first | (rw [hy170]; with_reducible exact H) | (have H2_ := (Option.bind_some _ _).symm.trans H; rw [hy170]; with_reducible exact H2_) | (have H2_ := (Option.bind_some _ _).symm.trans H; with_reducible exact H2_) | with_reducible exact H | (rw [hy170]; exact H) | exact H
                have Ny170 := Aside0.mk hy170
                clear hy170
                have H' := Aside0.mk H
                clear H
                have p169 : 0 ≤ (x10_1 : Int) := of_decide_eq_true (by first | (with_reducible assumption) | assumption)
                have q169 : x10_1 < (l0.length : Int) := of_decide_eq_true (by first | (with_reducible assumption) | assumption)
                obtain ⟨ad169, e169, hx169_0⟩ := Kd.at_int HR0.out x10_1 p169 q169
                cases e169
                replace hx169_0 := (HB.out.cell (World.block_lt_of_cell? w _ hx169_0)).trans hx169_0
                replace p169 := eq_true p169
                replace q169 := eq_true q169
                go_wp2_with (first | ((with_reducible refine gate_builtin (b := .append) (xs := #[.tmp 18, .tmp 20]) rfl ?_); at_builtin; refine Kd.R_append (Kd.int .u8) (w0 := w) w.heap.size rfl (.tmp 18) (.tmp 20) 22 5 (.int .u8 0) 1 rfl Tryz.underlying22 info5 rfl (by decide) (by omega) u5 x5_1 (rd l0 x10_1) [.int .u8 (rd l0 x10_1)] (fun _ => True) (fun _ => False) rfl rfl ?aP (fun _ hk => hk.elim) ?aF ?aO ?aB ?aS ?aL ?_; (case aP => exact rfl); (case aB => exact (by repeat (first | (with_reducible first | exact HB.out | apply below_alloc | apply pw_below_drewN | apply below_drew1) | exact HB.out))); (case aF => exact (fun _ _ => trivial)); (case aO => exact (by (with_reducible repeat (first | apply Kd.R_alloc | apply Kd.R_drewN | apply Kd.R_drew)); exact HO_5.out)); (case aS => exact (below_size (by repeat (first | (with_reducible first | exact HB.out | apply below_alloc | apply pw_below_drewN | apply below_drew1) | exact HB.out)))); (case aL => have := LMc7.out; omega); intro v171 w8 ho hb hg hat; rw [← Ny170.out] at ho; have n0_ := Aside0.mk (hb); have n1_ := Aside0.mk (ho); clear HB; clear HO_5; have HB := n0_; have HO172 := n1_; clear n0_ n1_; clear ho hb hg hat))
                go_roundg k1
                case measure => have := HK1.out; omega
                case rel => exact ⟨(y170), (wrap64 (x10_1 + 1)), (by first | rfl | (simp; done) | (simp [*]; done)), H', ⟨by have := HK1.out; omega⟩, ⟨by (with_reducible repeat (first | apply Kd.R_alloc | apply Kd.R_drewN | apply Kd.R_drew)); exact HO172.out⟩, ⟨by repeat (first | (with_reducible first | exact HB.out | apply below_alloc | apply pw_below_drewN | apply below_drew1) | exact HB.out)⟩⟩
              · rw [if_neg c7] at H
                exact absurd H (by simp)
            · rw [if_neg c6] at H
              have c6b0 : decide (x10_1 < a1) = false := decide_eq_false c6
              clear c6
              have H' := Aside0.mk H
              clear H
              have p169 : 0 ≤ (x10_1 : Int) := of_decide_eq_true (by first | (with_reducible assumption) | assumption)
              have q169 : x10_1 < (l0.length : Int) := of_decide_eq_true (by first | (with_reducible assumption) | assumption)
              obtain ⟨ad169, e169, hx169_0⟩ := Kd.at_int HR0.out x10_1 p169 q169
              cases e169
              replace hx169_0 := (HB.out.cell (World.block_lt_of_cell? w _ hx169_0)).trans hx169_0
              replace p169 := eq_true p169
              replace q169 := eq_true q169
              go_wp2
              go_roundg k1
              case measure => have := HK1.out; omega
              case rel => exact ⟨(x5_1), (wrap64 (x10_1 + 1)), (by first | rfl | (simp; done) | (simp [*]; done)), H', ⟨by have := HK1.out; omega⟩, ⟨by (with_reducible repeat (first | apply Kd.R_alloc | apply Kd.R_drewN | apply Kd.R_drew)); exact HO_5.out⟩, ⟨by repeat (first | (with_reducible first | exact HB.out | apply below_alloc | apply pw_below_drewN | apply below_drew1) | exact HB.out)⟩⟩
          · rw [if_neg c5] at H
            exact absurd H (by simp)
        · rw [if_neg c4] at H
          exact absurd H (by simp)
      · rw [if_neg c3] at H
        have c3b0 : decide (x10_1 < (l0.length : Int)) = false := decide_eq_false c3
        clear c3
        obtain rfl := Option.some.inj H
        go_wp2
        go_ret
        exact ⟨_, by first | rfl | (simp [errW_none, errW_some] <;> rfl) | (simp [*, errW_none, errW_some] <;> rfl), by (with_reducible repeat (first | apply Kd.R_alloc | apply Kd.R_drewN | apply Kd.R_drew)); exact HO_5.out, by repeat (first | (with_reducible first | exact HB.out | apply below_alloc | apply pw_below_drewN | apply below_drew1) | exact HB.out)⟩
def slices_Equal_string_string.l0 : Nat → List ByteArray → List ByteArray → Int → Int → Option (Bool)
  | 0, _, _, _, _ => none
  | k + 1, x0, x1, x12, x13 => if x13 < x12 then (if 0 ≤ x13 then (if x13 < (x0.length : Int) then (if x13 < (x1.length : Int) then (if (rdOf ByteArray.empty x0 x13).toList = (rdOf ByteArray.empty x1 x13).toList then (slices_Equal_string_string.l0 k x0 x1 x12 (wrap64 (x13 + 1))) else (some false)) else (none)) else (none)) else (none)) else (some true)
def slices_Equal_string_string.f (k : Nat) (l0 : List ByteArray) (l1 : List ByteArray) : Option (Bool) := if (l0.length : Int) = (l1.length : Int) then (slices_Equal_string_string.l0 k l0 l1 (l0.length : Int) 0) else (some false)
theorem slices_Equal_string_string.mono_l : ∀ k, (∀ y0 y1 y2 y3, LeO (slices_Equal_string_string.l0 k y0 y1 y2 y3) (slices_Equal_string_string.l0 (k + 1) y0 y1 y2 y3))
  | 0 => fun _ _ _ _ r h => by simp [slices_Equal_string_string.l0] at h
  | k + 1 => by
    have ih0 := slices_Equal_string_string.mono_l k
    · intro y0 y1 y2 y3
      unfold slices_Equal_string_string.l0
      repeat' first
      | (with_reducible exact ih0 _ _ _ _)
      | (with_reducible exact LeO.refl _)
      | (with_reducible exact LeO.none _)
      | (with_reducible refine LeO.ite ?_ ?_)
      | (with_reducible refine LeO.bind ?_ (fun _ => ?_))
      | exact ih0 _ _ _ _
      | exact LeO.none _
      | refine LeO.ite ?_ ?_
      | refine LeO.bind ?_ (fun _ => ?_)
theorem slices_Equal_string_string.mono : ∀ a0 a1 k, LeO (slices_Equal_string_string.f k a0 a1) (slices_Equal_string_string.f (k + 1) a0 a1) := by
  intro a0 a1 k
  have ih0 := slices_Equal_string_string.mono_l k
  unfold slices_Equal_string_string.f
  repeat' first
      | (with_reducible exact ih0 _ _ _ _)
      | (with_reducible exact LeO.refl _)
      | (with_reducible exact LeO.none _)
      | (with_reducible refine LeO.ite ?_ ?_)
      | (with_reducible refine LeO.bind ?_ (fun _ => ?_))
      | exact ih0 _ _ _ _
      | exact LeO.none _
      | refine LeO.ite ?_ ?_
      | refine LeO.bind ?_ (fun _ => ?_)
set_option maxHeartbeats 8000000 in
set_option maxRecDepth 100000 in
theorem slices_Equal_string_string.calls (k : Nat) (A0 : Option Addr) (c0 : Nat) (l0 : List ByteArray) (A1 : Option Addr) (c1 : Nat) (l1 : List ByteArray) (r : Bool) (w : World) (hr0 : Kd.C Kd.string w A0 l0.length l0) (hc0 : l0.length ≤ c0) (hr1 : Kd.C Kd.string w A1 l1.length l1) (hc1 : l1.length ≤ c1) (h : slices_Equal_string_string.f k l0 l1 = some r) :
    Calls Tryz.prog 51 #[.slice A0 l0.length c0, .slice A1 l1.length c1] w fun e w' => e = .returned (.bool r) ∧ Drawn0 w w' := by
  have HR0 := Aside0.mk hr0
  have HC0 := Aside0.mk hc0
  clear hr0 hc0
  have HR1 := Aside0.mk hr1
  have HC1 := Aside0.mk hc1
  clear hr1 hc1
  have H : (if (l0.length : Int) = (l1.length : Int) then (slices_Equal_string_string.l0 k l0 l1 (l0.length : Int) 0) else (some false)) = some r := h
  clear h
  by_cases c3 : (l0.length : Int) = (l1.length : Int)
  · rw [if_pos c3] at H
    have c3b0 : ((l0.length : Int) == (l1.length : Int)) = true := beq_iff_eq.mpr c3
    have c3b1 : ((l0.length : Int) != (l1.length : Int)) = false := bne_eq_false_iff_eq.mpr c3
    have c3b2 : (l0.length == l1.length) = true := by first | simpa using c3 | (simp at c3 ⊢; omega)
    clear c3
    have H' := Aside0.mk H
    clear H
    go_enter Tryz.func51, Tryz.ntmps51
    go_wp2
    repeat (go_quiet (fail); try go_wp2)
    go_loopg [13] k (fun kq v13 w' => ∃ (x13_1 : Int), v13 = .int .i64 x13_1 ∧ Aside0 (slices_Equal_string_string.l0 kq l0 l1 (l0.length : Int) x13_1 = some r) ∧ Aside0 (kq ≤ k) ∧ Drawn0 w w')
    case atStart => exact ⟨(0), (by first | rfl | (simp; done) | (simp [*]; done)), H', ⟨Nat.le_refl _⟩, by repeat (first | exact Drawn0.refl _ | apply Drawn0.step)⟩
    case round =>
      clear H'
      try clear c1
      try clear p2
      try clear c3
      try clear c3b0
      try clear c3b1
      try clear c3b2
      obtain ⟨x13_1, rfl, HA, HK1, ⟨m1, rfl⟩⟩ := hrel
      cases gk with
      | zero => exact absurd HA.out (by simp [slices_Equal_string_string.l0])
      | succ k1 =>
        have H := HA.out
        clear HA
        simp only [slices_Equal_string_string.l0] at H
        by_cases c4 : x13_1 < (l0.length : Int)
        · rw [if_pos c4] at H
          have c4b0 : decide (x13_1 < (l0.length : Int)) = true := decide_eq_true c4
          clear c4
          by_cases c5 : 0 ≤ x13_1
          · rw [if_pos c5] at H
            have c5b0 : decide (0 ≤ x13_1) = true := decide_eq_true c5
            clear c5
            by_cases c6 : x13_1 < (l0.length : Int)
            · rw [if_pos c6] at H
              have c6b0 : decide (x13_1 < (l0.length : Int)) = true := decide_eq_true c6
              clear c6
              by_cases c7 : x13_1 < (l1.length : Int)
              · rw [if_pos c7] at H
                have c7b0 : decide (x13_1 < (l1.length : Int)) = true := decide_eq_true c7
                clear c7
                by_cases c8 : (rdOf ByteArray.empty l0 x13_1).toList = (rdOf ByteArray.empty l1 x13_1).toList
                · rw [if_pos c8] at H
                  have c8b0 : ((rdOf ByteArray.empty l0 x13_1).toList == (rdOf ByteArray.empty l1 x13_1).toList) = true := beq_iff_eq.mpr c8
                  have c8b1 : ((rdOf ByteArray.empty l0 x13_1).toList != (rdOf ByteArray.empty l1 x13_1).toList) = false := bne_eq_false_iff_eq.mpr c8
                  clear c8
                  have H' := Aside0.mk H
                  clear H
                  have p236 : 0 ≤ (x13_1 : Int) := of_decide_eq_true (by first | (with_reducible assumption) | assumption)
                  have q236 : x13_1 < (l0.length : Int) := of_decide_eq_true (by first | (with_reducible assumption) | assumption)
                  obtain ⟨ad236, e236, hx236_0⟩ := Kd.at_string HR0.out x13_1 p236 q236
                  cases e236
                  replace p236 := eq_true p236
                  replace q236 := eq_true q236
                  have p237 : 0 ≤ (x13_1 : Int) := of_decide_eq_true (by first | (with_reducible assumption) | assumption)
                  have q237 : x13_1 < (l1.length : Int) := of_decide_eq_true (by first | (with_reducible assumption) | assumption)
                  obtain ⟨ad237, e237, hx237_0⟩ := Kd.at_string HR1.out x13_1 p237 q237
                  cases e237
                  replace p237 := eq_true p237
                  replace q237 := eq_true q237
                  go_wp2
                  repeat (go_quiet (fail); try go_wp2)
                  go_roundg k1
                  case measure => have := HK1.out; omega
                  case rel => exact ⟨(wrap64 (x13_1 + 1)), (by first | rfl | (simp; done) | (simp [*]; done)), H', ⟨by have := HK1.out; omega⟩, by repeat (first | exact Drawn0.refl _ | apply Drawn0.step)⟩
                · rw [if_neg c8] at H
                  have c8b0 : ((rdOf ByteArray.empty l0 x13_1).toList == (rdOf ByteArray.empty l1 x13_1).toList) = false := beq_eq_false_iff_ne.mpr c8
                  have c8b1 : ((rdOf ByteArray.empty l0 x13_1).toList != (rdOf ByteArray.empty l1 x13_1).toList) = true := bne_iff_ne.mpr c8
                  obtain rfl := Option.some.inj H
                  have p236 : 0 ≤ (x13_1 : Int) := of_decide_eq_true (by first | (with_reducible assumption) | assumption)
                  have q236 : x13_1 < (l0.length : Int) := of_decide_eq_true (by first | (with_reducible assumption) | assumption)
                  obtain ⟨ad236, e236, hx236_0⟩ := Kd.at_string HR0.out x13_1 p236 q236
                  cases e236
                  replace p236 := eq_true p236
                  replace q236 := eq_true q236
                  have p237 : 0 ≤ (x13_1 : Int) := of_decide_eq_true (by first | (with_reducible assumption) | assumption)
                  have q237 : x13_1 < (l1.length : Int) := of_decide_eq_true (by first | (with_reducible assumption) | assumption)
                  obtain ⟨ad237, e237, hx237_0⟩ := Kd.at_string HR1.out x13_1 p237 q237
                  cases e237
                  replace p237 := eq_true p237
                  replace q237 := eq_true q237
                  go_wp2
                  repeat (go_quiet (fail); try go_wp2)
                  go_ret
                  exact ⟨by first | rfl | (simp; done) | (simp [*]; done), by repeat (first | exact Drawn0.refl _ | apply Drawn0.step)⟩
              · rw [if_neg c7] at H
                exact absurd H (by simp)
            · rw [if_neg c6] at H
              exact absurd H (by simp)
          · rw [if_neg c5] at H
            exact absurd H (by simp)
        · rw [if_neg c4] at H
          have c4b0 : decide (x13_1 < (l0.length : Int)) = false := decide_eq_false c4
          clear c4
          obtain rfl := Option.some.inj H
          go_wp2
          repeat (go_quiet (fail); try go_wp2)
          go_ret
          exact ⟨by first | rfl | (simp; done) | (simp [*]; done), by repeat (first | exact Drawn0.refl _ | apply Drawn0.step)⟩
  · rw [if_neg c3] at H
    have c3b0 : ((l0.length : Int) == (l1.length : Int)) = false := beq_eq_false_iff_ne.mpr c3
    have c3b1 : ((l0.length : Int) != (l1.length : Int)) = true := bne_iff_ne.mpr c3
    have c3b2 : (l0.length == l1.length) = false := by first | simpa using c3 | (simp at c3 ⊢; omega)
    obtain rfl := Option.some.inj H
    go_enter Tryz.func51, Tryz.ntmps51
    go_wp2
    repeat (go_quiet (fail); try go_wp2)
    go_ret
    exact ⟨by first | rfl | (simp; done) | (simp [*]; done), by repeat (first | exact Drawn0.refl _ | apply Drawn0.step)⟩
end Go.Proofs.YtnckaeehcldheaaGreatDoor.Pr
end

section
set_option linter.unusedVariables false
set_option linter.unusedSimpArgs false
namespace Go.Proofs.YtnckaeehcldheaaGreatDoor.Ob
open Go.RowKit Go.Shelf YtnckaeehcldheaaGreatDoorW.PrintWords
theorem equal_loop (xs : List ByteArray) (hl : xs.length ≤ 1099511627776) : ∀ (d i : Nat), i + d = xs.length → ∀ k, d < k → Pr.slices_Equal_string_string.l0 k xs xs (xs.length : Int) (i : Int) = some true := by
  intro d
  induction d with
  | zero =>
    intro i hi k hk
    obtain ⟨k, rfl⟩ : ∃ m, k = m + 1 := ⟨k - 1, by omega⟩
    rw [Pr.slices_Equal_string_string.l0, if_neg (by omega)]
  | succ d ih =>
    intro i hi k hk
    obtain ⟨k, rfl⟩ : ∃ m, k = m + 1 := ⟨k - 1, by omega⟩
    have hw : wrap64 ((i : Int) + 1) = ((i + 1 : Nat) : Int) := by unfold wrap64; omega
    rw [Pr.slices_Equal_string_string.l0, if_pos (by omega), if_pos (by omega), if_pos (by omega), if_pos (by omega), if_pos rfl, hw]
    exact ih (i + 1) (by omega) k (by omega)
theorem equal_self (xs : List ByteArray) (hl : xs.length ≤ 1099511627776) : Pr.slices_Equal_string_string.f (xs.length + 1) xs xs = some true := by
  unfold Pr.slices_Equal_string_string.f
  rw [if_pos rfl]
  exact equal_loop xs hl xs.length 0 (by omega) _ (by omega)
def SelfC (y : S28) : Prop := ∀ (cs cs' : List Value) (w : World), k28.K w y cs → k28.K w y cs' → Calls Tryz.prog 18 #[.agg cs.toArray, .agg cs'.toArray] w fun e w' => e = .returned (.bool true) ∧ Below w.heap.size w w'
set_option maxRecDepth 100000 in
set_option maxHeartbeats 16000000 in
theorem eqf_ok (xs : List S28) (A B : Option Addr) (c d : Nat) (w : World) (hA : k28.C w A xs.length xs) (hB : k28.C w B xs.length xs) (ih : ∀ y ∈ xs, SelfC y) :
    Calls Tryz.prog 52 #[.slice A xs.length c, .slice B xs.length d, .func (.func 18) #[] #[]] w fun e w' => e = .returned (.bool true) ∧ Below w.heap.size w w' := by
  have hl : xs.length ≤ 9223372036854775807 := hA.2.1
  have HA := Aside0.mk hA
  have HB := Aside0.mk hB
  have IH := Aside0.mk ih
  clear hA hB ih
  go_enter Tryz.func52, Tryz.ntmps52
  go_wp2
  go_loopw [17] (fun a wr => ∃ k : Nat, a = .int .i64 k ∧ k ≤ xs.length ∧ Aside0 (Below w.heap.size w wr)) (fun a _ => xs.length - (intOf a).toNat)
  case atStart => exact ⟨0, rfl, Nat.zero_le _, ⟨Below.refl _ _⟩⟩
  case round =>
    obtain ⟨k, rfl, hk, HW⟩ := hrel
    by_cases hlt : k < xs.length
    · obtain ⟨ad, B4, d4, B5, d5, e, y0, y1, y2, y3, y4, y5, m4, G4, m5, G5⟩ := at_T28 (Kd.C_below HA.out HW.out) (k : Int) (by omega) (by omega)
      cases e
      obtain ⟨ad2, E4, f4, E5, f5, e, x0, x1, x2, x3, x4, x5, n4, K4, n5, K5⟩ := at_T28 (Kd.C_below HB.out HW.out) (k : Int) (by omega) (by omega)
      cases e
      obtain ⟨y, hy⟩ : ∃ y, rd_T28 xs (k : Int) = y := ⟨_, rfl⟩
      rw [hy] at y0 y1 y2 y3 y4 y5 m4 G4 m5 G5 x0 x1 x2 x3 x4 x5 n4 K4 n5 K5
      simp only [Int.toNat_natCast] at y0 y1 y2 y3 y4 y5 x0 x1 x2 x3 x4 x5
      have hyk : y ∈ xs := by rw [← hy, rd_T28_at _ _ hlt]; exact List.getElem_mem hlt
      have HI := Aside0.mk (fun W (hW : Below wr.heap.size wr W) => IH.out y hyk [.int .u8 y.f0, .int .i64 y.f1, .int .i64 y.f2, .string y.f3, .slice B4 y.f4.length d4, .slice B5 y.f5.length d5] [.int .u8 y.f0, .int .i64 y.f1, .int .i64 y.f2, .string y.f3, .slice E4 y.f4.length f4, .slice E5 y.f5.length f5] W (k28_mk W y m4 (Kd.C_below G4 hW) m5 (Kd.C_below G5 hW)) (k28_mk W y n4 (Kd.C_below K4 hW) n5 (Kd.C_below K5 hW)))
      clear hy hyk G4 G5 K4 K5
      have hb1 : Below wr.heap.size wr (wr.alloc (.cells #[.int .u8 y.f0, .int .i64 y.f1, .int .i64 y.f2, .string y.f3, .slice B4 y.f4.length d4, .slice B5 y.f5.length d5] 28)) := (Below.refl _ _).alloc (Nat.le_refl _) _
      replace x0 := pw_cell_below hb1 x0
      replace x1 := pw_cell_below hb1 x1
      replace x2 := pw_cell_below hb1 x2
      replace x3 := pw_cell_below hb1 x3
      replace x4 := pw_cell_below hb1 x4
      replace x5 := pw_cell_below hb1 x5
      clear hb1
      have HZ := Aside0.mk (show Below wr.heap.size wr ((wr.alloc (.cells #[.int .u8 y.f0, .int .i64 y.f1, .int .i64 y.f2, .string y.f3, .slice B4 y.f4.length d4, .slice B5 y.f5.length d5] 28)).alloc (.cells #[.int .u8 y.f0, .int .i64 y.f1, .int .i64 y.f2, .string y.f3, .slice E4 y.f4.length f4, .slice E5 y.f5.length f5] 28)) from ((Below.refl _ _).alloc (Nat.le_refl _) _).alloc (by rw [World.size_alloc]; omega) _)
      go_wp2_with (go_at_call 18; refine (HI.out _ HZ.out).mono ?_; rintro e w2 ⟨rfl, hb2⟩; have H2 := Aside0.mk (HW.out.trans ((HZ.out.trans (hb2.mono (by simp; omega))).mono HW.out.size)); clear hb2)
      go_roundw
      case rel => exact ⟨k + 1, by go_num, by omega, H2⟩
      case measure => simp [intOf]; omega
    · go_wp2
      go_ret
      exact ⟨rfl, HW.out⟩
set_option maxRecDepth 100000 in
set_option maxHeartbeats 16000000 in
theorem same_ok {x : S28} (hz : Sz x) : SelfC x := by
  induction hz with
  | @mk x z0 z3 z5 zl4 zl5 z4 ih =>
    intro cs cs' w hx hx'
    obtain ⟨A4, c4, A5, c5, rfl, l4, g4, l5, g5⟩ := k28_open hx
    obtain ⟨B4, d4, B5, d5, rfl, m4, h4, m5, h5⟩ := k28_open hx'
    obtain ⟨f0, f1, f2, f3, f4, f5⟩ := x
    dsimp only at zl4 zl5 l4 g4 l5 g5 m4 h4 m5 h5 ih ⊢
    have hw : (List.toArray [Value.int .u8 f0, .int .i64 f1, .int .i64 f2, .string f3, .slice A4 f4.length c4, .slice A5 f5.length c5]) = #[.int .u8 f0, .int .i64 f1, .int .i64 f2, .string f3, .slice A4 f4.length c4, .slice A5 f5.length c5] := rfl
    have hw' : (List.toArray [Value.int .u8 f0, .int .i64 f1, .int .i64 f2, .string f3, .slice B4 f4.length d4, .slice B5 f5.length d5]) = #[.int .u8 f0, .int .i64 f1, .int .i64 f2, .string f3, .slice B4 f4.length d4, .slice B5 f5.length d5] := rfl
    rw [hw, hw']
    have HE := Aside0.mk (fun W (hW : Below w.heap.size w W) => (Pr.slices_Equal_string_string.calls (f5.length + 1) A5 c5 f5 B5 d5 f5 true W (Kd.C_below g5 hW) l5 (Kd.C_below h5 hW) m5 (equal_self f5 zl5)).mono fun e w' h => (⟨h.1, h.2.below⟩ : e = .returned (.bool true) ∧ Below W.heap.size W w'))
    have HF := Aside0.mk (fun W (hW : Below w.heap.size w W) => eqf_ok f4 A4 B4 c4 d4 W (Kd.C_below g4 hW) (Kd.C_below h4 hW) ih)
    have HZ := Aside0.mk (show Below w.heap.size w ((w.alloc (.cells #[.int .u8 f0, .int .i64 f1, .int .i64 f2, .string f3, .slice A4 f4.length c4, .slice A5 f5.length c5] 28)).alloc (.cells #[.int .u8 f0, .int .i64 f1, .int .i64 f2, .string f3, .slice B4 f4.length d4, .slice B5 f5.length d5] 28)) from ((Below.refl _ _).alloc (Nat.le_refl _) _).alloc (by rw [World.size_alloc]; omega) _)
    clear hx hx' hw hw' g4 g5 h4 h5 ih z0 z3 z5 z4
    have e0 : (f0 == f0) = true := by simp
    have e1 : (f1 == f1) = true := by simp
    have e2 : (f2 == f2) = true := by simp
    have e3 : (f3.toList == f3.toList) = true := by simp
    go_enter Tryz.func18, Tryz.ntmps18
    have LA := Aside0.mk (blk_alloc (blk_new w (.cells #[.int .u8 f0, .int .i64 f1, .int .i64 f2, .string f3, .slice A4 f4.length c4, .slice A5 f5.length c5] 28)) (.cells #[.int .u8 f0, .int .i64 f1, .int .i64 f2, .string f3, .slice B4 f4.length d4, .slice B5 f5.length d5] 28))
    have LB := Aside0.mk (show ((w.alloc (.cells #[.int .u8 f0, .int .i64 f1, .int .i64 f2, .string f3, .slice A4 f4.length c4, .slice A5 f5.length c5] 28)).alloc (.cells #[.int .u8 f0, .int .i64 f1, .int .i64 f2, .string f3, .slice B4 f4.length d4, .slice B5 f5.length d5] 28)).heap[w.heap.size + 1]? = some (.cells #[.int .u8 f0, .int .i64 f1, .int .i64 f2, .string f3, .slice B4 f4.length d4, .slice B5 f5.length d5] 28 (0, 0)) by have := blk_new (w.alloc (.cells #[.int .u8 f0, .int .i64 f1, .int .i64 f2, .string f3, .slice A4 f4.length c4, .slice A5 f5.length c5] 28)) (.cells #[.int .u8 f0, .int .i64 f1, .int .i64 f2, .string f3, .slice B4 f4.length d4, .slice B5 f5.length d5] 28); rwa [World.size_alloc] at this)
    go_wp2_with (first | (go_at_call 51; refine (HE.out _ HZ.out).mono ?_; rintro e w2 ⟨rfl, hb2⟩; have H2 := Aside0.mk (HZ.out.trans (hb2.mono (by simp; omega))); obtain ⟨⟨q0, q1, q2, q3, q4, q5⟩, -⟩ := six_c (blk_below hb2 LA.out); obtain ⟨⟨p0, p1, p2, p3, p4, p5⟩, -⟩ := six_c (blk_below hb2 LB.out); clear hb2) | (go_at_call 52; refine (HF.out _ H2.out).mono ?_; rintro e w3 ⟨rfl, hb3⟩; have H3 := Aside0.mk (H2.out.trans (hb3.mono H2.out.size)); clear hb3))
    go_ret
    exact ⟨rfl, H3.out⟩
end Go.Proofs.YtnckaeehcldheaaGreatDoor.Ob
end

section
set_option linter.unusedVariables false
set_option linter.unusedSimpArgs false
namespace Go.Proofs.YtnckaeehcldheaaGreatDoor.Ob
open Go.RowKit Go.Shelf YtnckaeehcldheaaGreatDoorW.PrintWords
theorem cell_lt {w : World} {a : Addr} {v : Value} (h : w.cell? a = some v) : a.block < w.heap.size := by
  rcases Nat.lt_or_ge a.block w.heap.size with h' | h'
  · exact h'
  · simp [World.cell?, Array.getElem?_eq_none h'] at h
theorem RB.far {w : World} {A : Option Addr} {l : List UInt8} (h : RB w A l) (ad : Addr) (e : A = some ad) (hl : l ≠ []) : ad.block < w.heap.size := by
  obtain ⟨ad', e', hc⟩ := h.at_ 0 (List.length_pos_iff.2 hl)
  rw [e] at e'
  injection e' with e'
  subst e'
  have hb : ∀ k, (ad.add k).block = ad.block := fun k => by unfold Addr.add; split <;> rfl
  have := cell_lt hc
  rw [hb] at this
  exact this
theorem drew_blk {W : World} {B : Nat} {o : Obj} (h : W.heap[B]? = some o) : W.drew.heap[B]? = some o := h
theorem ret_put6_drew {P : Program} {fn : Func} {R : Ending → World → Prop} {act : Act} {W : World} {B : Nat} {t : TypeId} {a0 a1 a2 a3 a4 a5 b0 b1 b2 b3 b4 b5 v : Value} (h : W.heap[B]? = some (.cells #[a0, a1, a2, a3, a4, a5] t (0, 0)))
    (hres : ∀ W2 : World, W2.cell? ⟨B, 0, none⟩ = some b0 → W2.cell? ⟨B, 1, none⟩ = some b1 → W2.cell? ⟨B, 2, none⟩ = some b2 → W2.cell? ⟨B, 3, none⟩ = some b3 → W2.cell? ⟨B, 4, none⟩ = some b4 → W2.cell? ⟨B, 5, none⟩ = some b5 → (results fn act.tmps).run P W2 = .ok v W2)
    (hd : act.defers = []) (hR : R (.returned v) (put6 W B b0 b1 b2 b3 b4 b5).drew) : bodyPost P fn R Exit.ret act (put6 W B b0 b1 b2 b3 b4 b5).drew := by
  obtain ⟨⟨z0, z1, z2, z3, z4, z5⟩, _⟩ := six_c (drew_blk (put6_blk h b0 b1 b2 b3 b4 b5))
  exact bodyPost_ret (hres _ z0 z1 z2 z3 z4 z5) hd hR
set_option maxRecDepth 100000 in
set_option maxHeartbeats 16000000 in
theorem parse_err (A : Option Addr) (c : Nat) (p : List UInt8) (w : World) (hp : RB w A p) (hc : p.length ≤ c) (hpl : p.length < 2147483640) (G : Gl w) (er : Int) (hr : parseV p = .error er) :
    Calls Tryz.prog 16 #[.slice A p.length c] w (ParsePost p w) := by
  have hsz := G.sz
  obtain ⟨w1, hw1⟩ : ∃ w1, w1 = (w.alloc (.cells #[.int .u8 0, .int .i64 0, .int .i64 0, .string ⟨#[]⟩, .slice none 0 0, .slice none 0 0] 28)).alloc (.cells #[.slice A p.length c, .int .i64 0] 89) := ⟨_, rfl⟩
  have hA : Below w.heap.size w w1 := by rw [hw1]; exact ((Below.refl _ _).alloc (Nat.le_refl _) _).alloc (by rw [World.size_alloc]; omega) _
  have L1 := Aside0.mk (show w1.heap[w.heap.size]? = some (.cells #[.int .u8 0, .int .i64 0, .int .i64 0, .string ⟨#[]⟩, .slice none 0 0, .slice none 0 0] 28 (0, 0)) by rw [hw1]; exact blk_alloc (blk_new _ _) _)
  have R1 : Rdr w1 (w.heap.size + 1) A c p 0 := by
    refine ⟨?_, Nat.zero_le _, hc, hp.below hA, fun ad e hne => ?_⟩
    · rw [hw1]
      have := blk_new (w.alloc (.cells #[.int .u8 0, .int .i64 0, .int .i64 0, .string ⟨#[]⟩, .slice none 0 0, .slice none 0 0] 28)) (.cells #[.slice A p.length c, .int .i64 0] 89)
      rwa [World.size_alloc] at this
    · have := hp.far ad e hne; omega
  have hs1 : w1.heap.size = w.heap.size + 2 := by rw [hw1, World.size_alloc, World.size_alloc]
  have HV := Aside0.mk (value0_ok p hpl (w.heap.size + 1) A c w1 (G.below hA) (by omega) R1)
  have HA := Aside0.mk hA
  have HS1 := Aside0.mk hs1
  have HP := Aside0.mk hr
  rw [hr] at HV
  clear R1 hA hp
  have HQ := Aside0.mk (show parseS p = .error er by rw [parseS, HP.out])
  clear hr
  go_enter Tryz.func16, Tryz.ntmps16
  go_wp2_with fail
  rw [← hw1]
  clear hw1
  go_wp2_with (first | (go_at_call 49; refine HV.out.mono ?_; rintro e w2 ⟨hF2, her, rfl⟩; have HER := Aside0.mk her; have q1 : (er == 0) = false := (by simp [her]); have q1' : (er != 0) = true := (by simp [her]); clear her; unfold zeroV; have F2 := Aside0.mk hF2; have L2 := Aside0.mk (blk_fr hF2 (by omega) L1.out); clear hF2; have L9 := Aside0.mk (blk_alloc L2.out (.cells #[.int .u8 0, .int .i64 0, .int .i64 0, .string ⟨#[]⟩, .slice none 0 0, .slice none 0 0] 28)); obtain ⟨⟨z0, z1, z2, z3, z4, z5⟩, y0, y1, y2, y3, y4, y5⟩ := six_c L9.out))
  refine ret_put6 (v := .tuple #[zeroV, .int .i64 0, .int .i64 er]) L9.out (fun W2 z0 z1 z2 z3 z4 z5 => by simp [results, Tryz.results16, go_sem, zeroV, z0, z1, z2, z3, z4, z5]) rfl ?_
  have hq := HQ.out
  refine ⟨put6_below (HA.out.trans ((F2.out.below (Nat.le_succ _) (by have := HS1.out; omega)).trans ((Below.refl _ _).alloc (by have := F2.out.size; have := HS1.out; omega) _))) (Nat.le_refl _) _ _ _ _ _ _, ?_⟩
  rw [hq]
  exact ⟨HER.out, rfl⟩
set_option maxRecDepth 100000 in
set_option maxHeartbeats 16000000 in
theorem parse_bad (A : Option Addr) (c : Nat) (p : List UInt8) (w : World) (hp : RB w A p) (hc : p.length ≤ c) (hpl : p.length < 2147483640) (G : Gl w) (x : S28) (q : Nat) (hr : parseV p = .ok (x, q)) (hrr : rightN 33 x = false) :
    Calls Tryz.prog 16 #[.slice A p.length c] w (ParsePost p w) := by
  have hsz := G.sz
  obtain ⟨w1, hw1⟩ : ∃ w1, w1 = (w.alloc (.cells #[.int .u8 0, .int .i64 0, .int .i64 0, .string ⟨#[]⟩, .slice none 0 0, .slice none 0 0] 28)).alloc (.cells #[.slice A p.length c, .int .i64 0] 89) := ⟨_, rfl⟩
  have hA : Below w.heap.size w w1 := by rw [hw1]; exact ((Below.refl _ _).alloc (Nat.le_refl _) _).alloc (by rw [World.size_alloc]; omega) _
  have L1 := Aside0.mk (show w1.heap[w.heap.size]? = some (.cells #[.int .u8 0, .int .i64 0, .int .i64 0, .string ⟨#[]⟩, .slice none 0 0, .slice none 0 0] 28 (0, 0)) by rw [hw1]; exact blk_alloc (blk_new _ _) _)
  have R1 : Rdr w1 (w.heap.size + 1) A c p 0 := by
    refine ⟨?_, Nat.zero_le _, hc, hp.below hA, fun ad e hne => ?_⟩
    · rw [hw1]
      have := blk_new (w.alloc (.cells #[.int .u8 0, .int .i64 0, .int .i64 0, .string ⟨#[]⟩, .slice none 0 0, .slice none 0 0] 28)) (.cells #[.slice A p.length c, .int .i64 0] 89)
      rwa [World.size_alloc] at this
    · have := hp.far ad e hne; omega
  have hs1 : w1.heap.size = w.heap.size + 2 := by rw [hw1, World.size_alloc, World.size_alloc]
  have HV := Aside0.mk (value0_ok p hpl (w.heap.size + 1) A c w1 (G.below hA) (by omega) R1)
  have HA := Aside0.mk hA
  have HS1 := Aside0.mk hs1
  have HP := Aside0.mk hr
  rw [hr] at HV
  clear R1 hA hp
  have HSM := Aside0.mk (parseV_sm (by omega) hr)
  have HRR := Aside0.mk hrr
  have HQ := Aside0.mk (show parseS p = .error 2 by rw [parseS, HP.out]; simp [hrr])
  clear hr hrr
  go_enter Tryz.func16, Tryz.ntmps16
  go_wp2_with fail
  rw [← hw1]
  clear hw1
  go_wp2_with (first | (go_at_call 49; refine HV.out.mono ?_; rintro e w2 ⟨hF2, v4, v5, rfl, hv4, hv5, hR2⟩; have HV4 := Aside0.mk hv4; have HV5 := Aside0.mk hv5; obtain ⟨A4, c4, rfl, hl4⟩ := hv4.2.slice_; obtain ⟨A5, c5, rfl, hl5⟩ := hv5.2.slice_; clear hv4 hv5 hl4 hl5; have F2 := Aside0.mk hF2; have R2 := Aside0.mk hR2; have L2 := Aside0.mk (blk_fr hF2 (by omega) L1.out); clear hF2 hR2; obtain ⟨⟨y0, y1, y2, y3, y4, y5⟩, -⟩ := six_c (blk_new w2 (.cells #[.int .u8 x.f0, .int .i64 x.f1, .int .i64 x.f2, .string x.f3, .slice A4 x.f4.length c4, .slice A5 x.f5.length c5] 28)); have HK := Aside0.mk (k28.K_of_M (k28_mkM (w2.alloc (.cells #[.int .u8 x.f0, .int .i64 x.f1, .int .i64 x.f2, .string x.f3, .slice A4 x.f4.length c4, .slice A5 x.f5.length c5] 28)) w1.heap.size (fun _ => True) x (Kd.R_mono (Kd.R_below HV4.out ((Below.refl _ _).alloc (Nat.le_refl _) _)) (fun _ _ => trivial)) (Kd.R_mono (Kd.R_below HV5.out ((Below.refl _ _).alloc (Nat.le_refl _) _)) (fun _ _ => trivial))))) | (go_at_call 21; refine (Right_ok x _ false _ HK.out HSM.out HRR.out).mono ?_; rintro e w4 ⟨rfl, hb4⟩; have B4 := Aside0.mk hb4; have L4 := Aside0.mk ((hb4.block _ (blk_lt (blk_alloc L2.out (.cells #[.int .u8 x.f0, .int .i64 x.f1, .int .i64 x.f2, .string x.f3, .slice A4 x.f4.length c4, .slice A5 x.f5.length c5] 28)))).trans (blk_alloc L2.out (.cells #[.int .u8 x.f0, .int .i64 x.f1, .int .i64 x.f2, .string x.f3, .slice A4 x.f4.length c4, .slice A5 x.f5.length c5] 28))); obtain ⟨⟨z0, z1, z2, z3, z4, z5⟩, y0, y1, y2, y3, y4, y5⟩ := six_c L4.out; clear hb4))
  refine ret_put6 (v := .tuple #[zeroV, .int .i64 0, .int .i64 2]) L4.out (fun W2 z0 z1 z2 z3 z4 z5 => by simp [results, Tryz.results16, go_sem, zeroV, z0, z1, z2, z3, z4, z5]) rfl ?_
  have hq := HQ.out
  refine ⟨put6_below (HA.out.trans (((F2.out.below (Nat.le_succ _) (by have := HS1.out; omega)).trans ((Below.refl _ _).alloc (by have := F2.out.size; have := HS1.out; omega) (.cells #[.int .u8 x.f0, .int .i64 x.f1, .int .i64 x.f2, .string x.f3, .slice A4 x.f4.length c4, .slice A5 x.f5.length c5] 28))).trans (Below.mono B4.out (by have := F2.out.size; have := HS1.out; rw [World.size_alloc]; omega)))) (Nat.le_refl _) _ _ _ _ _ _, ?_⟩
  rw [hq]
  exact ⟨by decide, rfl⟩
end Go.Proofs.YtnckaeehcldheaaGreatDoor.Ob
end

section
set_option linter.unusedVariables false
set_option linter.unusedSimpArgs false
namespace Go.Proofs.YtnckaeehcldheaaGreatDoor.Ob
open Go.RowKit Go.Shelf YtnckaeehcldheaaGreatDoorW.PrintWords
theorem R_drew {α : Type} {d : Kd α} {e : Nat} {W : World} {base : Nat} {ok : Nat → Prop} {v : Value} {xs : List α} (h : d.R e W base ok v xs) : d.R e W.drew base ok v xs := Kd.R_move h (fun _ _ => rfl)
set_option maxRecDepth 100000 in
set_option maxHeartbeats 16000000 in
theorem parse_good (A : Option Addr) (c : Nat) (p : List UInt8) (w : World) (hp : RB w A p) (hc : p.length ≤ c) (hpl : p.length < 2147483640) (G : Gl w) (x : S28) (q : Nat) (hr : parseV p = .ok (x, q)) (hrr : rightN 33 x = true) :
    Calls Tryz.prog 16 #[.slice A p.length c] w (ParsePost p w) := by
  have hsz := G.sz
  obtain ⟨w1, hw1⟩ : ∃ w1, w1 = (w.alloc (.cells #[.int .u8 0, .int .i64 0, .int .i64 0, .string ⟨#[]⟩, .slice none 0 0, .slice none 0 0] 28)).alloc (.cells #[.slice A p.length c, .int .i64 0] 89) := ⟨_, rfl⟩
  have hA : Below w.heap.size w w1 := by rw [hw1]; exact ((Below.refl _ _).alloc (Nat.le_refl _) _).alloc (by rw [World.size_alloc]; omega) _
  have L1 := Aside0.mk (show w1.heap[w.heap.size]? = some (.cells #[.int .u8 0, .int .i64 0, .int .i64 0, .string ⟨#[]⟩, .slice none 0 0, .slice none 0 0] 28 (0, 0)) by rw [hw1]; exact blk_alloc (blk_new _ _) _)
  have R1 : Rdr w1 (w.heap.size + 1) A c p 0 := by
    refine ⟨?_, Nat.zero_le _, hc, hp.below hA, fun ad e hne => ?_⟩
    · rw [hw1]
      have := blk_new (w.alloc (.cells #[.int .u8 0, .int .i64 0, .int .i64 0, .string ⟨#[]⟩, .slice none 0 0, .slice none 0 0] 28)) (.cells #[.slice A p.length c, .int .i64 0] 89)
      rwa [World.size_alloc] at this
    · have := hp.far ad e hne; omega
  have hs1 : w1.heap.size = w.heap.size + 2 := by rw [hw1, World.size_alloc, World.size_alloc]
  have HV := Aside0.mk (value0_ok p hpl (w.heap.size + 1) A c w1 (G.below hA) (by omega) R1)
  have HA := Aside0.mk hA
  have HS1 := Aside0.mk hs1
  have HP := Aside0.mk hr
  rw [hr] at HV
  clear R1 hA hp
  have HSM := Aside0.mk (parseV_sm (by omega) hr)
  have HRR := Aside0.mk hrr
  have HQ := Aside0.mk (show parseS p = .ok (x, q) by rw [parseS, HP.out]; simp [hrr])
  clear hr hrr
  go_enter Tryz.func16, Tryz.ntmps16
  go_wp2_with fail
  rw [← hw1]
  clear hw1
  go_wp2_with (first | (go_at_call 49; refine HV.out.mono ?_; rintro e w2 ⟨hF2, v4, v5, rfl, hv4, hv5, hR2⟩; have HV4 := Aside0.mk hv4; have HV5 := Aside0.mk hv5; obtain ⟨A4, c4, rfl, hl4⟩ := hv4.2.slice_; obtain ⟨A5, c5, rfl, hl5⟩ := hv5.2.slice_; clear hv4 hv5 hl4 hl5; have F2 := Aside0.mk hF2; have R2 := Aside0.mk hR2; have L2 := Aside0.mk (blk_fr hF2 (by omega) L1.out); clear hF2 hR2; obtain ⟨⟨y0, y1, y2, y3, y4, y5⟩, -⟩ := six_c (blk_new w2 (.cells #[.int .u8 x.f0, .int .i64 x.f1, .int .i64 x.f2, .string x.f3, .slice A4 x.f4.length c4, .slice A5 x.f5.length c5] 28)); have HK := Aside0.mk (k28.K_of_M (k28_mkM (w2.alloc (.cells #[.int .u8 x.f0, .int .i64 x.f1, .int .i64 x.f2, .string x.f3, .slice A4 x.f4.length c4, .slice A5 x.f5.length c5] 28)) w1.heap.size (fun _ => True) x (Kd.R_mono (Kd.R_below HV4.out ((Below.refl _ _).alloc (Nat.le_refl _) _)) (fun _ _ => trivial)) (Kd.R_mono (Kd.R_below HV5.out ((Below.refl _ _).alloc (Nat.le_refl _) _)) (fun _ _ => trivial))))) | (go_at_call 21; refine (Right_ok x _ true _ HK.out HSM.out HRR.out).mono ?_; rintro e w4 ⟨rfl, hb4⟩; have B4 := Aside0.mk hb4; have L4 := Aside0.mk ((hb4.block _ (blk_lt (blk_alloc L2.out (.cells #[.int .u8 x.f0, .int .i64 x.f1, .int .i64 x.f2, .string x.f3, .slice A4 x.f4.length c4, .slice A5 x.f5.length c5] 28)))).trans (blk_alloc L2.out (.cells #[.int .u8 x.f0, .int .i64 x.f1, .int .i64 x.f2, .string x.f3, .slice A4 x.f4.length c4, .slice A5 x.f5.length c5] 28))); obtain ⟨⟨z0, z1, z2, z3, z4, z5⟩, y0, y1, y2, y3, y4, y5⟩ := six_c L4.out; have R4 := Aside0.mk ((R2.out.below ((Below.refl _ _).alloc (Nat.le_refl _) (.cells #[.int .u8 x.f0, .int .i64 x.f1, .int .i64 x.f2, .string x.f3, .slice A4 x.f4.length c4, .slice A5 x.f5.length c5] 28))).below hb4); have c1 := R4.out.c1; have V4 := Aside0.mk ((hb4.block _ (blk_lt (blk_new w2 (.cells #[.int .u8 x.f0, .int .i64 x.f1, .int .i64 x.f2, .string x.f3, .slice A4 x.f4.length c4, .slice A5 x.f5.length c5] 28)))).trans (blk_new w2 (.cells #[.int .u8 x.f0, .int .i64 x.f1, .int .i64 x.f2, .string x.f3, .slice A4 x.f4.length c4, .slice A5 x.f5.length c5] 28))); obtain ⟨⟨u0, u1, u2, u3, u4, u5⟩, t0, t1, t2, t3, t4, t5⟩ := six_c V4.out; clear hb4))
  go_region
  go_wp2_with fail
  refine ret_put6_drew (v := .tuple #[.agg #[.int .u8 x.f0, .int .i64 x.f1, .int .i64 x.f2, .string x.f3, .slice A4 x.f4.length c4, .slice A5 x.f5.length c5], .int .i64 (q : Int), .int .i64 0]) L4.out (fun W2 z0 z1 z2 z3 z4 z5 => by simp [results, Tryz.results16, go_sem, zeroV, z0, z1, z2, z3, z4, z5]) rfl ?_
  have hq := HQ.out
  have hB1 : w.heap.size < w1.heap.size := by rw [HS1.out]; omega
  refine ⟨Below.drew (w := put6 w4 w.heap.size (.int .u8 x.f0) (.int .i64 x.f1) (.int .i64 x.f2) (.string x.f3) (.slice A4 x.f4.length c4) (.slice A5 x.f5.length c5)) (put6_below (HA.out.trans (((F2.out.below (Nat.le_succ _) (by have := HS1.out; omega)).trans ((Below.refl _ _).alloc (by have := F2.out.size; have := HS1.out; omega) (.cells #[.int .u8 x.f0, .int .i64 x.f1, .int .i64 x.f2, .string x.f3, .slice A4 x.f4.length c4, .slice A5 x.f5.length c5] 28))).trans (Below.mono B4.out (by have := F2.out.size; have := HS1.out; rw [World.size_alloc]; omega)))) (Nat.le_refl _) _ _ _ _ _ _), ?_⟩
  rw [hq]
  exact ⟨_, _, rfl, R_drew (Kd.R_mono (Kd.R_lower (R_put6 (Kd.R_below (Kd.R_below HV4.out ((Below.refl _ _).alloc (Nat.le_refl _) (.cells #[.int .u8 x.f0, .int .i64 x.f1, .int .i64 x.f2, .string x.f3, .slice A4 x.f4.length c4, .slice A5 x.f5.length c5] 28))) B4.out) hB1 _ _ _ _ _ _) (Nat.le_of_lt hB1)) (fun _ _ => trivial)), R_drew (Kd.R_mono (Kd.R_lower (R_put6 (Kd.R_below (Kd.R_below HV5.out ((Below.refl _ _).alloc (Nat.le_refl _) (.cells #[.int .u8 x.f0, .int .i64 x.f1, .int .i64 x.f2, .string x.f3, .slice A4 x.f4.length c4, .slice A5 x.f5.length c5] 28))) B4.out) hB1 _ _ _ _ _ _) (Nat.le_of_lt hB1)) (fun _ _ => trivial))⟩
theorem parse_ok (A : Option Addr) (c : Nat) (p : List UInt8) (w : World) (hp : RB w A p) (hc : p.length ≤ c) (hpl : p.length < 2147483640) (G : Gl w) :
    Calls Tryz.prog 16 #[.slice A p.length c] w (ParsePost p w) := by
  cases hr : parseV p with
  | error er => exact parse_err A c p w hp hc hpl G er hr
  | ok xq =>
    obtain ⟨x, q⟩ := xq
    cases hrr : rightN 33 x with
    | false => exact parse_bad A c p w hp hc hpl G x q hr hrr
    | true => exact parse_good A c p w hp hc hpl G x q hr hrr
end Go.Proofs.YtnckaeehcldheaaGreatDoor.Ob
end

section
set_option linter.unusedVariables false
set_option linter.unusedSimpArgs false
namespace Go.Proofs.YtnckaeehcldheaaGreatDoor.Ob
open Go.RowKit Go.Shelf YtnckaeehcldheaaGreatDoorW.PrintWords
theorem parse_errc {A : Option Addr} {c : Nat} {p : List UInt8} {w : World} {er : Int} (hp : RB w A p) (hc : p.length ≤ c) (hpl : p.length < 2147483640) (G : Gl w) (h : parseS p = .error er) :
    Calls Tryz.prog 16 #[.slice A p.length c] w fun e w' => e = .returned (.tuple #[.agg #[.int .u8 0, .int .i64 0, .int .i64 0, .string ⟨#[]⟩, .slice none 0 0, .slice none 0 0], .int .i64 0, .int .i64 er]) ∧ Below w.heap.size w w' := by
  refine (parse_ok A c p w hp hc hpl G).mono ?_
  rintro e w' ⟨hb, h2⟩
  rw [h] at h2
  exact ⟨h2.2, hb⟩
theorem parse_okc {A : Option Addr} {c : Nat} {p : List UInt8} {w : World} {x : S28} {q : Nat} (hp : RB w A p) (hc : p.length ≤ c) (hpl : p.length < 2147483640) (G : Gl w) (h : parseS p = .ok (x, q)) :
    Calls Tryz.prog 16 #[.slice A p.length c] w fun e w' => ∃ A4 c4 A5 c5, e = .returned (.tuple #[.agg #[.int .u8 x.f0, .int .i64 x.f1, .int .i64 x.f2, .string x.f3, .slice A4 x.f4.length c4, .slice A5 x.f5.length c5], .int .i64 (q : Int), .int .i64 0]) ∧ k28.K w' x [.int .u8 x.f0, .int .i64 x.f1, .int .i64 x.f2, .string x.f3, .slice A4 x.f4.length c4, .slice A5 x.f5.length c5] ∧ Below w.heap.size w w' := by
  refine (parse_ok A c p w hp hc hpl G).mono ?_
  rintro e w' ⟨hb, h2⟩
  rw [h] at h2
  obtain ⟨v4, v5, rfl, h4, h5⟩ := h2
  obtain ⟨A4, c4, rfl, -⟩ := h4.2.slice_
  obtain ⟨A5, c5, rfl, -⟩ := h5.2.slice_
  exact ⟨A4, c4, A5, c5, rfl, k28.K_of_M (k28_mkM w' w.heap.size (fun _ => True) x h4 h5), hb⟩
theorem RB_blk {w : World} {B : Nat} {l : List UInt8} {t : TypeId} {fr : Nat × Nat} (hl : l.length ≤ 9223372036854775807) (h : w.heap[B]? = some (.cells (l.map fun b => Value.int .u8 (b.toNat : Int)).toArray t fr)) : RB w (some ⟨B, 0, none⟩) l := by
  refine ⟨by simp, hl, fun _ => ⟨_, rfl, fun j p hj => ?_⟩⟩
  obtain ⟨hj1, hj2⟩ := List.getElem?_eq_some_iff.1 hj
  have hj3 : j < l.length := by simpa using hj1
  refine ⟨[.int .u8 p], rfl, rfl, fun i u hu => ?_⟩
  obtain rfl : i = 0 := by
    have := (List.getElem?_eq_some_iff.1 hu).1
    simp at this
    exact this
  simp at hu
  subst hu
  have hd : j * (Kd.int .u8).sz + 0 = j := by simp [Kd.int, Kd.scalar]
  rw [hd]
  have : (⟨B, 0, none⟩ : Addr).add j = ⟨B, j, none⟩ := by simp [Addr.add]; omega
  rw [this]
  refine cell_of_blk h ?_
  rw [← hj2]
  simp [bl, hj3]
set_option maxRecDepth 100000 in
set_option maxHeartbeats 8000000 in
theorem get_hit (x y : S28) (A4 : Option Addr) (c4 : Nat) (A5 : Option Addr) (c5 : Nat) (key : ByteArray) (i : Nat) (w : World) (hx : k28.K w x [.int .u8 x.f0, .int .i64 x.f1, .int .i64 x.f2, .string x.f3, .slice A4 x.f4.length c4, .slice A5 x.f5.length c5]) (h6 : x.f0 = 6) (hi : idxS x.f5 key = (i : Int)) (hy : x.f4[i]? = some y) :
    Calls Tryz.prog 23 #[.agg #[.int .u8 x.f0, .int .i64 x.f1, .int .i64 x.f2, .string x.f3, .slice A4 x.f4.length c4, .slice A5 x.f5.length c5], .string key] w fun e w' => ∃ B4 d4 B5 d5, e = .returned (.tuple #[.agg #[.int .u8 y.f0, .int .i64 y.f1, .int .i64 y.f2, .string y.f3, .slice B4 y.f4.length d4, .slice B5 y.f5.length d5], .bool true]) ∧ k28.K w' y [.int .u8 y.f0, .int .i64 y.f1, .int .i64 y.f2, .string y.f3, .slice B4 y.f4.length d4, .slice B5 y.f5.length d5] ∧ Below w.heap.size w w' := by
  obtain ⟨A4', c4', A5', c5', he, l4, g4, l5, g5⟩ := k28_open hx
  injection he with _ he; injection he with _ he; injection he with _ he; injection he with _ he
  injection he with e4 he; injection he with e5 _
  injection e4 with e4a _ e4c; injection e5 with e5a _ e5c
  subst e4a e4c e5a e5c
  obtain ⟨hlt, hyk⟩ := List.getElem?_eq_some_iff.1 hy
  obtain ⟨ad, B4, d4, B5, d5, e, y0, y1, y2, y3, y4, y5, m4, G4, m5, G5⟩ := at_T28 g4 (i : Int) (by omega) (by omega)
  cases e
  rw [rd_T28_at _ _ hlt, hyk] at y0 y1 y2 y3 y4 y5 m4 G4 m5 G5
  simp only [Int.toNat_natCast] at y0 y1 y2 y3 y4 y5
  obtain ⟨w0, hw0⟩ : ∃ w0, w0 = (w.alloc (.cells #[.int .u8 x.f0, .int .i64 x.f1, .int .i64 x.f2, .string x.f3, .slice (some ad) x.f4.length c4, .slice A5 x.f5.length c5] 28)).alloc (.cells #[.int .u8 0, .int .i64 0, .int .i64 0, .string ⟨#[]⟩, .slice none 0 0, .slice none 0 0] 28) := ⟨_, rfl⟩
  have hb : Below w.heap.size w w0 := by rw [hw0]; exact ((Below.refl _ _).alloc (Nat.le_refl _) _).alloc (by rw [World.size_alloc]; omega) _
  have HB := Aside0.mk hb
  have LA := Aside0.mk (show w0.heap[w.heap.size]? = some (.cells #[.int .u8 x.f0, .int .i64 x.f1, .int .i64 x.f2, .string x.f3, .slice (some ad) x.f4.length c4, .slice A5 x.f5.length c5] 28 (0, 0)) by rw [hw0]; exact blk_alloc (blk_new _ _) _)
  have LB := Aside0.mk (show w0.heap[w.heap.size + 1]? = some (.cells #[.int .u8 0, .int .i64 0, .int .i64 0, .string ⟨#[]⟩, .slice none 0 0, .slice none 0 0] 28 (0, 0)) by
    rw [hw0]
    have := blk_new (w.alloc (.cells #[.int .u8 x.f0, .int .i64 x.f1, .int .i64 x.f2, .string x.f3, .slice (some ad) x.f4.length c4, .slice A5 x.f5.length c5] 28)) (.cells #[.int .u8 0, .int .i64 0, .int .i64 0, .string ⟨#[]⟩, .slice none 0 0, .slice none 0 0] 28)
    rwa [World.size_alloc] at this)
  have HX := Aside0.mk (index_ok A5 c5 x.f5 key x.f5.length (i : Int) w0 (Kd.C_below g5 hb) rfl hi)
  replace y0 := pw_cell_below hb y0
  replace y1 := pw_cell_below hb y1
  replace y2 := pw_cell_below hb y2
  replace y3 := pw_cell_below hb y3
  replace y4 := pw_cell_below hb y4
  replace y5 := pw_cell_below hb y5
  have e6 : (x.f0 == 6) = true := by simp [h6]
  have e6' : (x.f0 != 6) = false := by simp [h6]
  have hi1 : (i : Int) < (x.f4.length : Int) := by omega
  have hmx : x.f4.length ≤ 9223372036854775807 := g4.2.1
  have HK := Aside0.mk (fun W (hW : Below w.heap.size w W) => k28_mk W y m4 (Kd.C_below G4 hW) m5 (Kd.C_below G5 hW))
  obtain ⟨⟨q0, q1, q2, q3, q4, q5⟩, -⟩ := six_c LA.out
  obtain ⟨⟨p0, p1, p2, p3, p4, p5⟩, r0, r1, r2, r3, r4, r5⟩ := six_c LB.out
  clear hb hx g4 g5 G4 G5 hi hy h6 hyk
  go_enter Tryz.func23, Tryz.ntmps23
  go_wp2_with fail
  rw [← hw0]
  clear hw0
  go_wp2_with (go_at_call 55; refine HX.out.mono ?_; rintro e w2 ⟨rfl, rfl⟩)
  refine ret_put6 (v := .tuple #[.agg #[.int .u8 y.f0, .int .i64 y.f1, .int .i64 y.f2, .string y.f3, .slice B4 y.f4.length d4, .slice B5 y.f5.length d5], .bool true]) LB.out (fun W2 z0 z1 z2 z3 z4 z5 => by simp [results, Tryz.results23, go_sem, z0, z1, z2, z3, z4, z5]) rfl ?_
  have hf := put6_below HB.out (b := w.heap.size + 1) (Nat.le_succ _) (.int .u8 y.f0) (.int .i64 y.f1) (.int .i64 y.f2) (.string y.f3) (.slice B4 y.f4.length d4) (.slice B5 y.f5.length d5)
  exact ⟨B4, d4, B5, d5, rfl, HK.out _ hf, hf⟩
end Go.Proofs.YtnckaeehcldheaaGreatDoor.Ob
end

section
set_option linter.unusedVariables false
set_option linter.unusedSimpArgs false
namespace Go.Proofs.YtnckaeehcldheaaGreatDoor.Ob
open Go.RowKit Go.Shelf YtnckaeehcldheaaGreatDoorW.PrintWords
def aw1 : List UInt8 := [60, 60, 32, 47, 65, 32, 91, 49, 32, 50, 32, 82, 32, 62, 62]
def aw2 : List UInt8 := [60, 60, 32, 47, 65, 32, 91, 49, 32, 48, 32, 82, 93, 32, 62, 62, 32]
def aw2k : ByteArray := ⟨#[65]⟩
def aw2r : S28 := ⟨7, 1, 0, ⟨#[]⟩, [], []⟩
def aw2a : S28 := ⟨5, 0, 0, ⟨#[]⟩, [aw2r], []⟩
def aw2v : S28 := ⟨6, 0, 0, ⟨#[]⟩, [aw2a], [aw2k]⟩
set_option maxRecDepth 100000 in
theorem aw1_eq : parseS aw1 = .error 2 := by kernel_rfl
set_option maxRecDepth 100000 in
theorem aw2_eq : parseS aw2 = .ok (aw2v, 16) := by kernel_rfl
theorem aw1_cells : (aw1.map fun b => Value.int .u8 (b.toNat : Int)).toArray = #[.int .u8 60, .int .u8 60, .int .u8 32, .int .u8 47, .int .u8 65, .int .u8 32, .int .u8 91, .int .u8 49, .int .u8 32, .int .u8 50, .int .u8 32, .int .u8 82, .int .u8 32, .int .u8 62, .int .u8 62] := by rfl
theorem aw2_cells : (aw2.map fun b => Value.int .u8 (b.toNat : Int)).toArray = #[.int .u8 60, .int .u8 60, .int .u8 32, .int .u8 47, .int .u8 65, .int .u8 32, .int .u8 91, .int .u8 49, .int .u8 32, .int .u8 48, .int .u8 32, .int .u8 82, .int .u8 93, .int .u8 32, .int .u8 62, .int .u8 62, .int .u8 32] := by rfl
theorem aw1_ok (W : World) (G : Gl W) : Calls Tryz.prog 16 #[.slice (some ⟨W.heap.size, 0, none⟩) 15 15] (W.alloc (.cells #[.int .u8 60, .int .u8 60, .int .u8 32, .int .u8 47, .int .u8 65, .int .u8 32, .int .u8 91, .int .u8 49, .int .u8 32, .int .u8 50, .int .u8 32, .int .u8 82, .int .u8 32, .int .u8 62, .int .u8 62] 5 (15, 16))) fun e w' => e = .returned (.tuple #[.agg #[.int .u8 0, .int .i64 0, .int .i64 0, .string ⟨#[]⟩, .slice none 0 0, .slice none 0 0], .int .i64 0, .int .i64 2]) ∧ Below W.heap.size W w' := by
  have hb : Below W.heap.size W (W.alloc (.cells #[.int .u8 60, .int .u8 60, .int .u8 32, .int .u8 47, .int .u8 65, .int .u8 32, .int .u8 91, .int .u8 49, .int .u8 32, .int .u8 50, .int .u8 32, .int .u8 82, .int .u8 32, .int .u8 62, .int .u8 62] 5 (15, 16))) := (Below.refl _ _).alloc (Nat.le_refl _) _
  refine (parse_errc (A := some ⟨W.heap.size, 0, none⟩) (c := 15) (p := aw1) (RB_blk (t := 5) (fr := (15, 16)) (by decide) (by rw [aw1_cells]; exact blk_new _ _)) (by decide) (by decide) (G.below hb) aw1_eq).mono ?_
  rintro e w' ⟨he, h2⟩
  exact ⟨he, hb.trans (h2.mono hb.size)⟩
theorem aw2_ok (W : World) (n : Nat) (hn : W.heap.size = n) (G : Gl W) : Calls Tryz.prog 16 #[.slice (some ⟨n, 0, none⟩) 17 17] (W.alloc (.cells #[.int .u8 60, .int .u8 60, .int .u8 32, .int .u8 47, .int .u8 65, .int .u8 32, .int .u8 91, .int .u8 49, .int .u8 32, .int .u8 48, .int .u8 32, .int .u8 82, .int .u8 93, .int .u8 32, .int .u8 62, .int .u8 62, .int .u8 32] 5 (17, 18))) fun e w' => ∃ A4 c4 A5 c5, e = .returned (.tuple #[.agg #[.int .u8 6, .int .i64 0, .int .i64 0, .string ⟨#[]⟩, .slice A4 1 c4, .slice A5 1 c5], .int .i64 16, .int .i64 0]) ∧ k28.K w' aw2v [.int .u8 aw2v.f0, .int .i64 aw2v.f1, .int .i64 aw2v.f2, .string aw2v.f3, .slice A4 aw2v.f4.length c4, .slice A5 aw2v.f5.length c5] ∧ Below W.heap.size W w' := by
  subst hn
  have hb : Below W.heap.size W (W.alloc (.cells #[.int .u8 60, .int .u8 60, .int .u8 32, .int .u8 47, .int .u8 65, .int .u8 32, .int .u8 91, .int .u8 49, .int .u8 32, .int .u8 48, .int .u8 32, .int .u8 82, .int .u8 93, .int .u8 32, .int .u8 62, .int .u8 62, .int .u8 32] 5 (17, 18))) := (Below.refl _ _).alloc (Nat.le_refl _) _
  refine (parse_okc (A := some ⟨W.heap.size, 0, none⟩) (c := 17) (p := aw2) (RB_blk (t := 5) (fr := (17, 18)) (by decide) (by rw [aw2_cells]; exact blk_new _ _)) (by decide) (by decide) (G.below hb) aw2_eq).mono ?_
  rintro e w' ⟨A4, c4, A5, c5, he, hk, h2⟩
  exact ⟨A4, c4, A5, c5, he, hk, hb.trans (h2.mono hb.size)⟩
theorem awg_ok (A4 : Option Addr) (c4 : Nat) (A5 : Option Addr) (c5 : Nat) (w : World) (h : k28.K w aw2v [.int .u8 aw2v.f0, .int .i64 aw2v.f1, .int .i64 aw2v.f2, .string aw2v.f3, .slice A4 aw2v.f4.length c4, .slice A5 aw2v.f5.length c5]) :
    Calls Tryz.prog 23 #[.agg #[.int .u8 6, .int .i64 0, .int .i64 0, .string ⟨#[]⟩, .slice A4 1 c4, .slice A5 1 c5], .string ⟨#[65]⟩] w fun e w' => ∃ ad d4 B5 d5, e = .returned (.tuple #[.agg #[.int .u8 5, .int .i64 0, .int .i64 0, .string ⟨#[]⟩, .slice (some ad) 1 d4, .slice B5 0 d5], .bool true]) ∧ w'.cell? ad = some (.int .u8 7) ∧ Below w.heap.size w w' := by
  refine (get_hit aw2v aw2a A4 c4 A5 c5 ⟨#[65]⟩ 0 w h rfl (show idxS [⟨#[65]⟩] ⟨#[65]⟩ = 0 by unfold idxS; rw [if_pos rfl]) rfl).mono ?_
  rintro e w' ⟨B4, d4, B5, d5, he, hk, hb⟩
  obtain ⟨E4, e4, E5, e5, hh, l4, g4, l5, g5⟩ := k28_open hk
  injection hh with _ hh; injection hh with _ hh; injection hh with _ hh; injection hh with _ hh
  injection hh with x4 hh; injection x4 with x4a _ x4c
  subst x4a x4c
  obtain ⟨ad, F4, u4, F5, u5, ea, y0, -⟩ := at_T28 g4 0 (by decide) (by decide)
  subst ea
  have ez : ad.add ((0 : Int).toNat * 6) = ad := by
    unfold Addr.add
    cases ad with
    | mk b o i => cases i <;> simp
  rw [ez] at y0
  exact ⟨ad, d4, B5, d5, he, y0, hb⟩
theorem kc2_eq (w2 : World) : (convert 22 22 (.slice (some ⟨w2.heap.size + 1, 0, none⟩) 17 17)).run Tryz.prog ((w2.alloc (.cells #[.int .u8 0, .int .i64 0, .int .i64 0, .string ⟨#[]⟩, .slice none 0 0, .slice none 0 0] 28)).alloc (.cells #[.int .u8 60, .int .u8 60, .int .u8 32, .int .u8 47, .int .u8 65, .int .u8 32, .int .u8 91, .int .u8 49, .int .u8 32, .int .u8 48, .int .u8 32, .int .u8 82, .int .u8 93, .int .u8 32, .int .u8 62, .int .u8 62, .int .u8 32] 5)) = .ok (.slice (some ⟨w2.heap.size + 1, 0, none⟩) 17 17) ((w2.alloc (.cells #[.int .u8 0, .int .i64 0, .int .i64 0, .string ⟨#[]⟩, .slice none 0 0, .slice none 0 0] 28)).alloc (.cells #[.int .u8 60, .int .u8 60, .int .u8 32, .int .u8 47, .int .u8 65, .int .u8 32, .int .u8 91, .int .u8 49, .int .u8 32, .int .u8 48, .int .u8 32, .int .u8 82, .int .u8 93, .int .u8 32, .int .u8 62, .int .u8 62, .int .u8 32] 5 (17, 18))) := by
  have := Lib.run_convert_bytes_const (P := Tryz.prog) (w2.alloc (.cells #[.int .u8 0, .int .i64 0, .int .i64 0, .string ⟨#[]⟩, .slice none 0 0, .slice none 0 0] 28)) 22 5 #[.int .u8 60, .int .u8 60, .int .u8 32, .int .u8 47, .int .u8 65, .int .u8 32, .int .u8 91, .int .u8 49, .int .u8 32, .int .u8 48, .int .u8 32, .int .u8 82, .int .u8 93, .int .u8 32, .int .u8 62, .int .u8 62, .int .u8 32] 17 17 Tryz.underlying22 Tryz.underlying5
  rw [World.size_alloc] at this
  exact this
set_option maxRecDepth 100000 in
set_option maxHeartbeats 8000000 in
theorem awake_ok (w : World) (G : Gl w) : Calls Tryz.prog 14 #[] w fun e w' => e = .returned (.bool true) ∧ Below w.heap.size w w' := by
  have kc := fun (W : World) (C : Array Value) (n c : Nat) => Lib.run_convert_bytes_const (P := Tryz.prog) W 22 5 C n c Tryz.underlying22 Tryz.underlying5
  have HG := Aside0.mk G
  clear G
  go_enter Tryz.func14, Tryz.ntmps14
  go_wp2_with (first
    | (go_at_call 16; (with_reducible refine (aw1_ok w HG.out).mono ?_); rintro e w2 ⟨rfl, hb2⟩; have H2 := Aside0.mk (hb2.alloc hb2.size (.cells #[.int .u8 0, .int .i64 0, .int .i64 0, .string ⟨#[]⟩, .slice none 0 0, .slice none 0 0] 28)); have G2 := Aside0.mk (HG.out.below H2.out); have kc2 := kc2_eq w2; clear hb2)
    | (go_at_call 16; refine (aw2_ok (w2.alloc (.cells #[.int .u8 0, .int .i64 0, .int .i64 0, .string ⟨#[]⟩, .slice none 0 0, .slice none 0 0] 28)) (w2.heap.size + 1) (World.size_alloc _ _) G2.out).mono ?_; rintro e w4 ⟨A4, c4, A5, c5, rfl, hk4, hb4⟩; have H4 := Aside0.mk (H2.out.trans (hb4.mono H2.out.size)); have HK := Aside0.mk (k28.K_below ((Below.refl w4.heap.size w4).alloc (Nat.le_refl _) (.cells #[.int .u8 6, .int .i64 0, .int .i64 0, .string ⟨#[]⟩, .slice A4 1 c4, .slice A5 1 c5] 28)) hk4); clear hk4 hb4)
    | (go_at_call 23; refine (awg_ok A4 c4 A5 c5 _ HK.out).mono ?_; rintro e w6 ⟨ad, d4, B5, d5, rfl, hcell, hb6⟩; have hcell2 := pw_cell_below ((Below.refl w6.heap.size w6).alloc (Nat.le_refl _) (.cells #[.int .u8 5, .int .i64 0, .int .i64 0, .string ⟨#[]⟩, .slice (some ad) 1 d4, .slice B5 0 d5] 28)) hcell; have H6 := Aside0.mk ((H4.out.alloc H4.out.size (.cells #[.int .u8 6, .int .i64 0, .int .i64 0, .string ⟨#[]⟩, .slice A4 1 c4, .slice A5 1 c5] 28)).trans (hb6.mono (by have := H4.out.size; rw [World.size_alloc]; omega))); clear hb6))
  go_ret
  exact ⟨rfl, H6.out.alloc H6.out.size _⟩
end Go.Proofs.YtnckaeehcldheaaGreatDoor.Ob
end

section
set_option linter.unusedVariables false
set_option linter.unusedSimpArgs false
namespace Go.Proofs.YtnckaeehcldheaaGreatDoor.Ob
open Go.RowKit Go.Shelf YtnckaeehcldheaaGreatDoorW.PrintWords
theorem bare_f {x : S28} (l4 : x.f4.length ≤ 1099511627776) (l5 : x.f5.length ≤ 1099511627776) : Pr.punchcutref18_bare.f 3 x.f0 x.f1 x.f2 x.f3 x.f4 x.f5 = some (rbareB x) := by
  obtain ⟨f0, f1, f2, f3, f4, f5⟩ := x
  dsimp only at l4 l5 ⊢
  have hw : wrap64 ((f4.length : Int) + (f5.length : Int)) = (f4.length : Int) + (f5.length : Int) := by unfold wrap64; omega
  have hs : ((f4.length : Int) + (f5.length : Int) == 0) = (((f4.length : Int) == 0) && ((f5.length : Int) == 0)) := by
    rw [Bool.eq_iff_iff, Bool.and_eq_true, beq_iff_eq, beq_iff_eq, beq_iff_eq]; omega
  have hl : ((f5.length : Int) == (f4.length : Int)) = (f5.length == f4.length) := by
    rw [Bool.eq_iff_iff, beq_iff_eq, beq_iff_eq]; omega
  have he : (f3.toList = ([] : List UInt8)) = (f3.toList.isEmpty = true) := by rw [List.isEmpty_iff]
  unfold Pr.punchcutref18_bare.f
  have k0 : f0 < 0 ∨ f0 = 0 ∨ f0 = 1 ∨ f0 = 2 ∨ f0 = 3 ∨ f0 = 4 ∨ f0 = 5 ∨ f0 = 6 ∨ f0 = 7 ∨ 7 < f0 := by omega
  rcases k0 with k | rfl | rfl | rfl | rfl | rfl | rfl | rfl | rfl | k
  · have n0 : ¬ f0 = 0 := by omega
    have n1 : ¬ f0 = 1 := by omega
    have n2 : ¬ f0 = 2 := by omega
    have n3 : ¬ f0 = 3 := by omega
    have n4 : ¬ f0 = 4 := by omega
    have n5 : ¬ f0 = 5 := by omega
    have n6 : ¬ f0 = 6 := by omega
    have n7 : ¬ f0 = 7 := by omega
    have nn : ¬ 0 ≤ f0 := by omega
    by_cases h1 : f1 = 0 <;> simp [Pr.punchcutref18_bare.j0, Pr.punchcutref18_bare.j1, Pr.punchcutref18_bare.j2, rbareB, *]
  all_goals try (by_cases h1 : f1 = 0 <;> by_cases h2 : f2 = 0 <;> cases h3 : f3.toList.isEmpty <;> simp [Pr.punchcutref18_bare.j0, Pr.punchcutref18_bare.j1, Pr.punchcutref18_bare.j2, rbareB, bareB, *]; done)
  · have n0 : ¬ f0 = 0 := by omega
    have n1 : ¬ f0 = 1 := by omega
    have n2 : ¬ f0 = 2 := by omega
    have n3 : ¬ f0 = 3 := by omega
    have n4 : ¬ f0 = 4 := by omega
    have n5 : ¬ f0 = 5 := by omega
    have n6 : ¬ f0 = 6 := by omega
    have n7 : ¬ f0 = 7 := by omega
    have nn : ¬ f0 ≤ 7 := by omega
    by_cases h1 : f1 = 0 <;> simp [Pr.punchcutref18_bare.j0, Pr.punchcutref18_bare.j1, Pr.punchcutref18_bare.j2, rbareB, *]
theorem rd_T34_at (xs : List S28) (k : Nat) (h : k < xs.length) : rd_T34 xs (k : Int) = xs[k] := by
  simp [rd_T34, List.getD_eq_getElem?_getD, List.getElem?_eq_getElem h]
def dl (n : Nat) : List S28 → Nat
  | [] => 0
  | y :: ys => max (if 0 < n then 1 + min (n - 1) (hgt y) else 0) (dl n ys)
theorem dl_eq (n : Nat) (xs : List S28) : dl n xs = min n (hgtL xs) := by
  induction xs with
  | nil => rw [dl, hgtL]; omega
  | cons y ys ih => rw [dl, hgtL, ih]; split <;> omega
theorem deep_loop (n : Nat) (hn : n ≤ 100) (xs : List S28) (hl : xs.length ≤ 1099511627776)
    (ih : ∀ y ∈ xs, ∀ m : Nat, m ≤ 100 → ∃ K, ∀ k, K ≤ k → Pr.punchcutref18_Deep.f k y.f0 y.f1 y.f2 y.f3 y.f4 y.f5 (m : Int) = some ((min m (hgt y) : Nat) : Int)) :
    ∀ (d i a : Nat), i + d = xs.length → a ≤ 100 → ∃ K, ∀ k, K ≤ k → Pr.punchcutref18_Deep.l0 k (n : Int) (a : Int) xs (xs.length : Int) (i : Int) = some ((max a (dl n (xs.drop i)) : Nat) : Int) := by
  intro d
  induction d with
  | zero =>
    intro i a hi ha
    refine ⟨1, fun k hk => ?_⟩
    obtain ⟨k, rfl⟩ : ∃ m, k = m + 1 := ⟨k - 1, by omega⟩
    rw [Pr.punchcutref18_Deep.l0, if_neg (by omega), List.drop_of_length_le (by omega), dl, Nat.max_zero]
  | succ d ihd =>
    intro i a hi ha
    have hlt : i < xs.length := by omega
    have hw1 : wrap64 ((i : Int) + 1) = ((i + 1 : Nat) : Int) := by unfold wrap64; omega
    by_cases h0 : 0 < n
    · obtain ⟨K1, h1⟩ := ih xs[i] (List.getElem_mem hlt) (n - 1) (by omega)
      have hm : min (n - 1) (hgt xs[i]) ≤ 99 := by omega
      obtain ⟨K2, h2⟩ := ihd (i + 1) (max a (1 + min (n - 1) (hgt xs[i]))) (by omega) (by omega)
      refine ⟨max K1 K2 + 1, fun k hk => ?_⟩
      obtain ⟨k, rfl⟩ : ∃ m, k = m + 1 := ⟨k - 1, by omega⟩
      have hw2 : wrap64 ((n : Int) - 1) = ((n - 1 : Nat) : Int) := by unfold wrap64; omega
      rw [Pr.punchcutref18_Deep.l0, if_pos (by omega), if_pos (by omega), if_pos (by omega), if_pos (by omega), rd_T34_at _ _ hlt, hw2, h1 k (by omega), Option.bind_some, hw1]
      have hw3 : mx (a : Int) (wrap64 (1 + ((min (n - 1) (hgt xs[i]) : Nat) : Int))) = ((max a (1 + min (n - 1) (hgt xs[i])) : Nat) : Int) := by
        unfold mx wrap64
        split <;> omega
      rw [hw3, h2 k (by omega), List.drop_eq_getElem_cons hlt, dl, if_pos h0]
      congr 2
      omega
    · obtain ⟨K2, h2⟩ := ihd (i + 1) a (by omega) ha
      refine ⟨K2 + 1, fun k hk => ?_⟩
      obtain ⟨k, rfl⟩ : ∃ m, k = m + 1 := ⟨k - 1, by omega⟩
      rw [Pr.punchcutref18_Deep.l0, if_pos (by omega), if_pos (by omega), if_pos (by omega), if_neg (by omega), hw1, h2 k (by omega), List.drop_eq_getElem_cons hlt, dl, if_neg h0, Nat.zero_max]
theorem deep_f {x : S28} (hz : Sz x) : ∀ n : Nat, n ≤ 100 → ∃ K, ∀ k, K ≤ k → Pr.punchcutref18_Deep.f k x.f0 x.f1 x.f2 x.f3 x.f4 x.f5 (n : Int) = some ((min n (hgt x) : Nat) : Int) := by
  induction hz with
  | @mk x h0 h3 h5 l4 l5 h4 ih =>
    intro n hn
    obtain ⟨K, h⟩ := deep_loop n hn x.f4 l4 ih x.f4.length 0 0 (by omega) (by omega)
    refine ⟨K + 1, fun k hk => ?_⟩
    obtain ⟨k, rfl⟩ : ∃ m, k = m + 1 := ⟨k - 1, by omega⟩
    rw [Pr.punchcutref18_Deep.f]
    have := h k (by omega)
    rw [List.drop_zero, dl_eq, Nat.zero_max, ← hgt_eq] at this
    exact this
end Go.Proofs.YtnckaeehcldheaaGreatDoor.Ob
end
