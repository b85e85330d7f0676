import Derived.Test.YtnckaeehcldheaaGreatDoorMP2
import Derived.Test.YtnckaeehcldheaaGreatDoorMP3

section
namespace Go.Proofs.YtnckaeehcldheaaGreatDoor.Pr
open Go.Proofs.YtnckaeehcldheaaGreatDoor.Ob (S28 z28 k28 k34 rd_T28 rd_T34 at_T28 at_T34 k28_open k28_openM k28_mk k28_mkM k28_openF k28_mkF k34_open k34_openM k34_mk k34_mkM k34_openF k34_mkF)
open Go.RowKit Go.Proofs.YtnckaeehcldheaaGreatDoorW.PrintWords Go.Proofs.YtnckaeehcldheaaGreatDoorW.PrintLast Go.Proofs.YtnckaeehcldheaaGreatDoorW.PrintMore
attribute [local go_sem] max2_int min2_int max_two min_two max_three min_three max_four min_four   -- for this text's walks alone
set_option linter.unusedVariables false
set_option linter.unusedSimpArgs false
mutual
def punchcutref18_Same.j0 : Nat → Bool → Int → Int → Int → ByteArray → List (S28) → List ByteArray → Int → Int → Int → ByteArray → List (S28) → List ByteArray → Option (Bool)
  | 0, _, _, _, _, _, _, _, _, _, _, _, _, _ => none
  | k + 1, x50, x242000, x242001, x242002, x242003, x242004, x242005, x243000, x243001, x243002, x243003, x243004, x243005 => if x50 = true then (some false) else (punchcutref18_Same.l0 k (x242005.length : Int) 0 x242000 x242001 x242002 x242003 x242004 x242005 x243000 x243001 x243002 x243003 x243004 x243005)
def punchcutref18_Same.l0 : Nat → Int → Int → Int → Int → Int → ByteArray → List (S28) → List ByteArray → Int → Int → Int → ByteArray → List (S28) → List ByteArray → Option (Bool)
  | 0, _, _, _, _, _, _, _, _, _, _, _, _, _, _ => none
  | k + 1, x53, x54, x242000, x242001, x242002, x242003, x242004, x242005, x243000, x243001, x243002, x243003, x243004, x243005 => if x54 < x53 then (if 0 ≤ x54 then (if x54 < (x242005.length : Int) then (if x54 < (x243005.length : Int) then (if (rdOf ByteArray.empty x242005 x54).toList = (rdOf ByteArray.empty x243005 x54).toList then (punchcutref18_Same.l0 k x53 (wrap64 (x54 + 1)) x242000 x242001 x242002 x242003 x242004 x242005 x243000 x243001 x243002 x243003 x243004 x243005) else (some false)) else (none)) else (none)) else (none)) else (punchcutref18_Same.l1 k (x242004.length : Int) 0 x242000 x242001 x242002 x242003 x242004 x242005 x243000 x243001 x243002 x243003 x243004 x243005)
def punchcutref18_Same.l1 : Nat → Int → Int → Int → Int → Int → ByteArray → List (S28) → List ByteArray → Int → Int → Int → ByteArray → List (S28) → List ByteArray → Option (Bool)
  | 0, _, _, _, _, _, _, _, _, _, _, _, _, _, _ => none
  | k + 1, x71, x72, x242000, x242001, x242002, x242003, x242004, x242005, x243000, x243001, x243002, x243003, x243004, x243005 => if x72 < x71 then (if 0 ≤ x72 then (if x72 < (x242004.length : Int) then (if x72 < (x243004.length : Int) then ((punchcutref18_Same.f k ((rd_T34 x242004 x72).f0) ((rd_T34 x242004 x72).f1) ((rd_T34 x242004 x72).f2) ((rd_T34 x242004 x72).f3) ((rd_T34 x242004 x72).f4) ((rd_T34 x242004 x72).f5) ((rd_T34 x243004 x72).f0) ((rd_T34 x243004 x72).f1) ((rd_T34 x243004 x72).f2) ((rd_T34 x243004 x72).f3) ((rd_T34 x243004 x72).f4) ((rd_T34 x243004 x72).f5)).bind fun t247 => (if t247 = true then (punchcutref18_Same.l1 k x71 (wrap64 (x72 + 1)) x242000 x242001 x242002 x242003 x242004 x242005 x243000 x243001 x243002 x243003 x243004 x243005) else (some false))) else (none)) else (none)) else (none)) else (some true)
def punchcutref18_Same.f : Nat → Int → Int → Int → ByteArray → List (S28) → List ByteArray → Int → Int → Int → ByteArray → List (S28) → List ByteArray → Option (Bool)
  | 0, _, _, _, _, _, _, _, _, _, _, _, _ => none
  | k + 1, a0_0, a0_1, a0_2, a0_3, l0_4, l0_5, a1_0, a1_1, a1_2, a1_3, l1_4, l1_5 => if a0_0 = a1_0 then (if a0_1 = a1_1 then (if a0_2 = a1_2 then (if a0_3.toList = a1_3.toList then (if (l0_4.length : Int) = (l1_4.length : Int) then (punchcutref18_Same.j0 k ((l0_5.length : Int) != (l1_5.length : Int)) a0_0 a0_1 a0_2 a0_3 l0_4 l0_5 a1_0 a1_1 a1_2 a1_3 l1_4 l1_5) else (punchcutref18_Same.j0 k true a0_0 a0_1 a0_2 a0_3 l0_4 l0_5 a1_0 a1_1 a1_2 a1_3 l1_4 l1_5)) else (punchcutref18_Same.j0 k true a0_0 a0_1 a0_2 a0_3 l0_4 l0_5 a1_0 a1_1 a1_2 a1_3 l1_4 l1_5)) else (punchcutref18_Same.j0 k true a0_0 a0_1 a0_2 a0_3 l0_4 l0_5 a1_0 a1_1 a1_2 a1_3 l1_4 l1_5)) else (punchcutref18_Same.j0 k true a0_0 a0_1 a0_2 a0_3 l0_4 l0_5 a1_0 a1_1 a1_2 a1_3 l1_4 l1_5)) else (punchcutref18_Same.j0 k true a0_0 a0_1 a0_2 a0_3 l0_4 l0_5 a1_0 a1_1 a1_2 a1_3 l1_4 l1_5)
end
theorem punchcutref18_Same.mono_l : ∀ k, (∀ y0 y1 y2 y3 y4 y5 y6 y7 y8 y9 y10 y11, LeO (punchcutref18_Same.f k y0 y1 y2 y3 y4 y5 y6 y7 y8 y9 y10 y11) (punchcutref18_Same.f (k + 1) y0 y1 y2 y3 y4 y5 y6 y7 y8 y9 y10 y11)) ∧ (∀ y0 y1 y2 y3 y4 y5 y6 y7 y8 y9 y10 y11 y12, LeO (punchcutref18_Same.j0 k y0 y1 y2 y3 y4 y5 y6 y7 y8 y9 y10 y11 y12) (punchcutref18_Same.j0 (k + 1) y0 y1 y2 y3 y4 y5 y6 y7 y8 y9 y10 y11 y12)) ∧ (∀ y0 y1 y2 y3 y4 y5 y6 y7 y8 y9 y10 y11 y12 y13, LeO (punchcutref18_Same.l0 k y0 y1 y2 y3 y4 y5 y6 y7 y8 y9 y10 y11 y12 y13) (punchcutref18_Same.l0 (k + 1) y0 y1 y2 y3 y4 y5 y6 y7 y8 y9 y10 y11 y12 y13)) ∧ (∀ y0 y1 y2 y3 y4 y5 y6 y7 y8 y9 y10 y11 y12 y13, LeO (punchcutref18_Same.l1 k y0 y1 y2 y3 y4 y5 y6 y7 y8 y9 y10 y11 y12 y13) (punchcutref18_Same.l1 (k + 1) y0 y1 y2 y3 y4 y5 y6 y7 y8 y9 y10 y11 y12 y13))
  | 0 => ⟨fun _ _ _ _ _ _ _ _ _ _ _ _ r h => by simp [punchcutref18_Same.f] at h, fun _ _ _ _ _ _ _ _ _ _ _ _ _ r h => by simp [punchcutref18_Same.j0] at h, fun _ _ _ _ _ _ _ _ _ _ _ _ _ _ r h => by simp [punchcutref18_Same.l0] at h, fun _ _ _ _ _ _ _ _ _ _ _ _ _ _ r h => by simp [punchcutref18_Same.l1] at h⟩
  | k + 1 => by
    obtain ⟨ih0, ih1, ih2, ih3⟩ := punchcutref18_Same.mono_l k
    refine ⟨?_, ?_, ?_, ?_⟩
    · intro y0 y1 y2 y3 y4 y5 y6 y7 y8 y9 y10 y11
      unfold punchcutref18_Same.f
      repeat' first
      | (with_reducible exact ih0 _ _ _ _ _ _ _ _ _ _ _ _)
      | (with_reducible exact ih1 _ _ _ _ _ _ _ _ _ _ _ _ _)
      | (with_reducible exact ih2 _ _ _ _ _ _ _ _ _ _ _ _ _ _)
      | (with_reducible exact ih3 _ _ _ _ _ _ _ _ _ _ _ _ _ _)
      | (with_reducible exact LeO.refl _)
      | (with_reducible exact LeO.none _)
      | (with_reducible refine LeO.ite ?_ ?_)
      | (with_reducible refine LeO.bind ?_ (fun _ => ?_))
      | exact ih0 _ _ _ _ _ _ _ _ _ _ _ _
      | exact ih1 _ _ _ _ _ _ _ _ _ _ _ _ _
      | exact ih2 _ _ _ _ _ _ _ _ _ _ _ _ _ _
      | exact ih3 _ _ _ _ _ _ _ _ _ _ _ _ _ _
      | exact LeO.none _
      | refine LeO.ite ?_ ?_
      | refine LeO.bind ?_ (fun _ => ?_)
    · intro y0 y1 y2 y3 y4 y5 y6 y7 y8 y9 y10 y11 y12
      unfold punchcutref18_Same.j0
      repeat' first
      | (with_reducible exact ih0 _ _ _ _ _ _ _ _ _ _ _ _)
      | (with_reducible exact ih1 _ _ _ _ _ _ _ _ _ _ _ _ _)
      | (with_reducible exact ih2 _ _ _ _ _ _ _ _ _ _ _ _ _ _)
      | (with_reducible exact ih3 _ _ _ _ _ _ _ _ _ _ _ _ _ _)
      | (with_reducible exact LeO.refl _)
      | (with_reducible exact LeO.none _)
      | (with_reducible refine LeO.ite ?_ ?_)
      | (with_reducible refine LeO.bind ?_ (fun _ => ?_))
      | exact ih0 _ _ _ _ _ _ _ _ _ _ _ _
      | exact ih1 _ _ _ _ _ _ _ _ _ _ _ _ _
      | exact ih2 _ _ _ _ _ _ _ _ _ _ _ _ _ _
      | exact ih3 _ _ _ _ _ _ _ _ _ _ _ _ _ _
      | exact LeO.none _
      | refine LeO.ite ?_ ?_
      | refine LeO.bind ?_ (fun _ => ?_)
    · intro y0 y1 y2 y3 y4 y5 y6 y7 y8 y9 y10 y11 y12 y13
      unfold punchcutref18_Same.l0
      repeat' first
      | (with_reducible exact ih0 _ _ _ _ _ _ _ _ _ _ _ _)
      | (with_reducible exact ih1 _ _ _ _ _ _ _ _ _ _ _ _ _)
      | (with_reducible exact ih2 _ _ _ _ _ _ _ _ _ _ _ _ _ _)
      | (with_reducible exact ih3 _ _ _ _ _ _ _ _ _ _ _ _ _ _)
      | (with_reducible exact LeO.refl _)
      | (with_reducible exact LeO.none _)
      | (with_reducible refine LeO.ite ?_ ?_)
      | (with_reducible refine LeO.bind ?_ (fun _ => ?_))
      | exact ih0 _ _ _ _ _ _ _ _ _ _ _ _
      | exact ih1 _ _ _ _ _ _ _ _ _ _ _ _ _
      | exact ih2 _ _ _ _ _ _ _ _ _ _ _ _ _ _
      | exact ih3 _ _ _ _ _ _ _ _ _ _ _ _ _ _
      | exact LeO.none _
      | refine LeO.ite ?_ ?_
      | refine LeO.bind ?_ (fun _ => ?_)
    · intro y0 y1 y2 y3 y4 y5 y6 y7 y8 y9 y10 y11 y12 y13
      unfold punchcutref18_Same.l1
      repeat' first
      | (with_reducible exact ih0 _ _ _ _ _ _ _ _ _ _ _ _)
      | (with_reducible exact ih1 _ _ _ _ _ _ _ _ _ _ _ _ _)
      | (with_reducible exact ih2 _ _ _ _ _ _ _ _ _ _ _ _ _ _)
      | (with_reducible exact ih3 _ _ _ _ _ _ _ _ _ _ _ _ _ _)
      | (with_reducible exact LeO.refl _)
      | (with_reducible exact LeO.none _)
      | (with_reducible refine LeO.ite ?_ ?_)
      | (with_reducible refine LeO.bind ?_ (fun _ => ?_))
      | exact ih0 _ _ _ _ _ _ _ _ _ _ _ _
      | exact ih1 _ _ _ _ _ _ _ _ _ _ _ _ _
      | exact ih2 _ _ _ _ _ _ _ _ _ _ _ _ _ _
      | exact ih3 _ _ _ _ _ _ _ _ _ _ _ _ _ _
      | exact LeO.none _
      | refine LeO.ite ?_ ?_
      | refine LeO.bind ?_ (fun _ => ?_)
theorem punchcutref18_Same.mono : ∀ a0 a1 a2 a3 a4 a5 a6 a7 a8 a9 a10 a11 k, LeO (punchcutref18_Same.f k a0 a1 a2 a3 a4 a5 a6 a7 a8 a9 a10 a11) (punchcutref18_Same.f (k + 1) a0 a1 a2 a3 a4 a5 a6 a7 a8 a9 a10 a11) := by
  intro a0 a1 a2 a3 a4 a5 a6 a7 a8 a9 a10 a11 k
  obtain ⟨ih0, ih1, ih2, ih3⟩ := punchcutref18_Same.mono_l k
  exact ih0 a0 a1 a2 a3 a4 a5 a6 a7 a8 a9 a10 a11
def punchcutref18_Same.T6 : Bool × List (List Nat × List Nat) := (true, [([], []), ([0], [0]), ([], []), ([1, 2], [1, 2]), ([3], [3]), ([], []), ([5], [5]), ([], []), ([6, 7], [6, 7]), ([8], [8]), ([4, 9], [4, 9])])
def punchcutref18_Same.B6 : List Nat := [0, 1, 0, 7, 15, 0, 32, 0, 224, 480, 1023]
theorem punchcutref18_Same.tab6 : rtab .any (opsOf Tryz.f19 6) = punchcutref18_Same.T6 := by kernel_rfl
theorem punchcutref18_Same.bits6 : waitsOk punchcutref18_Same.T6.2 punchcutref18_Same.B6 = true := by kernel_rfl
def punchcutref18_Same.T12 : Bool × List (List Nat × List Nat) := (true, [([], []), ([0], [0]), ([], []), ([1, 2], [1, 2]), ([3], [3]), ([], []), ([5], [5]), ([], []), ([6, 7], [6, 7]), ([8], [8]), ([4, 9], [4, 9]), ([10], [10])])
def punchcutref18_Same.B12 : List Nat := [0, 1, 0, 7, 15, 0, 32, 0, 224, 480, 1023, 2047]
theorem punchcutref18_Same.tab12 : rtab .any (opsOf Tryz.f19 12) = punchcutref18_Same.T12 := by kernel_rfl
theorem punchcutref18_Same.bits12 : waitsOk punchcutref18_Same.T12.2 punchcutref18_Same.B12 = true := by kernel_rfl
set_option maxHeartbeats 8000000 in
set_option maxRecDepth 100000 in
theorem punchcutref18_Same.calls (k : Nat) : ∀ (a0_0 : Int) (a0_1 : Int) (a0_2 : Int) (a0_3 : ByteArray) (A0_4 : Option Addr) (c0_4 : Nat) (l0_4 : List (S28)) (A0_5 : Option Addr) (c0_5 : Nat) (l0_5 : List ByteArray) (a1_0 : Int) (a1_1 : Int) (a1_2 : Int) (a1_3 : ByteArray) (A1_4 : Option Addr) (c1_4 : Nat) (l1_4 : List (S28)) (A1_5 : Option Addr) (c1_5 : Nat) (l1_5 : List ByteArray) (r : Bool) (w : World) (hr0_4 : Kd.C k34 w A0_4 l0_4.length l0_4) (hc0_4 : l0_4.length ≤ c0_4) (hr0_5 : Kd.C Kd.string w A0_5 l0_5.length l0_5) (hc0_5 : l0_5.length ≤ c0_5) (hr1_4 : Kd.C k34 w A1_4 l1_4.length l1_4) (hc1_4 : l1_4.length ≤ c1_4) (hr1_5 : Kd.C Kd.string w A1_5 l1_5.length l1_5) (hc1_5 : l1_5.length ≤ c1_5) (h : punchcutref18_Same.f k a0_0 a0_1 a0_2 a0_3 l0_4 l0_5 a1_0 a1_1 a1_2 a1_3 l1_4 l1_5 = some r),
    Calls Tryz.prog 19 #[.agg #[.int .u8 a0_0, .int .i64 a0_1, .int .i64 a0_2, .string a0_3, .slice A0_4 l0_4.length c0_4, .slice A0_5 l0_5.length c0_5], .agg #[.int .u8 a1_0, .int .i64 a1_1, .int .i64 a1_2, .string a1_3, .slice A1_4 l1_4.length c1_4, .slice A1_5 l1_5.length c1_5]] w fun e w' => e = .returned (.bool r) ∧ Below w.heap.size w w' := by
  induction k using Nat.strongRecOn with
  | _ k ih =>
  intro a0_0 a0_1 a0_2 a0_3 A0_4 c0_4 l0_4 A0_5 c0_5 l0_5 a1_0 a1_1 a1_2 a1_3 A1_4 c1_4 l1_4 A1_5 c1_5 l1_5 r w hr0_4 hc0_4 hr0_5 hc0_5 hr1_4 hc1_4 hr1_5 hc1_5 h
  cases k with
  | zero => exact absurd h (by simp [punchcutref18_Same.f])
  | succ k =>
  simp only [punchcutref18_Same.f] at h
  have hu34 := Tryz.underlying34
  have HR0_4 := Aside0.mk hr0_4
  have HC0_4 := Aside0.mk hc0_4
  clear hr0_4 hc0_4
  have HR0_5 := Aside0.mk hr0_5
  have HC0_5 := Aside0.mk hc0_5
  clear hr0_5 hc0_5
  have HR1_4 := Aside0.mk hr1_4
  have HC1_4 := Aside0.mk hc1_4
  clear hr1_4 hc1_4
  have HR1_5 := Aside0.mk hr1_5
  have HC1_5 := Aside0.mk hc1_5
  clear hr1_5 hc1_5
  have HB := Aside0.mk (Below.refl w.heap.size w)
  have H : (if a0_0 = a1_0 then (if a0_1 = a1_1 then (if a0_2 = a1_2 then (if a0_3.toList = a1_3.toList then (if (l0_4.length : Int) = (l1_4.length : Int) then (punchcutref18_Same.j0 k ((l0_5.length : Int) != (l1_5.length : Int)) a0_0 a0_1 a0_2 a0_3 l0_4 l0_5 a1_0 a1_1 a1_2 a1_3 l1_4 l1_5) else (punchcutref18_Same.j0 k true a0_0 a0_1 a0_2 a0_3 l0_4 l0_5 a1_0 a1_1 a1_2 a1_3 l1_4 l1_5)) else (punchcutref18_Same.j0 k true a0_0 a0_1 a0_2 a0_3 l0_4 l0_5 a1_0 a1_1 a1_2 a1_3 l1_4 l1_5)) else (punchcutref18_Same.j0 k true a0_0 a0_1 a0_2 a0_3 l0_4 l0_5 a1_0 a1_1 a1_2 a1_3 l1_4 l1_5)) else (punchcutref18_Same.j0 k true a0_0 a0_1 a0_2 a0_3 l0_4 l0_5 a1_0 a1_1 a1_2 a1_3 l1_4 l1_5)) else (punchcutref18_Same.j0 k true a0_0 a0_1 a0_2 a0_3 l0_4 l0_5 a1_0 a1_1 a1_2 a1_3 l1_4 l1_5)) = some r := h
  clear h
  have HC3 := Aside0.mk H
  clear H
  go_enter Tryz.func19, Tryz.ntmps19
  go_upto_region 1 with (first | ((with_reducible refine gate_dst (N := 2) rfl ?_); (try (refine gate_guard (by rfl) ?_; dsimp only)); refine box_event ?hg (N := 2) ?hd (cs := #[.int .u8 a0_0, .int .i64 a0_1, .int .i64 a0_2, .string a0_3, .slice A0_4 l0_4.length c0_4, .slice A0_5 l0_5.length c0_5]) (t := 34) ?hr ?_; (case hd => rfl); (case hg => rfl); (case hr => first | (go_simp; done) | (go_simp; rfl)); intro gb241 hg w4 hbox hb; have n0_ := Aside0.mk (below_step (by repeat (first | (with_reducible first | exact HB.out | apply below_alloc | apply pw_below_drewN | apply below_drew1) | exact HB.out)) hb); have n1_ := Aside0.mk (hbox); have n2_ := Aside0.mk ((by rw [hg]; exact (below_size (by repeat (first | (with_reducible first | exact HB.out | apply below_alloc | apply pw_below_drewN | apply below_drew1) | exact HB.out))) : w.heap.size ≤ gb241)); have n3_ := Aside0.mk ((by rw [hg]; exact (below_size (by repeat (first | (with_reducible first | exact HB.out | apply below_alloc | apply pw_below_drewN | apply below_drew1) | exact HB.out))) : w.heap.size ≤ gb241)); clear HB; have HB := n0_; have BK241 := n1_; have GW241 := n2_; have GE241 := n3_; clear n0_ n1_ n2_ n3_; clear hb hbox hg) | ((with_reducible refine gate_dst (N := 3) rfl ?_); (try (refine gate_guard (by rfl) ?_; dsimp only)); refine box_event ?hg (N := 3) ?hd (cs := #[.int .u8 a1_0, .int .i64 a1_1, .int .i64 a1_2, .string a1_3, .slice A1_4 l1_4.length c1_4, .slice A1_5 l1_5.length c1_5]) (t := 34) ?hr ?_; (case hd => rfl); (case hg => rfl); (case hr => first | (go_simp; done) | (go_simp; rfl)); intro gb242 hg w5 hbox hb; have n0_ := Aside0.mk (blk_below (g := gb241) (o := .cells #[.int .u8 a0_0, .int .i64 a0_1, .int .i64 a0_2, .string a0_3, .slice A0_4 l0_4.length c0_4, .slice A0_5 l0_5.length c0_5] 34 (0, 0)) (by (with_reducible repeat (first | refine blk_drewN ?_ _ | refine blk_drew ?_ | refine blk_alloc ?_ _)); exact BK241.out) hb); have n1_ := Aside0.mk (below_step (by repeat (first | (with_reducible first | exact HB.out | apply below_alloc | apply pw_below_drewN | apply below_drew1 | refine below_set ?_ GE241.out) | exact HB.out)) hb); have n2_ := Aside0.mk (hbox); have n3_ := Aside0.mk ((by rw [hg]; exact (below_size (by repeat (first | (with_reducible first | exact HB.out | apply below_alloc | apply pw_below_drewN | apply below_drew1 | refine below_set ?_ GE241.out) | exact HB.out))) : w.heap.size ≤ gb242)); have n4_ := Aside0.mk ((by rw [hg]; exact (below_size (by repeat (first | (with_reducible first | exact HB.out | apply below_alloc | apply pw_below_drewN | apply below_drew1 | refine below_set ?_ GE241.out) | exact HB.out))) : w.heap.size ≤ gb242)); have n5_ := Aside0.mk ((by rw [hg]; exact Nat.ne_of_lt (blk_lt (g := gb241) (o := .cells #[.int .u8 a0_0, .int .i64 a0_1, .int .i64 a0_2, .string a0_3, .slice A0_4 l0_4.length c0_4, .slice A0_5 l0_5.length c0_5] 34 (0, 0)) (by (with_reducible repeat (first | refine blk_drewN ?_ _ | refine blk_drew ?_ | refine blk_alloc ?_ _)); exact BK241.out)) : gb241 ≠ gb242)); have n6_ := Aside0.mk ((by rw [hg]; exact Nat.ne_of_gt (blk_lt (g := gb241) (o := .cells #[.int .u8 a0_0, .int .i64 a0_1, .int .i64 a0_2, .string a0_3, .slice A0_4 l0_4.length c0_4, .slice A0_5 l0_5.length c0_5] 34 (0, 0)) (by (with_reducible repeat (first | refine blk_drewN ?_ _ | refine blk_drew ?_ | refine blk_alloc ?_ _)); exact BK241.out)) : gb242 ≠ gb241)); clear BK241; clear HB; have BK241 := n0_; have HB := n1_; have BK242 := n2_; have GW242 := n3_; have GE242 := n4_; have NB241_242 := n5_; have NB242_241 := n6_; clear n0_ n1_ n2_ n3_ n4_ n5_ n6_; clear hb hbox hg))
  (try simp only [Act.put, List.setIfInBounds_toArray, List.set_cons_zero, List.set_cons_succ])
  go_cut [50] (fun v50 wc => ∃ (kq : Nat) (x50_2 : Bool), v50 = .bool x50_2 ∧ Aside0 (punchcutref18_Same.j0 kq x50_2 a0_0 a0_1 a0_2 a0_3 l0_4 l0_5 a1_0 a1_1 a1_2 a1_3 l1_4 l1_5 = some r) ∧ Aside0 (kq ≤ k) ∧ Aside0 (wc.heap[gb241]? = some (.cells #[.int .u8 a0_0, .int .i64 a0_1, .int .i64 a0_2, .string a0_3, (.slice A0_4 l0_4.length c0_4), (.slice A0_5 l0_5.length c0_5)] 34 (0, 0))) ∧ Aside0 (wc.heap[gb242]? = some (.cells #[.int .u8 a1_0, .int .i64 a1_1, .int .i64 a1_2, .string a1_3, (.slice A1_4 l1_4.length c1_4), (.slice A1_5 l1_5.length c1_5)] 34 (0, 0))) ∧ Aside0 (Below w.heap.size w wc))
  case first =>
    have H := HC3.out
    clear HC3
    by_cases c6 : a0_0 = a1_0
    · rw [if_pos c6] at H
      have c6b0 : (a0_0 == a1_0) = true := beq_iff_eq.mpr c6
      have c6b1 : (a0_0 != a1_0) = false := bne_eq_false_iff_eq.mpr c6
      clear c6
      (first | rw [c6b0] | (simp only [i64_w, i32_w]; rw [c6b0]) | skip)
      by_cases c7 : a0_1 = a1_1
      · rw [if_pos c7] at H
        have c7b0 : (a0_1 == a1_1) = true := beq_iff_eq.mpr c7
        have c7b1 : (a0_1 != a1_1) = false := bne_eq_false_iff_eq.mpr c7
        clear c7
        by_cases c8 : a0_2 = a1_2
        · rw [if_pos c8] at H
          have c8b0 : (a0_2 == a1_2) = true := beq_iff_eq.mpr c8
          have c8b1 : (a0_2 != a1_2) = false := bne_eq_false_iff_eq.mpr c8
          clear c8
          by_cases c9 : a0_3.toList = a1_3.toList
          · rw [if_pos c9] at H
            have c9b0 : (a0_3.toList == a1_3.toList) = true := beq_iff_eq.mpr c9
            have c9b1 : (a0_3.toList != a1_3.toList) = false := bne_eq_false_iff_eq.mpr c9
            clear c9
            by_cases c10 : (l0_4.length : Int) = (l1_4.length : Int)
            · rw [if_pos c10] at H
              have c10b0 : ((l0_4.length : Int) == (l1_4.length : Int)) = true := beq_iff_eq.mpr c10
              have c10b1 : ((l0_4.length : Int) != (l1_4.length : Int)) = false := bne_eq_false_iff_eq.mpr c10
              have c10b2 : (l0_4.length == l1_4.length) = true := by first | simpa using c10 | (simp at c10 ⊢; omega)
              clear c10
              have H' := Aside0.mk H
              clear H
              have hnb11 := NB241_242.out
              have hnc11 := NB242_241.out
              have hcz12_0 : w5.cell? ⟨gb241, 0, none⟩ = some (.int .u8 a0_0) := (blk_cell BK241.out 0).trans rfl
              have hcz12_1 : w5.cell? ⟨gb241, 1, none⟩ = some (.int .i64 a0_1) := (blk_cell BK241.out 1).trans rfl
              have hcz12_2 : w5.cell? ⟨gb241, 2, none⟩ = some (.int .i64 a0_2) := (blk_cell BK241.out 2).trans rfl
              have hcz12_3 : w5.cell? ⟨gb241, 3, none⟩ = some (.string a0_3) := (blk_cell BK241.out 3).trans rfl
              have hcz12_4 : w5.cell? ⟨gb241, 4, none⟩ = some (.slice A0_4 l0_4.length c0_4) := (blk_cell BK241.out 4).trans rfl
              have hcz12_5 : w5.cell? ⟨gb241, 5, none⟩ = some (.slice A0_5 l0_5.length c0_5) := (blk_cell BK241.out 5).trans rfl
              have hfz12_0 := blk_frozen BK241.out 0
              have hfz12_1 := blk_frozen BK241.out 1
              have hfz12_2 := blk_frozen BK241.out 2
              have hfz12_3 := blk_frozen BK241.out 3
              have hfz12_4 := blk_frozen BK241.out 4
              have hfz12_5 := blk_frozen BK241.out 5
              have hcz13_0 : w5.cell? ⟨gb242, 0, none⟩ = some (.int .u8 a1_0) := (blk_cell BK242.out 0).trans rfl
              have hcz13_1 : w5.cell? ⟨gb242, 1, none⟩ = some (.int .i64 a1_1) := (blk_cell BK242.out 1).trans rfl
              have hcz13_2 : w5.cell? ⟨gb242, 2, none⟩ = some (.int .i64 a1_2) := (blk_cell BK242.out 2).trans rfl
              have hcz13_3 : w5.cell? ⟨gb242, 3, none⟩ = some (.string a1_3) := (blk_cell BK242.out 3).trans rfl
              have hcz13_4 : w5.cell? ⟨gb242, 4, none⟩ = some (.slice A1_4 l1_4.length c1_4) := (blk_cell BK242.out 4).trans rfl
              have hcz13_5 : w5.cell? ⟨gb242, 5, none⟩ = some (.slice A1_5 l1_5.length c1_5) := (blk_cell BK242.out 5).trans rfl
              have hfz13_0 := blk_frozen BK242.out 0
              have hfz13_1 := blk_frozen BK242.out 1
              have hfz13_2 := blk_frozen BK242.out 2
              have hfz13_3 := blk_frozen BK242.out 3
              have hfz13_4 := blk_frozen BK242.out 4
              have hfz13_5 := blk_frozen BK242.out 5
              go_wp2
              go_meet
              case rel => exact ⟨_, (((l0_5.length : Int) != (l1_5.length : Int))), (by first | rfl | (simp; done) | (simp [*]; done)), H', ⟨by first | omega | exact Nat.le_refl _⟩, ⟨by (with_reducible repeat (first | refine blk_drewN ?_ _ | refine blk_drew ?_ | refine blk_alloc ?_ _)); exact BK241.out⟩, ⟨by (with_reducible repeat (first | refine blk_drewN ?_ _ | refine blk_drew ?_ | refine blk_alloc ?_ _)); exact BK242.out⟩, ⟨by repeat (first | (with_reducible first | exact HB.out | apply below_alloc | apply pw_below_drewN | apply below_drew1 | refine below_set ?_ GE241.out | refine below_set ?_ GE242.out) | exact HB.out)⟩⟩
            · rw [if_neg c10] at H
              have c10b0 : ((l0_4.length : Int) == (l1_4.length : Int)) = false := beq_eq_false_iff_ne.mpr c10
              have c10b1 : ((l0_4.length : Int) != (l1_4.length : Int)) = true := bne_iff_ne.mpr c10
              have c10b2 : (l0_4.length == l1_4.length) = false := by first | simpa using c10 | (simp at c10 ⊢; omega)
              have H' := Aside0.mk H
              clear H
              have hnb14 := NB241_242.out
              have hnc14 := NB242_241.out
              have hcz15_0 : w5.cell? ⟨gb241, 0, none⟩ = some (.int .u8 a0_0) := (blk_cell BK241.out 0).trans rfl
              have hcz15_1 : w5.cell? ⟨gb241, 1, none⟩ = some (.int .i64 a0_1) := (blk_cell BK241.out 1).trans rfl
              have hcz15_2 : w5.cell? ⟨gb241, 2, none⟩ = some (.int .i64 a0_2) := (blk_cell BK241.out 2).trans rfl
              have hcz15_3 : w5.cell? ⟨gb241, 3, none⟩ = some (.string a0_3) := (blk_cell BK241.out 3).trans rfl
              have hcz15_4 : w5.cell? ⟨gb241, 4, none⟩ = some (.slice A0_4 l0_4.length c0_4) := (blk_cell BK241.out 4).trans rfl
              have hcz15_5 : w5.cell? ⟨gb241, 5, none⟩ = some (.slice A0_5 l0_5.length c0_5) := (blk_cell BK241.out 5).trans rfl
              have hfz15_0 := blk_frozen BK241.out 0
              have hfz15_1 := blk_frozen BK241.out 1
              have hfz15_2 := blk_frozen BK241.out 2
              have hfz15_3 := blk_frozen BK241.out 3
              have hfz15_4 := blk_frozen BK241.out 4
              have hfz15_5 := blk_frozen BK241.out 5
              have hcz16_0 : w5.cell? ⟨gb242, 0, none⟩ = some (.int .u8 a1_0) := (blk_cell BK242.out 0).trans rfl
              have hcz16_1 : w5.cell? ⟨gb242, 1, none⟩ = some (.int .i64 a1_1) := (blk_cell BK242.out 1).trans rfl
              have hcz16_2 : w5.cell? ⟨gb242, 2, none⟩ = some (.int .i64 a1_2) := (blk_cell BK242.out 2).trans rfl
              have hcz16_3 : w5.cell? ⟨gb242, 3, none⟩ = some (.string a1_3) := (blk_cell BK242.out 3).trans rfl
              have hcz16_4 : w5.cell? ⟨gb242, 4, none⟩ = some (.slice A1_4 l1_4.length c1_4) := (blk_cell BK242.out 4).trans rfl
              have hcz16_5 : w5.cell? ⟨gb242, 5, none⟩ = some (.slice A1_5 l1_5.length c1_5) := (blk_cell BK242.out 5).trans rfl
              have hfz16_0 := blk_frozen BK242.out 0
              have hfz16_1 := blk_frozen BK242.out 1
              have hfz16_2 := blk_frozen BK242.out 2
              have hfz16_3 := blk_frozen BK242.out 3
              have hfz16_4 := blk_frozen BK242.out 4
              have hfz16_5 := blk_frozen BK242.out 5
              go_wp2
              go_meet
              case rel => exact ⟨_, (true), (by first | rfl | (simp; done) | (simp [*]; done)), H', ⟨by first | omega | exact Nat.le_refl _⟩, ⟨by (with_reducible repeat (first | refine blk_drewN ?_ _ | refine blk_drew ?_ | refine blk_alloc ?_ _)); exact BK241.out⟩, ⟨by (with_reducible repeat (first | refine blk_drewN ?_ _ | refine blk_drew ?_ | refine blk_alloc ?_ _)); exact BK242.out⟩, ⟨by repeat (first | (with_reducible first | exact HB.out | apply below_alloc | apply pw_below_drewN | apply below_drew1 | refine below_set ?_ GE241.out | refine below_set ?_ GE242.out) | exact HB.out)⟩⟩
          · rw [if_neg c9] at H
            have c9b0 : (a0_3.toList == a1_3.toList) = false := beq_eq_false_iff_ne.mpr c9
            have c9b1 : (a0_3.toList != a1_3.toList) = true := bne_iff_ne.mpr c9
            have H' := Aside0.mk H
            clear H
            have hnb17 := NB241_242.out
            have hnc17 := NB242_241.out
            have hcz18_0 : w5.cell? ⟨gb241, 0, none⟩ = some (.int .u8 a0_0) := (blk_cell BK241.out 0).trans rfl
            have hcz18_1 : w5.cell? ⟨gb241, 1, none⟩ = some (.int .i64 a0_1) := (blk_cell BK241.out 1).trans rfl
            have hcz18_2 : w5.cell? ⟨gb241, 2, none⟩ = some (.int .i64 a0_2) := (blk_cell BK241.out 2).trans rfl
            have hcz18_3 : w5.cell? ⟨gb241, 3, none⟩ = some (.string a0_3) := (blk_cell BK241.out 3).trans rfl
            have hcz18_4 : w5.cell? ⟨gb241, 4, none⟩ = some (.slice A0_4 l0_4.length c0_4) := (blk_cell BK241.out 4).trans rfl
            have hcz18_5 : w5.cell? ⟨gb241, 5, none⟩ = some (.slice A0_5 l0_5.length c0_5) := (blk_cell BK241.out 5).trans rfl
            have hfz18_0 := blk_frozen BK241.out 0
            have hfz18_1 := blk_frozen BK241.out 1
            have hfz18_2 := blk_frozen BK241.out 2
            have hfz18_3 := blk_frozen BK241.out 3
            have hfz18_4 := blk_frozen BK241.out 4
            have hfz18_5 := blk_frozen BK241.out 5
            have hcz19_0 : w5.cell? ⟨gb242, 0, none⟩ = some (.int .u8 a1_0) := (blk_cell BK242.out 0).trans rfl
            have hcz19_1 : w5.cell? ⟨gb242, 1, none⟩ = some (.int .i64 a1_1) := (blk_cell BK242.out 1).trans rfl
            have hcz19_2 : w5.cell? ⟨gb242, 2, none⟩ = some (.int .i64 a1_2) := (blk_cell BK242.out 2).trans rfl
            have hcz19_3 : w5.cell? ⟨gb242, 3, none⟩ = some (.string a1_3) := (blk_cell BK242.out 3).trans rfl
            have hcz19_4 : w5.cell? ⟨gb242, 4, none⟩ = some (.slice A1_4 l1_4.length c1_4) := (blk_cell BK242.out 4).trans rfl
            have hcz19_5 : w5.cell? ⟨gb242, 5, none⟩ = some (.slice A1_5 l1_5.length c1_5) := (blk_cell BK242.out 5).trans rfl
            have hfz19_0 := blk_frozen BK242.out 0
            have hfz19_1 := blk_frozen BK242.out 1
            have hfz19_2 := blk_frozen BK242.out 2
            have hfz19_3 := blk_frozen BK242.out 3
            have hfz19_4 := blk_frozen BK242.out 4
            have hfz19_5 := blk_frozen BK242.out 5
            go_wp2
            go_meet
            case rel => exact ⟨_, (true), (by first | rfl | (simp; done) | (simp [*]; done)), H', ⟨by first | omega | exact Nat.le_refl _⟩, ⟨by (with_reducible repeat (first | refine blk_drewN ?_ _ | refine blk_drew ?_ | refine blk_alloc ?_ _)); exact BK241.out⟩, ⟨by (with_reducible repeat (first | refine blk_drewN ?_ _ | refine blk_drew ?_ | refine blk_alloc ?_ _)); exact BK242.out⟩, ⟨by repeat (first | (with_reducible first | exact HB.out | apply below_alloc | apply pw_below_drewN | apply below_drew1 | refine below_set ?_ GE241.out | refine below_set ?_ GE242.out) | exact HB.out)⟩⟩
        · rw [if_neg c8] at H
          have c8b0 : (a0_2 == a1_2) = false := beq_eq_false_iff_ne.mpr c8
          have c8b1 : (a0_2 != a1_2) = true := bne_iff_ne.mpr c8
          have H' := Aside0.mk H
          clear H
          have hnb20 := NB241_242.out
          have hnc20 := NB242_241.out
          have hcz21_0 : w5.cell? ⟨gb241, 0, none⟩ = some (.int .u8 a0_0) := (blk_cell BK241.out 0).trans rfl
          have hcz21_1 : w5.cell? ⟨gb241, 1, none⟩ = some (.int .i64 a0_1) := (blk_cell BK241.out 1).trans rfl
          have hcz21_2 : w5.cell? ⟨gb241, 2, none⟩ = some (.int .i64 a0_2) := (blk_cell BK241.out 2).trans rfl
          have hcz21_3 : w5.cell? ⟨gb241, 3, none⟩ = some (.string a0_3) := (blk_cell BK241.out 3).trans rfl
          have hcz21_4 : w5.cell? ⟨gb241, 4, none⟩ = some (.slice A0_4 l0_4.length c0_4) := (blk_cell BK241.out 4).trans rfl
          have hcz21_5 : w5.cell? ⟨gb241, 5, none⟩ = some (.slice A0_5 l0_5.length c0_5) := (blk_cell BK241.out 5).trans rfl
          have hfz21_0 := blk_frozen BK241.out 0
          have hfz21_1 := blk_frozen BK241.out 1
          have hfz21_2 := blk_frozen BK241.out 2
          have hfz21_3 := blk_frozen BK241.out 3
          have hfz21_4 := blk_frozen BK241.out 4
          have hfz21_5 := blk_frozen BK241.out 5
          have hcz22_0 : w5.cell? ⟨gb242, 0, none⟩ = some (.int .u8 a1_0) := (blk_cell BK242.out 0).trans rfl
          have hcz22_1 : w5.cell? ⟨gb242, 1, none⟩ = some (.int .i64 a1_1) := (blk_cell BK242.out 1).trans rfl
          have hcz22_2 : w5.cell? ⟨gb242, 2, none⟩ = some (.int .i64 a1_2) := (blk_cell BK242.out 2).trans rfl
          have hcz22_3 : w5.cell? ⟨gb242, 3, none⟩ = some (.string a1_3) := (blk_cell BK242.out 3).trans rfl
          have hcz22_4 : w5.cell? ⟨gb242, 4, none⟩ = some (.slice A1_4 l1_4.length c1_4) := (blk_cell BK242.out 4).trans rfl
          have hcz22_5 : w5.cell? ⟨gb242, 5, none⟩ = some (.slice A1_5 l1_5.length c1_5) := (blk_cell BK242.out 5).trans rfl
          have hfz22_0 := blk_frozen BK242.out 0
          have hfz22_1 := blk_frozen BK242.out 1
          have hfz22_2 := blk_frozen BK242.out 2
          have hfz22_3 := blk_frozen BK242.out 3
          have hfz22_4 := blk_frozen BK242.out 4
          have hfz22_5 := blk_frozen BK242.out 5
          go_wp2
          go_meet
          case rel => exact ⟨_, (true), (by first | rfl | (simp; done) | (simp [*]; done)), H', ⟨by first | omega | exact Nat.le_refl _⟩, ⟨by (with_reducible repeat (first | refine blk_drewN ?_ _ | refine blk_drew ?_ | refine blk_alloc ?_ _)); exact BK241.out⟩, ⟨by (with_reducible repeat (first | refine blk_drewN ?_ _ | refine blk_drew ?_ | refine blk_alloc ?_ _)); exact BK242.out⟩, ⟨by repeat (first | (with_reducible first | exact HB.out | apply below_alloc | apply pw_below_drewN | apply below_drew1 | refine below_set ?_ GE241.out | refine below_set ?_ GE242.out) | exact HB.out)⟩⟩
      · rw [if_neg c7] at H
        have c7b0 : (a0_1 == a1_1) = false := beq_eq_false_iff_ne.mpr c7
        have c7b1 : (a0_1 != a1_1) = true := bne_iff_ne.mpr c7
        have H' := Aside0.mk H
        clear H
        have hnb23 := NB241_242.out
        have hnc23 := NB242_241.out
        have hcz24_0 : w5.cell? ⟨gb241, 0, none⟩ = some (.int .u8 a0_0) := (blk_cell BK241.out 0).trans rfl
        have hcz24_1 : w5.cell? ⟨gb241, 1, none⟩ = some (.int .i64 a0_1) := (blk_cell BK241.out 1).trans rfl
        have hcz24_2 : w5.cell? ⟨gb241, 2, none⟩ = some (.int .i64 a0_2) := (blk_cell BK241.out 2).trans rfl
        have hcz24_3 : w5.cell? ⟨gb241, 3, none⟩ = some (.string a0_3) := (blk_cell BK241.out 3).trans rfl
        have hcz24_4 : w5.cell? ⟨gb241, 4, none⟩ = some (.slice A0_4 l0_4.length c0_4) := (blk_cell BK241.out 4).trans rfl
        have hcz24_5 : w5.cell? ⟨gb241, 5, none⟩ = some (.slice A0_5 l0_5.length c0_5) := (blk_cell BK241.out 5).trans rfl
        have hfz24_0 := blk_frozen BK241.out 0
        have hfz24_1 := blk_frozen BK241.out 1
        have hfz24_2 := blk_frozen BK241.out 2
        have hfz24_3 := blk_frozen BK241.out 3
        have hfz24_4 := blk_frozen BK241.out 4
        have hfz24_5 := blk_frozen BK241.out 5
        have hcz25_0 : w5.cell? ⟨gb242, 0, none⟩ = some (.int .u8 a1_0) := (blk_cell BK242.out 0).trans rfl
        have hcz25_1 : w5.cell? ⟨gb242, 1, none⟩ = some (.int .i64 a1_1) := (blk_cell BK242.out 1).trans rfl
        have hcz25_2 : w5.cell? ⟨gb242, 2, none⟩ = some (.int .i64 a1_2) := (blk_cell BK242.out 2).trans rfl
        have hcz25_3 : w5.cell? ⟨gb242, 3, none⟩ = some (.string a1_3) := (blk_cell BK242.out 3).trans rfl
        have hcz25_4 : w5.cell? ⟨gb242, 4, none⟩ = some (.slice A1_4 l1_4.length c1_4) := (blk_cell BK242.out 4).trans rfl
        have hcz25_5 : w5.cell? ⟨gb242, 5, none⟩ = some (.slice A1_5 l1_5.length c1_5) := (blk_cell BK242.out 5).trans rfl
        have hfz25_0 := blk_frozen BK242.out 0
        have hfz25_1 := blk_frozen BK242.out 1
        have hfz25_2 := blk_frozen BK242.out 2
        have hfz25_3 := blk_frozen BK242.out 3
        have hfz25_4 := blk_frozen BK242.out 4
        have hfz25_5 := blk_frozen BK242.out 5
        go_wp2
        go_meet
        case rel => exact ⟨_, (true), (by first | rfl | (simp; done) | (simp [*]; done)), H', ⟨by first | omega | exact Nat.le_refl _⟩, ⟨by (with_reducible repeat (first | refine blk_drewN ?_ _ | refine blk_drew ?_ | refine blk_alloc ?_ _)); exact BK241.out⟩, ⟨by (with_reducible repeat (first | refine blk_drewN ?_ _ | refine blk_drew ?_ | refine blk_alloc ?_ _)); exact BK242.out⟩, ⟨by repeat (first | (with_reducible first | exact HB.out | apply below_alloc | apply pw_below_drewN | apply below_drew1 | refine below_set ?_ GE241.out | refine below_set ?_ GE242.out) | exact HB.out)⟩⟩
    · rw [if_neg c6] at H
      have c6b0 : (a0_0 == a1_0) = false := beq_eq_false_iff_ne.mpr c6
      have c6b1 : (a0_0 != a1_0) = true := bne_iff_ne.mpr c6
      (first | rw [c6b0] | (simp only [i64_w, i32_w]; rw [c6b0]) | skip)
      have H' := Aside0.mk H
      clear H
      have hnb26 := NB241_242.out
      have hnc26 := NB242_241.out
      have hcz27_0 : w5.cell? ⟨gb241, 0, none⟩ = some (.int .u8 a0_0) := (blk_cell BK241.out 0).trans rfl
      have hcz27_1 : w5.cell? ⟨gb241, 1, none⟩ = some (.int .i64 a0_1) := (blk_cell BK241.out 1).trans rfl
      have hcz27_2 : w5.cell? ⟨gb241, 2, none⟩ = some (.int .i64 a0_2) := (blk_cell BK241.out 2).trans rfl
      have hcz27_3 : w5.cell? ⟨gb241, 3, none⟩ = some (.string a0_3) := (blk_cell BK241.out 3).trans rfl
      have hcz27_4 : w5.cell? ⟨gb241, 4, none⟩ = some (.slice A0_4 l0_4.length c0_4) := (blk_cell BK241.out 4).trans rfl
      have hcz27_5 : w5.cell? ⟨gb241, 5, none⟩ = some (.slice A0_5 l0_5.length c0_5) := (blk_cell BK241.out 5).trans rfl
      have hfz27_0 := blk_frozen BK241.out 0
      have hfz27_1 := blk_frozen BK241.out 1
      have hfz27_2 := blk_frozen BK241.out 2
      have hfz27_3 := blk_frozen BK241.out 3
      have hfz27_4 := blk_frozen BK241.out 4
      have hfz27_5 := blk_frozen BK241.out 5
      have hcz28_0 : w5.cell? ⟨gb242, 0, none⟩ = some (.int .u8 a1_0) := (blk_cell BK242.out 0).trans rfl
      have hcz28_1 : w5.cell? ⟨gb242, 1, none⟩ = some (.int .i64 a1_1) := (blk_cell BK242.out 1).trans rfl
      have hcz28_2 : w5.cell? ⟨gb242, 2, none⟩ = some (.int .i64 a1_2) := (blk_cell BK242.out 2).trans rfl
      have hcz28_3 : w5.cell? ⟨gb242, 3, none⟩ = some (.string a1_3) := (blk_cell BK242.out 3).trans rfl
      have hcz28_4 : w5.cell? ⟨gb242, 4, none⟩ = some (.slice A1_4 l1_4.length c1_4) := (blk_cell BK242.out 4).trans rfl
      have hcz28_5 : w5.cell? ⟨gb242, 5, none⟩ = some (.slice A1_5 l1_5.length c1_5) := (blk_cell BK242.out 5).trans rfl
      have hfz28_0 := blk_frozen BK242.out 0
      have hfz28_1 := blk_frozen BK242.out 1
      have hfz28_2 := blk_frozen BK242.out 2
      have hfz28_3 := blk_frozen BK242.out 3
      have hfz28_4 := blk_frozen BK242.out 4
      have hfz28_5 := blk_frozen BK242.out 5
      go_wp2
      go_meet
      case rel => exact ⟨_, (true), (by first | rfl | (simp; done) | (simp [*]; done)), H', ⟨by first | omega | exact Nat.le_refl _⟩, ⟨by (with_reducible repeat (first | refine blk_drewN ?_ _ | refine blk_drew ?_ | refine blk_alloc ?_ _)); exact BK241.out⟩, ⟨by (with_reducible repeat (first | refine blk_drewN ?_ _ | refine blk_drew ?_ | refine blk_alloc ?_ _)); exact BK242.out⟩, ⟨by repeat (first | (with_reducible first | exact HB.out | apply below_alloc | apply pw_below_drewN | apply below_drew1 | refine below_set ?_ GE241.out | refine below_set ?_ GE242.out) | exact HB.out)⟩⟩
  case rest =>
    clear HC3
    try clear c1
    try clear c2
    try clear p2
    try clear c6
    try clear c6b0
    try clear c6b1
    try clear c7
    try clear c7b0
    try clear c7b1
    try clear c8
    try clear c8b0
    try clear c8b1
    try clear c9
    try clear c9b0
    try clear c9b1
    try clear c10
    try clear c10b0
    try clear c10b1
    try clear c10b2
    try clear c11
    try clear c14
    try clear c17
    try clear c19
    try clear c20
    try clear c23
    try clear c26
    try clear hcz12_0
    try clear hcz12_1
    try clear hcz12_2
    try clear hcz12_3
    try clear hcz12_4
    try clear hcz12_5
    try clear hcz13_0
    try clear hcz13_1
    try clear hcz13_2
    try clear hcz13_3
    try clear hcz13_4
    try clear hcz13_5
    try clear hcz15_0
    try clear hcz15_1
    try clear hcz15_2
    try clear hcz15_3
    try clear hcz15_4
    try clear hcz15_5
    try clear hcz16_0
    try clear hcz16_1
    try clear hcz16_2
    try clear hcz16_3
    try clear hcz16_4
    try clear hcz16_5
    try clear hcz18_0
    try clear hcz18_1
    try clear hcz18_2
    try clear hcz18_3
    try clear hcz18_4
    try clear hcz18_5
    try clear hcz19_0
    try clear hcz19_1
    try clear hcz19_2
    try clear hcz19_3
    try clear hcz19_4
    try clear hcz19_5
    try clear hcz21_0
    try clear hcz21_1
    try clear hcz21_2
    try clear hcz21_3
    try clear hcz21_4
    try clear hcz21_5
    try clear hcz22_0
    try clear hcz22_1
    try clear hcz22_2
    try clear hcz22_3
    try clear hcz22_4
    try clear hcz22_5
    try clear hcz24_0
    try clear hcz24_1
    try clear hcz24_2
    try clear hcz24_3
    try clear hcz24_4
    try clear hcz24_5
    try clear hcz25_0
    try clear hcz25_1
    try clear hcz25_2
    try clear hcz25_3
    try clear hcz25_4
    try clear hcz25_5
    try clear hcz27_0
    try clear hcz27_1
    try clear hcz27_2
    try clear hcz27_3
    try clear hcz27_4
    try clear hcz27_5
    try clear hcz28_0
    try clear hcz28_1
    try clear hcz28_2
    try clear hcz28_3
    try clear hcz28_4
    try clear hcz28_5
    try clear hfz12_0
    try clear hfz12_1
    try clear hfz12_2
    try clear hfz12_3
    try clear hfz12_4
    try clear hfz12_5
    try clear hfz13_0
    try clear hfz13_1
    try clear hfz13_2
    try clear hfz13_3
    try clear hfz13_4
    try clear hfz13_5
    try clear hfz15_0
    try clear hfz15_1
    try clear hfz15_2
    try clear hfz15_3
    try clear hfz15_4
    try clear hfz15_5
    try clear hfz16_0
    try clear hfz16_1
    try clear hfz16_2
    try clear hfz16_3
    try clear hfz16_4
    try clear hfz16_5
    try clear hfz18_0
    try clear hfz18_1
    try clear hfz18_2
    try clear hfz18_3
    try clear hfz18_4
    try clear hfz18_5
    try clear hfz19_0
    try clear hfz19_1
    try clear hfz19_2
    try clear hfz19_3
    try clear hfz19_4
    try clear hfz19_5
    try clear hfz21_0
    try clear hfz21_1
    try clear hfz21_2
    try clear hfz21_3
    try clear hfz21_4
    try clear hfz21_5
    try clear hfz22_0
    try clear hfz22_1
    try clear hfz22_2
    try clear hfz22_3
    try clear hfz22_4
    try clear hfz22_5
    try clear hfz24_0
    try clear hfz24_1
    try clear hfz24_2
    try clear hfz24_3
    try clear hfz24_4
    try clear hfz24_5
    try clear hfz25_0
    try clear hfz25_1
    try clear hfz25_2
    try clear hfz25_3
    try clear hfz25_4
    try clear hfz25_5
    try clear hfz27_0
    try clear hfz27_1
    try clear hfz27_2
    try clear hfz27_3
    try clear hfz27_4
    try clear hfz27_5
    try clear hfz28_0
    try clear hfz28_1
    try clear hfz28_2
    try clear hfz28_3
    try clear hfz28_4
    try clear hfz28_5
    obtain ⟨kq, x50_2, rfl, HA, HJ2, BK241, BK242, HB⟩ := hcut
    cases kq with
    | zero => exact absurd HA.out (by simp [punchcutref18_Same.j0])
    | succ kj2 =>
      have H := HA.out
      clear HA
      simp only [punchcutref18_Same.j0] at H
      by_cases c29 : x50_2 = true
      · subst c29
        have H1 : (some false) = some r := by rw [if_pos rfl] at H; exact H
        clear H
        have H := H1
        clear H1
        obtain rfl := Option.some.inj H
        go_wp2
        go_ret
        exact ⟨by first | rfl | (simp [errW_none, errW_some] <;> rfl) | (simp [*, errW_none, errW_some] <;> rfl), by repeat (first | (with_reducible first | exact HB.out | apply below_alloc | apply pw_below_drewN | apply below_drew1 | refine below_set ?_ GE241.out | refine below_set ?_ GE242.out) | exact HB.out)⟩
      · replace c29 := Bool.eq_false_iff.mpr c29
        subst c29
        have H1 : (punchcutref18_Same.l0 kj2 (l0_5.length : Int) 0 a0_0 a0_1 a0_2 a0_3 l0_4 l0_5 a1_0 a1_1 a1_2 a1_3 l1_4 l1_5) = some r := by rw [if_neg (show ¬ (false = true) by decide)] at H; exact H
        clear H
        have H := H1
        clear H1
        have H' := Aside0.mk H
        clear H
        have hnb30 := NB241_242.out
        have hnc30 := NB242_241.out
        have hcz31_0 : wc.cell? ⟨gb241, 0, none⟩ = some (.int .u8 a0_0) := (blk_cell BK241.out 0).trans rfl
        have hcz31_1 : wc.cell? ⟨gb241, 1, none⟩ = some (.int .i64 a0_1) := (blk_cell BK241.out 1).trans rfl
        have hcz31_2 : wc.cell? ⟨gb241, 2, none⟩ = some (.int .i64 a0_2) := (blk_cell BK241.out 2).trans rfl
        have hcz31_3 : wc.cell? ⟨gb241, 3, none⟩ = some (.string a0_3) := (blk_cell BK241.out 3).trans rfl
        have hcz31_4 : wc.cell? ⟨gb241, 4, none⟩ = some (.slice A0_4 l0_4.length c0_4) := (blk_cell BK241.out 4).trans rfl
        have hcz31_5 : wc.cell? ⟨gb241, 5, none⟩ = some (.slice A0_5 l0_5.length c0_5) := (blk_cell BK241.out 5).trans rfl
        have hfz31_0 := blk_frozen BK241.out 0
        have hfz31_1 := blk_frozen BK241.out 1
        have hfz31_2 := blk_frozen BK241.out 2
        have hfz31_3 := blk_frozen BK241.out 3
        have hfz31_4 := blk_frozen BK241.out 4
        have hfz31_5 := blk_frozen BK241.out 5
        go_wp2
        go_loopg [54] kj2 (fun kq v54 w' => ∃ (x54_2 : Int), v54 = .int .i64 x54_2 ∧ Aside0 (punchcutref18_Same.l0 kq (l0_5.length : Int) x54_2 a0_0 a0_1 a0_2 a0_3 l0_4 l0_5 a1_0 a1_1 a1_2 a1_3 l1_4 l1_5 = some r) ∧ Aside0 (kq ≤ kj2) ∧ Aside0 (w'.heap[gb241]? = some (.cells #[.int .u8 a0_0, .int .i64 a0_1, .int .i64 a0_2, .string a0_3, (.slice A0_4 l0_4.length c0_4), (.slice A0_5 l0_5.length c0_5)] 34 (0, 0))) ∧ Aside0 (w'.heap[gb242]? = some (.cells #[.int .u8 a1_0, .int .i64 a1_1, .int .i64 a1_2, .string a1_3, (.slice A1_4 l1_4.length c1_4), (.slice A1_5 l1_5.length c1_5)] 34 (0, 0))) ∧ Aside0 (Below w.heap.size w w'))
        case atStart => exact ⟨(0), (by first | rfl | (simp; done) | (simp [*]; done)), H', ⟨Nat.le_refl _⟩, ⟨by (with_reducible repeat (first | refine blk_drewN ?_ _ | refine blk_drew ?_ | refine blk_alloc ?_ _)); exact BK241.out⟩, ⟨by (with_reducible repeat (first | refine blk_drewN ?_ _ | refine blk_drew ?_ | refine blk_alloc ?_ _)); exact BK242.out⟩, ⟨by repeat (first | (with_reducible first | exact HB.out | apply below_alloc | apply pw_below_drewN | apply below_drew1 | refine below_set ?_ GE241.out | refine below_set ?_ GE242.out) | exact HB.out)⟩⟩
        case round =>
          clear H'
          try clear c1
          try clear c2
          try clear p2
          try clear c3
          try clear c6
          try clear c6b0
          try clear c6b1
          try clear c7
          try clear c7b0
          try clear c7b1
          try clear c8
          try clear c8b0
          try clear c8b1
          try clear c9
          try clear c9b0
          try clear c9b1
          try clear c10
          try clear c10b0
          try clear c10b1
          try clear c10b2
          try clear c11
          try clear c14
          try clear c17
          try clear c19
          try clear c20
          try clear c23
          try clear c26
          try clear c29
          try clear c30
          try clear hcz12_0
          try clear hcz12_1
          try clear hcz12_2
          try clear hcz12_3
          try clear hcz12_4
          try clear hcz12_5
          try clear hcz13_0
          try clear hcz13_1
          try clear hcz13_2
          try clear hcz13_3
          try clear hcz13_4
          try clear hcz13_5
          try clear hcz15_0
          try clear hcz15_1
          try clear hcz15_2
          try clear hcz15_3
          try clear hcz15_4
          try clear hcz15_5
          try clear hcz16_0
          try clear hcz16_1
          try clear hcz16_2
          try clear hcz16_3
          try clear hcz16_4
          try clear hcz16_5
          try clear hcz18_0
          try clear hcz18_1
          try clear hcz18_2
          try clear hcz18_3
          try clear hcz18_4
          try clear hcz18_5
          try clear hcz19_0
          try clear hcz19_1
          try clear hcz19_2
          try clear hcz19_3
          try clear hcz19_4
          try clear hcz19_5
          try clear hcz21_0
          try clear hcz21_1
          try clear hcz21_2
          try clear hcz21_3
          try clear hcz21_4
          try clear hcz21_5
          try clear hcz22_0
          try clear hcz22_1
          try clear hcz22_2
          try clear hcz22_3
          try clear hcz22_4
          try clear hcz22_5
          try clear hcz24_0
          try clear hcz24_1
          try clear hcz24_2
          try clear hcz24_3
          try clear hcz24_4
          try clear hcz24_5
          try clear hcz25_0
          try clear hcz25_1
          try clear hcz25_2
          try clear hcz25_3
          try clear hcz25_4
          try clear hcz25_5
          try clear hcz27_0
          try clear hcz27_1
          try clear hcz27_2
          try clear hcz27_3
          try clear hcz27_4
          try clear hcz27_5
          try clear hcz28_0
          try clear hcz28_1
          try clear hcz28_2
          try clear hcz28_3
          try clear hcz28_4
          try clear hcz28_5
          try clear hcz31_0
          try clear hcz31_1
          try clear hcz31_2
          try clear hcz31_3
          try clear hcz31_4
          try clear hcz31_5
          try clear hfz12_0
          try clear hfz12_1
          try clear hfz12_2
          try clear hfz12_3
          try clear hfz12_4
          try clear hfz12_5
          try clear hfz13_0
          try clear hfz13_1
          try clear hfz13_2
          try clear hfz13_3
          try clear hfz13_4
          try clear hfz13_5
          try clear hfz15_0
          try clear hfz15_1
          try clear hfz15_2
          try clear hfz15_3
          try clear hfz15_4
          try clear hfz15_5
          try clear hfz16_0
          try clear hfz16_1
          try clear hfz16_2
          try clear hfz16_3
          try clear hfz16_4
          try clear hfz16_5
          try clear hfz18_0
          try clear hfz18_1
          try clear hfz18_2
          try clear hfz18_3
          try clear hfz18_4
          try clear hfz18_5
          try clear hfz19_0
          try clear hfz19_1
          try clear hfz19_2
          try clear hfz19_3
          try clear hfz19_4
          try clear hfz19_5
          try clear hfz21_0
          try clear hfz21_1
          try clear hfz21_2
          try clear hfz21_3
          try clear hfz21_4
          try clear hfz21_5
          try clear hfz22_0
          try clear hfz22_1
          try clear hfz22_2
          try clear hfz22_3
          try clear hfz22_4
          try clear hfz22_5
          try clear hfz24_0
          try clear hfz24_1
          try clear hfz24_2
          try clear hfz24_3
          try clear hfz24_4
          try clear hfz24_5
          try clear hfz25_0
          try clear hfz25_1
          try clear hfz25_2
          try clear hfz25_3
          try clear hfz25_4
          try clear hfz25_5
          try clear hfz27_0
          try clear hfz27_1
          try clear hfz27_2
          try clear hfz27_3
          try clear hfz27_4
          try clear hfz27_5
          try clear hfz28_0
          try clear hfz28_1
          try clear hfz28_2
          try clear hfz28_3
          try clear hfz28_4
          try clear hfz28_5
          try clear hfz31_0
          try clear hfz31_1
          try clear hfz31_2
          try clear hfz31_3
          try clear hfz31_4
          try clear hfz31_5
          try clear p2
          obtain ⟨x54_2, rfl, HA, HK2, BK241, BK242, HB⟩ := hrel
          cases gk with
          | zero => exact absurd HA.out (by simp [punchcutref18_Same.l0])
          | succ k2 =>
            have H := HA.out
            clear HA
            simp only [punchcutref18_Same.l0] at H
            by_cases c32 : x54_2 < (l0_5.length : Int)
            · rw [if_pos c32] at H
              have c32b0 : decide (x54_2 < (l0_5.length : Int)) = true := decide_eq_true c32
              clear c32
              by_cases c33 : 0 ≤ x54_2
              · rw [if_pos c33] at H
                have c33b0 : decide (0 ≤ x54_2) = true := decide_eq_true c33
                clear c33
                by_cases c34 : x54_2 < (l0_5.length : Int)
                · rw [if_pos c34] at H
                  have c34b0 : decide (x54_2 < (l0_5.length : Int)) = true := decide_eq_true c34
                  clear c34
                  by_cases c35 : x54_2 < (l1_5.length : Int)
                  · rw [if_pos c35] at H
                    have c35b0 : decide (x54_2 < (l1_5.length : Int)) = true := decide_eq_true c35
                    clear c35
                    by_cases c36 : (rdOf ByteArray.empty l0_5 x54_2).toList = (rdOf ByteArray.empty l1_5 x54_2).toList
                    · rw [if_pos c36] at H
                      have c36b0 : ((rdOf ByteArray.empty l0_5 x54_2).toList == (rdOf ByteArray.empty l1_5 x54_2).toList) = true := beq_iff_eq.mpr c36
                      have c36b1 : ((rdOf ByteArray.empty l0_5 x54_2).toList != (rdOf ByteArray.empty l1_5 x54_2).toList) = false := bne_eq_false_iff_eq.mpr c36
                      clear c36
                      have H' := Aside0.mk H
                      clear H
                      try go_wp2
                      have n0_ := Aside0.mk (blk_drew BK241.out)
                      have n1_ := Aside0.mk (blk_drew BK242.out)
                      have n2_ := Aside0.mk (below_drew1 HB.out)
                      clear BK241
                      clear BK242
                      clear HB
                      have BK241 := n0_
                      have BK242 := n1_
                      have HB := n2_
                      clear n0_ n1_ n2_
                      have p243 : 0 ≤ (x54_2 : Int) := of_decide_eq_true (by first | (with_reducible assumption) | assumption)
                      have q243 : x54_2 < (l0_5.length : Int) := of_decide_eq_true (by first | (with_reducible assumption) | assumption)
                      obtain ⟨ad243, e243, hx243_0⟩ := Kd.at_string HR0_5.out x54_2 p243 q243
                      have hw243_0 := hx243_0
                      cases e243
                      replace hx243_0 := (HB.out.cell (World.block_lt_of_cell? w _ hx243_0)).trans hx243_0
                      replace p243 := eq_true p243
                      replace q243 := eq_true q243
                      have p244 : 0 ≤ (x54_2 : Int) := of_decide_eq_true (by first | (with_reducible assumption) | assumption)
                      have q244 : x54_2 < (l1_5.length : Int) := of_decide_eq_true (by first | (with_reducible assumption) | assumption)
                      obtain ⟨ad244, e244, hx244_0⟩ := Kd.at_string HR1_5.out x54_2 p244 q244
                      have hw244_0 := hx244_0
                      cases e244
                      replace hx244_0 := (HB.out.cell (World.block_lt_of_cell? w _ hx244_0)).trans hx244_0
                      replace p244 := eq_true p244
                      replace q244 := eq_true q244
                      refine start_ (n := 11) (S := fun w' => w'.cell? ⟨gb241, 0, none⟩ = some (.int .u8 a0_0) ∧ w'.cell? ⟨gb241, 1, none⟩ = some (.int .i64 a0_1) ∧ w'.cell? ⟨gb241, 2, none⟩ = some (.int .i64 a0_2) ∧ w'.cell? ⟨gb241, 3, none⟩ = some (.string a0_3) ∧ w'.cell? ⟨gb241, 4, none⟩ = some (.slice A0_4 l0_4.length c0_4) ∧ w'.cell? ⟨gb241, 5, none⟩ = some (.slice (some ad243) l0_5.length c0_5) ∧ w'.cell? ⟨gb242, 0, none⟩ = some (.int .u8 a1_0) ∧ w'.cell? ⟨gb242, 1, none⟩ = some (.int .i64 a1_1) ∧ w'.cell? ⟨gb242, 2, none⟩ = some (.int .i64 a1_2) ∧ w'.cell? ⟨gb242, 3, none⟩ = some (.string a1_3) ∧ w'.cell? ⟨gb242, 4, none⟩ = some (.slice A1_4 l1_4.length c1_4) ∧ w'.cell? ⟨gb242, 5, none⟩ = some (.slice (some ad244) l1_5.length c1_5) ∧ w'.cell? (ad243.add (x54_2).toNat) = some (.string (rdOf ByteArray.empty l0_5 x54_2)) ∧ w'.cell? (ad244.add (x54_2).toNat) = some (.string (rdOf ByteArray.empty l1_5 x54_2))) (ds := []) #[false, false, false, false, false, false, false, false, false, false, false] (by kernel_rfl) rfl rfl ⟨(blk_cell BK241.out 0).trans rfl, (blk_cell BK241.out 1).trans rfl, (blk_cell BK241.out 2).trans rfl, (blk_cell BK241.out 3).trans rfl, (blk_cell BK241.out 4).trans rfl, (blk_cell BK241.out 5).trans rfl, (blk_cell BK242.out 0).trans rfl, (blk_cell BK242.out 1).trans rfl, (blk_cell BK242.out 2).trans rfl, (blk_cell BK242.out 3).trans rfl, (blk_cell BK242.out 4).trans rfl, (blk_cell BK242.out 5).trans rfl, ((HB.out.cell (World.block_lt_of_cell? w _ hw243_0)).trans hw243_0), ((HB.out.cell (World.block_lt_of_cell? w _ hw244_0)).trans hw244_0)⟩ (fun hHeld => ?_); refine with_tabW punchcutref18_Same.tab6 punchcutref18_Same.bits6 (fun HT_ HW_ => ?_)
                      generalize wr.drew = w37 at BK241 BK242 HB hx243_0 hx244_0 hHeld ⊢
                      refine pure_ (i := 0) (N := some 57) (v := ?_) (a' := ?_) #[true, false, false, false, false, false, false, false, false, false, false] rfl rfl (any_of HT_.out (by kernel_rfl)) (fun _ _ _ h => h) (Or.inl ⟨by rfl, ?_⟩) ?_ ?_
                      rotate_left
                      · intro w'
                        go_simp
                        with_reducible rfl
                      rotate_left
                      · simp only [Act.put, List.setIfInBounds_toArray, List.set_cons_zero, List.set_cons_succ, i64_w, i32_w]
                        rfl
                      refine pure_ (i := 2) (N := some 59) (v := ?_) (a' := ?_) #[true, false, true, false, false, false, false, false, false, false, false] rfl rfl (any_of HT_.out (by kernel_rfl)) (fun _ _ _ h => h) (Or.inl ⟨by rfl, ?_⟩) ?_ ?_
                      rotate_left
                      · intro w'
                        go_simp
                        with_reducible rfl
                      rotate_left
                      · simp only [Act.put, List.setIfInBounds_toArray, List.set_cons_zero, List.set_cons_succ, i64_w, i32_w]
                        rfl
                      refine pure_ (i := 5) (N := some 62) (v := ?_) (a' := ?_) #[true, false, true, false, false, true, false, false, false, false, false] rfl rfl (any_of HT_.out (by kernel_rfl)) (fun _ _ _ h => h) (Or.inl ⟨by rfl, ?_⟩) ?_ ?_
                      rotate_left
                      · intro w'
                        go_simp
                        with_reducible rfl
                      rotate_left
                      · simp only [Act.put, List.setIfInBounds_toArray, List.set_cons_zero, List.set_cons_succ, i64_w, i32_w]
                        rfl
                      refine pure_ (i := 7) (N := some 64) (v := ?_) (a' := ?_) #[true, false, true, false, false, true, false, true, false, false, false] rfl rfl (any_of HT_.out (by kernel_rfl)) (fun _ _ _ h => h) (Or.inl ⟨by rfl, ?_⟩) ?_ ?_
                      rotate_left
                      · intro w'
                        go_simp
                        with_reducible rfl
                      rotate_left
                      · simp only [Act.put, List.setIfInBounds_toArray, List.set_cons_zero, List.set_cons_succ, i64_w, i32_w]
                        rfl
                      refine take_ (i := 1) (N := some 58) (v := ?_) (a' := ?_) #[true, true, true, false, false, true, false, true, false, false, false] rfl rfl (take_ofW HT_.out HW_.out (by kernel_rfl)) (fun _ _ _ h => h) (Or.inl ⟨by rfl, ?_⟩) hHeld ?_ ?_
                      rotate_left
                      · rintro w' ⟨s0, s1, s2, s3, s4, s5, s6, s7, s8, s9, s10, s11, s12, s13⟩
                        go_simp
                        with_reducible rfl
                      rotate_left
                      · simp only [Act.put, List.setIfInBounds_toArray, List.set_cons_zero, List.set_cons_succ, i64_w, i32_w]
                        rfl
                      refine pure_ (i := 3) (N := some 60) (v := ?_) (a' := ?_) #[true, true, true, true, false, true, false, true, false, false, false] rfl rfl (any_of HT_.out (by kernel_rfl)) (fun _ _ _ h => h) (Or.inl ⟨by rfl, ?_⟩) ?_ ?_
                      rotate_left
                      · intro w'
                        go_simp
                        with_reducible rfl
                      rotate_left
                      · simp only [Act.put, List.setIfInBounds_toArray, List.set_cons_zero, List.set_cons_succ, i64_w, i32_w]
                        rfl
                      refine take_ (i := 4) (N := some 61) (v := ?_) (a' := ?_) #[true, true, true, true, true, true, false, true, false, false, false] rfl rfl (take_ofW HT_.out HW_.out (by kernel_rfl)) (fun _ _ _ h => h) (Or.inl ⟨by rfl, ?_⟩) hHeld ?_ ?_
                      rotate_left
                      · rintro w' ⟨s0, s1, s2, s3, s4, s5, s6, s7, s8, s9, s10, s11, s12, s13⟩
                        go_simp
                        with_reducible rfl
                      rotate_left
                      · simp only [Act.put, List.setIfInBounds_toArray, List.set_cons_zero, List.set_cons_succ, i64_w, i32_w]
                        rfl
                      refine take_ (i := 6) (N := some 63) (v := ?_) (a' := ?_) #[true, true, true, true, true, true, true, true, false, false, false] rfl rfl (take_ofW HT_.out HW_.out (by kernel_rfl)) (fun _ _ _ h => h) (Or.inl ⟨by rfl, ?_⟩) hHeld ?_ ?_
                      rotate_left
                      · rintro w' ⟨s0, s1, s2, s3, s4, s5, s6, s7, s8, s9, s10, s11, s12, s13⟩
                        go_simp
                        with_reducible rfl
                      rotate_left
                      · simp only [Act.put, List.setIfInBounds_toArray, List.set_cons_zero, List.set_cons_succ, i64_w, i32_w]
                        rfl
                      refine pure_ (i := 8) (N := some 65) (v := ?_) (a' := ?_) #[true, true, true, true, true, true, true, true, true, false, false] rfl rfl (any_of HT_.out (by kernel_rfl)) (fun _ _ _ h => h) (Or.inl ⟨by rfl, ?_⟩) ?_ ?_
                      rotate_left
                      · intro w'
                        go_simp
                        with_reducible rfl
                      rotate_left
                      · simp only [Act.put, List.setIfInBounds_toArray, List.set_cons_zero, List.set_cons_succ, i64_w, i32_w]
                        rfl
                      refine take_ (i := 9) (N := some 66) (v := ?_) (a' := ?_) #[true, true, true, true, true, true, true, true, true, true, false] rfl rfl (take_ofW HT_.out HW_.out (by kernel_rfl)) (fun _ _ _ h => h) (Or.inl ⟨by rfl, ?_⟩) hHeld ?_ ?_
                      rotate_left
                      · rintro w' ⟨s0, s1, s2, s3, s4, s5, s6, s7, s8, s9, s10, s11, s12, s13⟩
                        go_simp
                        with_reducible rfl
                      rotate_left
                      · simp only [Act.put, List.setIfInBounds_toArray, List.set_cons_zero, List.set_cons_succ, i64_w, i32_w]
                        rfl
                      refine pure_ (i := 10) (N := some 67) (v := ?_) (a' := ?_) #[true, true, true, true, true, true, true, true, true, true, true] rfl rfl (any_of HT_.out (by kernel_rfl)) (fun _ _ _ h => h) (Or.inl ⟨by rfl, ?_⟩) ?_ ?_
                      rotate_left
                      · intro w'
                        go_simp
                        with_reducible rfl
                      rotate_left
                      · simp only [Act.put, List.setIfInBounds_toArray, List.set_cons_zero, List.set_cons_succ, i64_w, i32_w]
                        rfl
                      refine done_ (done_of HT_.out (by kernel_rfl)) ?_
                      try go_wp2
                      go_roundg k2
                      case measure => have := HJ2.out; have := HK2.out; omega
                      case rel => exact ⟨(wrap64 (x54_2 + 1)), (by first | rfl | (simp; done) | (simp [*]; done)), H', ⟨by have := HJ2.out; have := HK2.out; omega⟩, ⟨by (with_reducible repeat (first | refine blk_drewN ?_ _ | refine blk_drew ?_ | refine blk_alloc ?_ _)); exact BK241.out⟩, ⟨by (with_reducible repeat (first | refine blk_drewN ?_ _ | refine blk_drew ?_ | refine blk_alloc ?_ _)); exact BK242.out⟩, ⟨by repeat (first | (with_reducible first | exact HB.out | apply below_alloc | apply pw_below_drewN | apply below_drew1 | refine below_set ?_ GE241.out | refine below_set ?_ GE242.out) | exact HB.out)⟩⟩
                    · rw [if_neg c36] at H
                      have c36b0 : ((rdOf ByteArray.empty l0_5 x54_2).toList == (rdOf ByteArray.empty l1_5 x54_2).toList) = false := beq_eq_false_iff_ne.mpr c36
                      have c36b1 : ((rdOf ByteArray.empty l0_5 x54_2).toList != (rdOf ByteArray.empty l1_5 x54_2).toList) = true := bne_iff_ne.mpr c36
                      obtain rfl := Option.some.inj H
                      try go_wp2
                      have n0_ := Aside0.mk (blk_drew BK241.out)
                      have n1_ := Aside0.mk (blk_drew BK242.out)
                      have n2_ := Aside0.mk (below_drew1 HB.out)
                      clear BK241
                      clear BK242
                      clear HB
                      have BK241 := n0_
                      have BK242 := n1_
                      have HB := n2_
                      clear n0_ n1_ n2_
                      have p243 : 0 ≤ (x54_2 : Int) := of_decide_eq_true (by first | (with_reducible assumption) | assumption)
                      have q243 : x54_2 < (l0_5.length : Int) := of_decide_eq_true (by first | (with_reducible assumption) | assumption)
                      obtain ⟨ad243, e243, hx243_0⟩ := Kd.at_string HR0_5.out x54_2 p243 q243
                      have hw243_0 := hx243_0
                      cases e243
                      replace hx243_0 := (HB.out.cell (World.block_lt_of_cell? w _ hx243_0)).trans hx243_0
                      replace p243 := eq_true p243
                      replace q243 := eq_true q243
                      have p244 : 0 ≤ (x54_2 : Int) := of_decide_eq_true (by first | (with_reducible assumption) | assumption)
                      have q244 : x54_2 < (l1_5.length : Int) := of_decide_eq_true (by first | (with_reducible assumption) | assumption)
                      obtain ⟨ad244, e244, hx244_0⟩ := Kd.at_string HR1_5.out x54_2 p244 q244
                      have hw244_0 := hx244_0
                      cases e244
                      replace hx244_0 := (HB.out.cell (World.block_lt_of_cell? w _ hx244_0)).trans hx244_0
                      replace p244 := eq_true p244
                      replace q244 := eq_true q244
                      refine start_ (n := 11) (S := fun w' => w'.cell? ⟨gb241, 0, none⟩ = some (.int .u8 a0_0) ∧ w'.cell? ⟨gb241, 1, none⟩ = some (.int .i64 a0_1) ∧ w'.cell? ⟨gb241, 2, none⟩ = some (.int .i64 a0_2) ∧ w'.cell? ⟨gb241, 3, none⟩ = some (.string a0_3) ∧ w'.cell? ⟨gb241, 4, none⟩ = some (.slice A0_4 l0_4.length c0_4) ∧ w'.cell? ⟨gb241, 5, none⟩ = some (.slice (some ad243) l0_5.length c0_5) ∧ w'.cell? ⟨gb242, 0, none⟩ = some (.int .u8 a1_0) ∧ w'.cell? ⟨gb242, 1, none⟩ = some (.int .i64 a1_1) ∧ w'.cell? ⟨gb242, 2, none⟩ = some (.int .i64 a1_2) ∧ w'.cell? ⟨gb242, 3, none⟩ = some (.string a1_3) ∧ w'.cell? ⟨gb242, 4, none⟩ = some (.slice A1_4 l1_4.length c1_4) ∧ w'.cell? ⟨gb242, 5, none⟩ = some (.slice (some ad244) l1_5.length c1_5) ∧ w'.cell? (ad243.add (x54_2).toNat) = some (.string (rdOf ByteArray.empty l0_5 x54_2)) ∧ w'.cell? (ad244.add (x54_2).toNat) = some (.string (rdOf ByteArray.empty l1_5 x54_2))) (ds := []) #[false, false, false, false, false, false, false, false, false, false, false] (by kernel_rfl) rfl rfl ⟨(blk_cell BK241.out 0).trans rfl, (blk_cell BK241.out 1).trans rfl, (blk_cell BK241.out 2).trans rfl, (blk_cell BK241.out 3).trans rfl, (blk_cell BK241.out 4).trans rfl, (blk_cell BK241.out 5).trans rfl, (blk_cell BK242.out 0).trans rfl, (blk_cell BK242.out 1).trans rfl, (blk_cell BK242.out 2).trans rfl, (blk_cell BK242.out 3).trans rfl, (blk_cell BK242.out 4).trans rfl, (blk_cell BK242.out 5).trans rfl, ((HB.out.cell (World.block_lt_of_cell? w _ hw243_0)).trans hw243_0), ((HB.out.cell (World.block_lt_of_cell? w _ hw244_0)).trans hw244_0)⟩ (fun hHeld => ?_); refine with_tabW punchcutref18_Same.tab6 punchcutref18_Same.bits6 (fun HT_ HW_ => ?_)
                      generalize wr.drew = w38 at BK241 BK242 HB hx243_0 hx244_0 hHeld ⊢
                      refine pure_ (i := 0) (N := some 57) (v := ?_) (a' := ?_) #[true, false, false, false, false, false, false, false, false, false, false] rfl rfl (any_of HT_.out (by kernel_rfl)) (fun _ _ _ h => h) (Or.inl ⟨by rfl, ?_⟩) ?_ ?_
                      rotate_left
                      · intro w'
                        go_simp
                        with_reducible rfl
                      rotate_left
                      · simp only [Act.put, List.setIfInBounds_toArray, List.set_cons_zero, List.set_cons_succ, i64_w, i32_w]
                        rfl
                      refine pure_ (i := 2) (N := some 59) (v := ?_) (a' := ?_) #[true, false, true, false, false, false, false, false, false, false, false] rfl rfl (any_of HT_.out (by kernel_rfl)) (fun _ _ _ h => h) (Or.inl ⟨by rfl, ?_⟩) ?_ ?_
                      rotate_left
                      · intro w'
                        go_simp
                        with_reducible rfl
                      rotate_left
                      · simp only [Act.put, List.setIfInBounds_toArray, List.set_cons_zero, List.set_cons_succ, i64_w, i32_w]
                        rfl
                      refine pure_ (i := 5) (N := some 62) (v := ?_) (a' := ?_) #[true, false, true, false, false, true, false, false, false, false, false] rfl rfl (any_of HT_.out (by kernel_rfl)) (fun _ _ _ h => h) (Or.inl ⟨by rfl, ?_⟩) ?_ ?_
                      rotate_left
                      · intro w'
                        go_simp
                        with_reducible rfl
                      rotate_left
                      · simp only [Act.put, List.setIfInBounds_toArray, List.set_cons_zero, List.set_cons_succ, i64_w, i32_w]
                        rfl
                      refine pure_ (i := 7) (N := some 64) (v := ?_) (a' := ?_) #[true, false, true, false, false, true, false, true, false, false, false] rfl rfl (any_of HT_.out (by kernel_rfl)) (fun _ _ _ h => h) (Or.inl ⟨by rfl, ?_⟩) ?_ ?_
                      rotate_left
                      · intro w'
                        go_simp
                        with_reducible rfl
                      rotate_left
                      · simp only [Act.put, List.setIfInBounds_toArray, List.set_cons_zero, List.set_cons_succ, i64_w, i32_w]
                        rfl
                      refine take_ (i := 1) (N := some 58) (v := ?_) (a' := ?_) #[true, true, true, false, false, true, false, true, false, false, false] rfl rfl (take_ofW HT_.out HW_.out (by kernel_rfl)) (fun _ _ _ h => h) (Or.inl ⟨by rfl, ?_⟩) hHeld ?_ ?_
                      rotate_left
                      · rintro w' ⟨s0, s1, s2, s3, s4, s5, s6, s7, s8, s9, s10, s11, s12, s13⟩
                        go_simp
                        with_reducible rfl
                      rotate_left
                      · simp only [Act.put, List.setIfInBounds_toArray, List.set_cons_zero, List.set_cons_succ, i64_w, i32_w]
                        rfl
                      refine pure_ (i := 3) (N := some 60) (v := ?_) (a' := ?_) #[true, true, true, true, false, true, false, true, false, false, false] rfl rfl (any_of HT_.out (by kernel_rfl)) (fun _ _ _ h => h) (Or.inl ⟨by rfl, ?_⟩) ?_ ?_
                      rotate_left
                      · intro w'
                        go_simp
                        with_reducible rfl
                      rotate_left
                      · simp only [Act.put, List.setIfInBounds_toArray, List.set_cons_zero, List.set_cons_succ, i64_w, i32_w]
                        rfl
                      refine take_ (i := 4) (N := some 61) (v := ?_) (a' := ?_) #[true, true, true, true, true, true, false, true, false, false, false] rfl rfl (take_ofW HT_.out HW_.out (by kernel_rfl)) (fun _ _ _ h => h) (Or.inl ⟨by rfl, ?_⟩) hHeld ?_ ?_
                      rotate_left
                      · rintro w' ⟨s0, s1, s2, s3, s4, s5, s6, s7, s8, s9, s10, s11, s12, s13⟩
                        go_simp
                        with_reducible rfl
                      rotate_left
                      · simp only [Act.put, List.setIfInBounds_toArray, List.set_cons_zero, List.set_cons_succ, i64_w, i32_w]
                        rfl
                      refine take_ (i := 6) (N := some 63) (v := ?_) (a' := ?_) #[true, true, true, true, true, true, true, true, false, false, false] rfl rfl (take_ofW HT_.out HW_.out (by kernel_rfl)) (fun _ _ _ h => h) (Or.inl ⟨by rfl, ?_⟩) hHeld ?_ ?_
                      rotate_left
                      · rintro w' ⟨s0, s1, s2, s3, s4, s5, s6, s7, s8, s9, s10, s11, s12, s13⟩
                        go_simp
                        with_reducible rfl
                      rotate_left
                      · simp only [Act.put, List.setIfInBounds_toArray, List.set_cons_zero, List.set_cons_succ, i64_w, i32_w]
                        rfl
                      refine pure_ (i := 8) (N := some 65) (v := ?_) (a' := ?_) #[true, true, true, true, true, true, true, true, true, false, false] rfl rfl (any_of HT_.out (by kernel_rfl)) (fun _ _ _ h => h) (Or.inl ⟨by rfl, ?_⟩) ?_ ?_
                      rotate_left
                      · intro w'
                        go_simp
                        with_reducible rfl
                      rotate_left
                      · simp only [Act.put, List.setIfInBounds_toArray, List.set_cons_zero, List.set_cons_succ, i64_w, i32_w]
                        rfl
                      refine take_ (i := 9) (N := some 66) (v := ?_) (a' := ?_) #[true, true, true, true, true, true, true, true, true, true, false] rfl rfl (take_ofW HT_.out HW_.out (by kernel_rfl)) (fun _ _ _ h => h) (Or.inl ⟨by rfl, ?_⟩) hHeld ?_ ?_
                      rotate_left
                      · rintro w' ⟨s0, s1, s2, s3, s4, s5, s6, s7, s8, s9, s10, s11, s12, s13⟩
                        go_simp
                        with_reducible rfl
                      rotate_left
                      · simp only [Act.put, List.setIfInBounds_toArray, List.set_cons_zero, List.set_cons_succ, i64_w, i32_w]
                        rfl
                      refine pure_ (i := 10) (N := some 67) (v := ?_) (a' := ?_) #[true, true, true, true, true, true, true, true, true, true, true] rfl rfl (any_of HT_.out (by kernel_rfl)) (fun _ _ _ h => h) (Or.inl ⟨by rfl, ?_⟩) ?_ ?_
                      rotate_left
                      · intro w'
                        go_simp
                        with_reducible rfl
                      rotate_left
                      · simp only [Act.put, List.setIfInBounds_toArray, List.set_cons_zero, List.set_cons_succ, i64_w, i32_w]
                        rfl
                      refine done_ (done_of HT_.out (by kernel_rfl)) ?_
                      try go_wp2
                      go_ret
                      exact ⟨by first | rfl | (simp [errW_none, errW_some] <;> rfl) | (simp [*, errW_none, errW_some] <;> rfl), by repeat (first | (with_reducible first | exact HB.out | apply below_alloc | apply pw_below_drewN | apply below_drew1 | refine below_set ?_ GE241.out | refine below_set ?_ GE242.out) | exact HB.out)⟩
                  · rw [if_neg c35] at H
                    exact absurd H (by simp)
                · rw [if_neg c34] at H
                  exact absurd H (by simp)
              · rw [if_neg c33] at H
                exact absurd H (by simp)
            · rw [if_neg c32] at H
              have c32b0 : decide (x54_2 < (l0_5.length : Int)) = false := decide_eq_false c32
              clear c32
              have H' := Aside0.mk H
              clear H
              have hnb39 := NB241_242.out
              have hnc39 := NB242_241.out
              have hcz40_0 : wr.cell? ⟨gb241, 0, none⟩ = some (.int .u8 a0_0) := (blk_cell BK241.out 0).trans rfl
              have hcz40_1 : wr.cell? ⟨gb241, 1, none⟩ = some (.int .i64 a0_1) := (blk_cell BK241.out 1).trans rfl
              have hcz40_2 : wr.cell? ⟨gb241, 2, none⟩ = some (.int .i64 a0_2) := (blk_cell BK241.out 2).trans rfl
              have hcz40_3 : wr.cell? ⟨gb241, 3, none⟩ = some (.string a0_3) := (blk_cell BK241.out 3).trans rfl
              have hcz40_4 : wr.cell? ⟨gb241, 4, none⟩ = some (.slice A0_4 l0_4.length c0_4) := (blk_cell BK241.out 4).trans rfl
              have hcz40_5 : wr.cell? ⟨gb241, 5, none⟩ = some (.slice A0_5 l0_5.length c0_5) := (blk_cell BK241.out 5).trans rfl
              have hfz40_0 := blk_frozen BK241.out 0
              have hfz40_1 := blk_frozen BK241.out 1
              have hfz40_2 := blk_frozen BK241.out 2
              have hfz40_3 := blk_frozen BK241.out 3
              have hfz40_4 := blk_frozen BK241.out 4
              have hfz40_5 := blk_frozen BK241.out 5
              go_wp2
              go_loopg [72] k2 (fun kq v72 w' => ∃ (x72_3 : Int), v72 = .int .i64 x72_3 ∧ Aside0 (punchcutref18_Same.l1 kq (l0_4.length : Int) x72_3 a0_0 a0_1 a0_2 a0_3 l0_4 l0_5 a1_0 a1_1 a1_2 a1_3 l1_4 l1_5 = some r) ∧ Aside0 (kq ≤ k2) ∧ Aside0 (w'.heap[gb241]? = some (.cells #[.int .u8 a0_0, .int .i64 a0_1, .int .i64 a0_2, .string a0_3, (.slice A0_4 l0_4.length c0_4), (.slice A0_5 l0_5.length c0_5)] 34 (0, 0))) ∧ Aside0 (w'.heap[gb242]? = some (.cells #[.int .u8 a1_0, .int .i64 a1_1, .int .i64 a1_2, .string a1_3, (.slice A1_4 l1_4.length c1_4), (.slice A1_5 l1_5.length c1_5)] 34 (0, 0))) ∧ Aside0 (Below w.heap.size w w'))
              case atStart => exact ⟨(0), (by first | rfl | (simp; done) | (simp [*]; done)), H', ⟨Nat.le_refl _⟩, ⟨by (with_reducible repeat (first | refine blk_drewN ?_ _ | refine blk_drew ?_ | refine blk_alloc ?_ _)); exact BK241.out⟩, ⟨by (with_reducible repeat (first | refine blk_drewN ?_ _ | refine blk_drew ?_ | refine blk_alloc ?_ _)); exact BK242.out⟩, ⟨by repeat (first | (with_reducible first | exact HB.out | apply below_alloc | apply pw_below_drewN | apply below_drew1 | refine below_set ?_ GE241.out | refine below_set ?_ GE242.out) | exact HB.out)⟩⟩
              case round =>
                clear H'
                try clear c1
                try clear c2
                try clear p2
                try clear q2
                try clear hx2
                try clear c3
                try clear c6
                try clear c6b0
                try clear c6b1
                try clear p6
                try clear c7
                try clear c7b0
                try clear c7b1
                try clear c8
                try clear c8b0
                try clear c8b1
                try clear c9
                try clear c9b0
                try clear c9b1
                try clear c10
                try clear c10b0
                try clear c10b1
                try clear c10b2
                try clear c11
                try clear c14
                try clear c17
                try clear c19
                try clear c20
                try clear c23
                try clear p24
                try clear q24
                try clear hx24
                try clear c26
                try clear c29
                try clear c30
                try clear c32
                try clear c32b0
                try clear c33
                try clear c33b0
                try clear c34
                try clear c34b0
                try clear c35
                try clear c35b0
                try clear c36
                try clear c36b0
                try clear c36b1
                try clear c39
                try clear hcz12_0
                try clear hcz12_1
                try clear hcz12_2
                try clear hcz12_3
                try clear hcz12_4
                try clear hcz12_5
                try clear hcz13_0
                try clear hcz13_1
                try clear hcz13_2
                try clear hcz13_3
                try clear hcz13_4
                try clear hcz13_5
                try clear hcz15_0
                try clear hcz15_1
                try clear hcz15_2
                try clear hcz15_3
                try clear hcz15_4
                try clear hcz15_5
                try clear hcz16_0
                try clear hcz16_1
                try clear hcz16_2
                try clear hcz16_3
                try clear hcz16_4
                try clear hcz16_5
                try clear hcz18_0
                try clear hcz18_1
                try clear hcz18_2
                try clear hcz18_3
                try clear hcz18_4
                try clear hcz18_5
                try clear hcz19_0
                try clear hcz19_1
                try clear hcz19_2
                try clear hcz19_3
                try clear hcz19_4
                try clear hcz19_5
                try clear hcz21_0
                try clear hcz21_1
                try clear hcz21_2
                try clear hcz21_3
                try clear hcz21_4
                try clear hcz21_5
                try clear hcz22_0
                try clear hcz22_1
                try clear hcz22_2
                try clear hcz22_3
                try clear hcz22_4
                try clear hcz22_5
                try clear hcz24_0
                try clear hcz24_1
                try clear hcz24_2
                try clear hcz24_3
                try clear hcz24_4
                try clear hcz24_5
                try clear hcz25_0
                try clear hcz25_1
                try clear hcz25_2
                try clear hcz25_3
                try clear hcz25_4
                try clear hcz25_5
                try clear hcz27_0
                try clear hcz27_1
                try clear hcz27_2
                try clear hcz27_3
                try clear hcz27_4
                try clear hcz27_5
                try clear hcz28_0
                try clear hcz28_1
                try clear hcz28_2
                try clear hcz28_3
                try clear hcz28_4
                try clear hcz28_5
                try clear hcz31_0
                try clear hcz31_1
                try clear hcz31_2
                try clear hcz31_3
                try clear hcz31_4
                try clear hcz31_5
                try clear hcz40_0
                try clear hcz40_1
                try clear hcz40_2
                try clear hcz40_3
                try clear hcz40_4
                try clear hcz40_5
                try clear hfz12_0
                try clear hfz12_1
                try clear hfz12_2
                try clear hfz12_3
                try clear hfz12_4
                try clear hfz12_5
                try clear hfz13_0
                try clear hfz13_1
                try clear hfz13_2
                try clear hfz13_3
                try clear hfz13_4
                try clear hfz13_5
                try clear hfz15_0
                try clear hfz15_1
                try clear hfz15_2
                try clear hfz15_3
                try clear hfz15_4
                try clear hfz15_5
                try clear hfz16_0
                try clear hfz16_1
                try clear hfz16_2
                try clear hfz16_3
                try clear hfz16_4
                try clear hfz16_5
                try clear hfz18_0
                try clear hfz18_1
                try clear hfz18_2
                try clear hfz18_3
                try clear hfz18_4
                try clear hfz18_5
                try clear hfz19_0
                try clear hfz19_1
                try clear hfz19_2
                try clear hfz19_3
                try clear hfz19_4
                try clear hfz19_5
                try clear hfz21_0
                try clear hfz21_1
                try clear hfz21_2
                try clear hfz21_3
                try clear hfz21_4
                try clear hfz21_5
                try clear hfz22_0
                try clear hfz22_1
                try clear hfz22_2
                try clear hfz22_3
                try clear hfz22_4
                try clear hfz22_5
                try clear hfz24_0
                try clear hfz24_1
                try clear hfz24_2
                try clear hfz24_3
                try clear hfz24_4
                try clear hfz24_5
                try clear hfz25_0
                try clear hfz25_1
                try clear hfz25_2
                try clear hfz25_3
                try clear hfz25_4
                try clear hfz25_5
                try clear hfz27_0
                try clear hfz27_1
                try clear hfz27_2
                try clear hfz27_3
                try clear hfz27_4
                try clear hfz27_5
                try clear hfz28_0
                try clear hfz28_1
                try clear hfz28_2
                try clear hfz28_3
                try clear hfz28_4
                try clear hfz28_5
                try clear hfz31_0
                try clear hfz31_1
                try clear hfz31_2
                try clear hfz31_3
                try clear hfz31_4
                try clear hfz31_5
                try clear hfz40_0
                try clear hfz40_1
                try clear hfz40_2
                try clear hfz40_3
                try clear hfz40_4
                try clear hfz40_5
                try clear hx243_0
                try clear hx244_0
                try clear p2
                try clear p243
                try clear p244
                try clear q243
                try clear q244
                obtain ⟨x72_3, rfl, HA, HK3, BK241, BK242, HB⟩ := hrel
                cases gk with
                | zero => exact absurd HA.out (by simp [punchcutref18_Same.l1])
                | succ k3 =>
                  have H := HA.out
                  clear HA
                  simp only [punchcutref18_Same.l1] at H
                  by_cases c41 : x72_3 < (l0_4.length : Int)
                  · rw [if_pos c41] at H
                    have c41b0 : decide (x72_3 < (l0_4.length : Int)) = true := decide_eq_true c41
                    clear c41
                    by_cases c42 : 0 ≤ x72_3
                    · rw [if_pos c42] at H
                      have c42b0 : decide (0 ≤ x72_3) = true := decide_eq_true c42
                      clear c42
                      by_cases c43 : x72_3 < (l0_4.length : Int)
                      · rw [if_pos c43] at H
                        have c43b0 : decide (x72_3 < (l0_4.length : Int)) = true := decide_eq_true c43
                        clear c43
                        by_cases c44 : x72_3 < (l1_4.length : Int)
                        · rw [if_pos c44] at H
                          have c44b0 : decide (x72_3 < (l1_4.length : Int)) = true := decide_eq_true c44
                          clear c44
                          replace H := Option.bind_eq_some_iff.mp H
                          obtain ⟨t247, A450, H⟩ := H
                          replace H : (if t247 = true then (punchcutref18_Same.l1 k3 (l0_4.length : Int) (wrap64 (x72_3 + 1)) a0_0 a0_1 a0_2 a0_3 l0_4 l0_5 a1_0 a1_1 a1_2 a1_3 l1_4 l1_5) else (some false)) = some r := H
                          have A45 := Aside0.mk A450
                          clear A450
                          by_cases c46 : t247 = true
                          · subst c46
                            have H1 : (punchcutref18_Same.l1 k3 (l0_4.length : Int) (wrap64 (x72_3 + 1)) a0_0 a0_1 a0_2 a0_3 l0_4 l0_5 a1_0 a1_1 a1_2 a1_3 l1_4 l1_5) = some r := by rw [if_pos rfl] at H; exact H
                            clear H
                            have H := H1
                            clear H1
                            have H' := Aside0.mk H
                            clear H
                            try go_wp2
                            have n0_ := Aside0.mk (blk_drew BK241.out)
                            have n1_ := Aside0.mk (blk_drew BK242.out)
                            have n2_ := Aside0.mk (below_drew1 HB.out)
                            clear BK241
                            clear BK242
                            clear HB
                            have BK241 := n0_
                            have BK242 := n1_
                            have HB := n2_
                            clear n0_ n1_ n2_
                            have p245 : 0 ≤ (x72_3 : Int) := of_decide_eq_true (by first | (with_reducible assumption) | assumption)
                            have q245 : x72_3 < (l0_4.length : Int) := of_decide_eq_true (by first | (with_reducible assumption) | assumption)
                            obtain ⟨ad245, A245_4, c245_4, A245_5, c245_5, e245, hx245_0, hx245_1, hx245_2, hx245_3, hx245_4, hx245_5, hl245_4, hi245_4, hl245_5, hi245_5⟩ := at_T34 HR0_4.out x72_3 p245 q245
                            have hw245_5 := hx245_5
                            have hw245_4 := hx245_4
                            have hw245_3 := hx245_3
                            have hw245_2 := hx245_2
                            have hw245_1 := hx245_1
                            have hw245_0 := hx245_0
                            cases e245
                            replace hx245_0 := (HB.out.cell (World.block_lt_of_cell? w _ hx245_0)).trans hx245_0
                            replace hx245_1 := (HB.out.cell (World.block_lt_of_cell? w _ hx245_1)).trans hx245_1
                            replace hx245_2 := (HB.out.cell (World.block_lt_of_cell? w _ hx245_2)).trans hx245_2
                            replace hx245_3 := (HB.out.cell (World.block_lt_of_cell? w _ hx245_3)).trans hx245_3
                            replace hx245_4 := (HB.out.cell (World.block_lt_of_cell? w _ hx245_4)).trans hx245_4
                            replace hx245_5 := (HB.out.cell (World.block_lt_of_cell? w _ hx245_5)).trans hx245_5
                            have HR245_4 := Aside0.mk hi245_4
                            have HC245_4 := Aside0.mk hl245_4
                            clear hi245_4 hl245_4
                            have HR245_5 := Aside0.mk hi245_5
                            have HC245_5 := Aside0.mk hl245_5
                            clear hi245_5 hl245_5
                            replace p245 := eq_true p245
                            replace q245 := eq_true q245
                            have p246 : 0 ≤ (x72_3 : Int) := of_decide_eq_true (by first | (with_reducible assumption) | assumption)
                            have q246 : x72_3 < (l1_4.length : Int) := of_decide_eq_true (by first | (with_reducible assumption) | assumption)
                            obtain ⟨ad246, A246_4, c246_4, A246_5, c246_5, e246, hx246_0, hx246_1, hx246_2, hx246_3, hx246_4, hx246_5, hl246_4, hi246_4, hl246_5, hi246_5⟩ := at_T34 HR1_4.out x72_3 p246 q246
                            have hw246_5 := hx246_5
                            have hw246_4 := hx246_4
                            have hw246_3 := hx246_3
                            have hw246_2 := hx246_2
                            have hw246_1 := hx246_1
                            have hw246_0 := hx246_0
                            cases e246
                            replace hx246_0 := (HB.out.cell (World.block_lt_of_cell? w _ hx246_0)).trans hx246_0
                            replace hx246_1 := (HB.out.cell (World.block_lt_of_cell? w _ hx246_1)).trans hx246_1
                            replace hx246_2 := (HB.out.cell (World.block_lt_of_cell? w _ hx246_2)).trans hx246_2
                            replace hx246_3 := (HB.out.cell (World.block_lt_of_cell? w _ hx246_3)).trans hx246_3
                            replace hx246_4 := (HB.out.cell (World.block_lt_of_cell? w _ hx246_4)).trans hx246_4
                            replace hx246_5 := (HB.out.cell (World.block_lt_of_cell? w _ hx246_5)).trans hx246_5
                            have HR246_4 := Aside0.mk hi246_4
                            have HC246_4 := Aside0.mk hl246_4
                            clear hi246_4 hl246_4
                            have HR246_5 := Aside0.mk hi246_5
                            have HC246_5 := Aside0.mk hl246_5
                            clear hi246_5 hl246_5
                            replace p246 := eq_true p246
                            replace q246 := eq_true q246
                            refine start_ (n := 12) (S := fun w' => w'.cell? ⟨gb241, 0, none⟩ = some (.int .u8 a0_0) ∧ w'.cell? ⟨gb241, 1, none⟩ = some (.int .i64 a0_1) ∧ w'.cell? ⟨gb241, 2, none⟩ = some (.int .i64 a0_2) ∧ w'.cell? ⟨gb241, 3, none⟩ = some (.string a0_3) ∧ w'.cell? ⟨gb241, 4, none⟩ = some (.slice (some ad245) l0_4.length c0_4) ∧ w'.cell? ⟨gb241, 5, none⟩ = some (.slice A0_5 l0_5.length c0_5) ∧ w'.cell? ⟨gb242, 0, none⟩ = some (.int .u8 a1_0) ∧ w'.cell? ⟨gb242, 1, none⟩ = some (.int .i64 a1_1) ∧ w'.cell? ⟨gb242, 2, none⟩ = some (.int .i64 a1_2) ∧ w'.cell? ⟨gb242, 3, none⟩ = some (.string a1_3) ∧ w'.cell? ⟨gb242, 4, none⟩ = some (.slice (some ad246) l1_4.length c1_4) ∧ w'.cell? ⟨gb242, 5, none⟩ = some (.slice A1_5 l1_5.length c1_5) ∧ w'.cell? (ad245.add ((x72_3).toNat * 6)) = some (.int .u8 ((rd_T34 l0_4 x72_3).f0)) ∧ w'.cell? ⟨(ad245.add ((x72_3).toNat * 6)).block, (ad245.add ((x72_3).toNat * 6)).off + 1, none⟩ = some (.int .i64 ((rd_T34 l0_4 x72_3).f1)) ∧ w'.cell? ⟨(ad245.add ((x72_3).toNat * 6)).block, (ad245.add ((x72_3).toNat * 6)).off + 2, none⟩ = some (.int .i64 ((rd_T34 l0_4 x72_3).f2)) ∧ w'.cell? ⟨(ad245.add ((x72_3).toNat * 6)).block, (ad245.add ((x72_3).toNat * 6)).off + 3, none⟩ = some (.string ((rd_T34 l0_4 x72_3).f3)) ∧ w'.cell? ⟨(ad245.add ((x72_3).toNat * 6)).block, (ad245.add ((x72_3).toNat * 6)).off + 4, none⟩ = some (.slice A245_4 ((rd_T34 l0_4 x72_3).f4).length c245_4) ∧ w'.cell? ⟨(ad245.add ((x72_3).toNat * 6)).block, (ad245.add ((x72_3).toNat * 6)).off + 5, none⟩ = some (.slice A245_5 ((rd_T34 l0_4 x72_3).f5).length c245_5) ∧ w'.cell? (ad246.add ((x72_3).toNat * 6)) = some (.int .u8 ((rd_T34 l1_4 x72_3).f0)) ∧ w'.cell? ⟨(ad246.add ((x72_3).toNat * 6)).block, (ad246.add ((x72_3).toNat * 6)).off + 1, none⟩ = some (.int .i64 ((rd_T34 l1_4 x72_3).f1)) ∧ w'.cell? ⟨(ad246.add ((x72_3).toNat * 6)).block, (ad246.add ((x72_3).toNat * 6)).off + 2, none⟩ = some (.int .i64 ((rd_T34 l1_4 x72_3).f2)) ∧ w'.cell? ⟨(ad246.add ((x72_3).toNat * 6)).block, (ad246.add ((x72_3).toNat * 6)).off + 3, none⟩ = some (.string ((rd_T34 l1_4 x72_3).f3)) ∧ w'.cell? ⟨(ad246.add ((x72_3).toNat * 6)).block, (ad246.add ((x72_3).toNat * 6)).off + 4, none⟩ = some (.slice A246_4 ((rd_T34 l1_4 x72_3).f4).length c246_4) ∧ w'.cell? ⟨(ad246.add ((x72_3).toNat * 6)).block, (ad246.add ((x72_3).toNat * 6)).off + 5, none⟩ = some (.slice A246_5 ((rd_T34 l1_4 x72_3).f5).length c246_5)) (ds := []) #[false, false, false, false, false, false, false, false, false, false, false, false] (by kernel_rfl) rfl rfl ⟨(blk_cell BK241.out 0).trans rfl, (blk_cell BK241.out 1).trans rfl, (blk_cell BK241.out 2).trans rfl, (blk_cell BK241.out 3).trans rfl, (blk_cell BK241.out 4).trans rfl, (blk_cell BK241.out 5).trans rfl, (blk_cell BK242.out 0).trans rfl, (blk_cell BK242.out 1).trans rfl, (blk_cell BK242.out 2).trans rfl, (blk_cell BK242.out 3).trans rfl, (blk_cell BK242.out 4).trans rfl, (blk_cell BK242.out 5).trans rfl, ((HB.out.cell (World.block_lt_of_cell? w _ hw245_0)).trans hw245_0), ((HB.out.cell (World.block_lt_of_cell? w _ hw245_1)).trans hw245_1), ((HB.out.cell (World.block_lt_of_cell? w _ hw245_2)).trans hw245_2), ((HB.out.cell (World.block_lt_of_cell? w _ hw245_3)).trans hw245_3), ((HB.out.cell (World.block_lt_of_cell? w _ hw245_4)).trans hw245_4), ((HB.out.cell (World.block_lt_of_cell? w _ hw245_5)).trans hw245_5), ((HB.out.cell (World.block_lt_of_cell? w _ hw246_0)).trans hw246_0), ((HB.out.cell (World.block_lt_of_cell? w _ hw246_1)).trans hw246_1), ((HB.out.cell (World.block_lt_of_cell? w _ hw246_2)).trans hw246_2), ((HB.out.cell (World.block_lt_of_cell? w _ hw246_3)).trans hw246_3), ((HB.out.cell (World.block_lt_of_cell? w _ hw246_4)).trans hw246_4), ((HB.out.cell (World.block_lt_of_cell? w _ hw246_5)).trans hw246_5)⟩ (fun hHeld => ?_); refine with_tabW punchcutref18_Same.tab12 punchcutref18_Same.bits12 (fun HT_ HW_ => ?_)
                            generalize wr.drew = w47 at BK241 BK242 HB HR245_4 HR245_5 HR246_4 HR246_5 hx245_0 hx245_1 hx245_2 hx245_3 hx245_4 hx245_5 hx246_0 hx246_1 hx246_2 hx246_3 hx246_4 hx246_5 hHeld ⊢
                            refine pure_ (i := 0) (N := some 75) (v := ?_) (a' := ?_) #[true, false, false, false, false, false, false, false, false, false, false, false] rfl rfl (any_of HT_.out (by kernel_rfl)) (fun _ _ _ h => h) (Or.inl ⟨by rfl, ?_⟩) ?_ ?_
                            rotate_left
                            · intro w'
                              go_simp
                              with_reducible rfl
                            rotate_left
                            · simp only [Act.put, List.setIfInBounds_toArray, List.set_cons_zero, List.set_cons_succ, i64_w, i32_w]
                              rfl
                            refine pure_ (i := 2) (N := some 77) (v := ?_) (a' := ?_) #[true, false, true, false, false, false, false, false, false, false, false, false] rfl rfl (any_of HT_.out (by kernel_rfl)) (fun _ _ _ h => h) (Or.inl ⟨by rfl, ?_⟩) ?_ ?_
                            rotate_left
                            · intro w'
                              go_simp
                              with_reducible rfl
                            rotate_left
                            · simp only [Act.put, List.setIfInBounds_toArray, List.set_cons_zero, List.set_cons_succ, i64_w, i32_w]
                              rfl
                            refine pure_ (i := 5) (N := some 80) (v := ?_) (a' := ?_) #[true, false, true, false, false, true, false, false, false, false, false, false] rfl rfl (any_of HT_.out (by kernel_rfl)) (fun _ _ _ h => h) (Or.inl ⟨by rfl, ?_⟩) ?_ ?_
                            rotate_left
                            · intro w'
                              go_simp
                              with_reducible rfl
                            rotate_left
                            · simp only [Act.put, List.setIfInBounds_toArray, List.set_cons_zero, List.set_cons_succ, i64_w, i32_w]
                              rfl
                            refine pure_ (i := 7) (N := some 82) (v := ?_) (a' := ?_) #[true, false, true, false, false, true, false, true, false, false, false, false] rfl rfl (any_of HT_.out (by kernel_rfl)) (fun _ _ _ h => h) (Or.inl ⟨by rfl, ?_⟩) ?_ ?_
                            rotate_left
                            · intro w'
                              go_simp
                              with_reducible rfl
                            rotate_left
                            · simp only [Act.put, List.setIfInBounds_toArray, List.set_cons_zero, List.set_cons_succ, i64_w, i32_w]
                              rfl
                            refine take_ (i := 1) (N := some 76) (v := ?_) (a' := ?_) #[true, true, true, false, false, true, false, true, false, false, false, false] rfl rfl (take_ofW HT_.out HW_.out (by kernel_rfl)) (fun _ _ _ h => h) (Or.inl ⟨by rfl, ?_⟩) hHeld ?_ ?_
                            rotate_left
                            · rintro w' ⟨s0, s1, s2, s3, s4, s5, s6, s7, s8, s9, s10, s11, s12, s13, s14, s15, s16, s17, s18, s19, s20, s21, s22, s23⟩
                              go_simp
                              with_reducible rfl
                            rotate_left
                            · simp only [Act.put, List.setIfInBounds_toArray, List.set_cons_zero, List.set_cons_succ, i64_w, i32_w]
                              rfl
                            refine pure_ (i := 3) (N := some 78) (v := ?_) (a' := ?_) #[true, true, true, true, false, true, false, true, false, false, false, false] rfl rfl (any_of HT_.out (by kernel_rfl)) (fun _ _ _ h => h) (Or.inl ⟨by rfl, ?_⟩) ?_ ?_
                            rotate_left
                            · intro w'
                              go_simp
                              with_reducible rfl
                            rotate_left
                            · simp only [Act.put, List.setIfInBounds_toArray, List.set_cons_zero, List.set_cons_succ, i64_w, i32_w]
                              rfl
                            refine take_ (i := 4) (N := some 79) (v := ?_) (a' := ?_) #[true, true, true, true, true, true, false, true, false, false, false, false] rfl rfl (take_ofW HT_.out HW_.out (by kernel_rfl)) (fun _ _ _ h => h) (Or.inl ⟨by rfl, ?_⟩) hHeld ?_ ?_
                            rotate_left
                            · rintro w' ⟨s0, s1, s2, s3, s4, s5, s6, s7, s8, s9, s10, s11, s12, s13, s14, s15, s16, s17, s18, s19, s20, s21, s22, s23⟩
                              go_simp
                              with_reducible rfl
                            rotate_left
                            · simp only [Act.put, List.setIfInBounds_toArray, List.set_cons_zero, List.set_cons_succ, i64_w, i32_w]
                              rfl
                            refine take_ (i := 6) (N := some 81) (v := ?_) (a' := ?_) #[true, true, true, true, true, true, true, true, false, false, false, false] rfl rfl (take_ofW HT_.out HW_.out (by kernel_rfl)) (fun _ _ _ h => h) (Or.inl ⟨by rfl, ?_⟩) hHeld ?_ ?_
                            rotate_left
                            · rintro w' ⟨s0, s1, s2, s3, s4, s5, s6, s7, s8, s9, s10, s11, s12, s13, s14, s15, s16, s17, s18, s19, s20, s21, s22, s23⟩
                              go_simp
                              with_reducible rfl
                            rotate_left
                            · simp only [Act.put, List.setIfInBounds_toArray, List.set_cons_zero, List.set_cons_succ, i64_w, i32_w]
                              rfl
                            refine pure_ (i := 8) (N := some 83) (v := ?_) (a' := ?_) #[true, true, true, true, true, true, true, true, true, false, false, false] rfl rfl (any_of HT_.out (by kernel_rfl)) (fun _ _ _ h => h) (Or.inl ⟨by rfl, ?_⟩) ?_ ?_
                            rotate_left
                            · intro w'
                              go_simp
                              with_reducible rfl
                            rotate_left
                            · simp only [Act.put, List.setIfInBounds_toArray, List.set_cons_zero, List.set_cons_succ, i64_w, i32_w]
                              rfl
                            refine take_ (i := 9) (N := some 84) (v := ?_) (a' := ?_) #[true, true, true, true, true, true, true, true, true, true, false, false] rfl rfl (take_ofW HT_.out HW_.out (by kernel_rfl)) (fun _ _ _ h => h) (Or.inl ⟨by rfl, ?_⟩) hHeld ?_ ?_
                            rotate_left
                            · rintro w' ⟨s0, s1, s2, s3, s4, s5, s6, s7, s8, s9, s10, s11, s12, s13, s14, s15, s16, s17, s18, s19, s20, s21, s22, s23⟩
                              go_simp
                              with_reducible rfl
                            rotate_left
                            · simp only [Act.put, List.setIfInBounds_toArray, List.set_cons_zero, List.set_cons_succ, i64_w, i32_w]
                              rfl
                            refine one_ (i := 10) (N := some 85) #[true, true, true, true, true, true, true, true, true, true, true, false] rfl rfl (one_of HT_.out (by kernel_rfl)) (by decide) (fun K hK => ?_)
                            refine goes_ Tryz.func19 (by kernel_rfl) rfl #[.agg #[.int .u8 ((rd_T34 l0_4 x72_3).f0), .int .i64 ((rd_T34 l0_4 x72_3).f1), .int .i64 ((rd_T34 l0_4 x72_3).f2), .string ((rd_T34 l0_4 x72_3).f3), .slice A245_4 ((rd_T34 l0_4 x72_3).f4).length c245_4, .slice A245_5 ((rd_T34 l0_4 x72_3).f5).length c245_5], .agg #[.int .u8 ((rd_T34 l1_4 x72_3).f0), .int .i64 ((rd_T34 l1_4 x72_3).f1), .int .i64 ((rd_T34 l1_4 x72_3).f2), .string ((rd_T34 l1_4 x72_3).f3), .slice A246_4 ((rd_T34 l1_4 x72_3).f4).length c246_4, .slice A246_5 ((rd_T34 l1_4 x72_3).f5).length c246_5]] (by rfl) rfl rfl (by (try simp only [List.map_toArray, List.map_cons, List.map_nil]); first | done | rfl | (simp only [List.length_drop, List.length_take]; rfl)) ?_
                            with_reducible refine (ih k3 (by have := HJ2.out; have := HK2.out; have := HK3.out; omega) ((rd_T34 l0_4 x72_3).f0) ((rd_T34 l0_4 x72_3).f1) ((rd_T34 l0_4 x72_3).f2) ((rd_T34 l0_4 x72_3).f3) _ _ ((rd_T34 l0_4 x72_3).f4) _ _ ((rd_T34 l0_4 x72_3).f5) ((rd_T34 l1_4 x72_3).f0) ((rd_T34 l1_4 x72_3).f1) ((rd_T34 l1_4 x72_3).f2) ((rd_T34 l1_4 x72_3).f3) _ _ ((rd_T34 l1_4 x72_3).f4) _ _ ((rd_T34 l1_4 x72_3).f5) true _ ?side1 ?side2 ?side3 ?side4 ?side5 ?side6 ?side7 ?side8 A45.out).mono ?_
                            (case side1 => repeat (first | exact (Kd.C_below HR245_4.out HB.out) | (with_reducible refine Kd.C_alloc ?_ _) | (with_reducible refine Kd.C_drewN ?_ _) | (with_reducible refine Kd.C_drew ?_)))
                            (case side2 => exact HC245_4.out)
                            (case side3 => repeat (first | exact (Kd.C_below HR245_5.out HB.out) | (with_reducible refine Kd.C_alloc ?_ _) | (with_reducible refine Kd.C_drewN ?_ _) | (with_reducible refine Kd.C_drew ?_)))
                            (case side4 => exact HC245_5.out)
                            (case side5 => repeat (first | exact (Kd.C_below HR246_4.out HB.out) | (with_reducible refine Kd.C_alloc ?_ _) | (with_reducible refine Kd.C_drewN ?_ _) | (with_reducible refine Kd.C_drew ?_)))
                            (case side6 => exact HC246_4.out)
                            (case side7 => repeat (first | exact (Kd.C_below HR246_5.out HB.out) | (with_reducible refine Kd.C_alloc ?_ _) | (with_reducible refine Kd.C_drewN ?_ _) | (with_reducible refine Kd.C_drew ?_)))
                            (case side8 => exact HC246_5.out)
                            rintro e w48 ⟨rfl, hb⟩
                            refine ⟨_, rfl, ?_⟩
                            have n0_ := Aside0.mk (blk_below (g := gb241) (o := .cells #[.int .u8 a0_0, .int .i64 a0_1, .int .i64 a0_2, .string a0_3, .slice (some ad245) l0_4.length c0_4, .slice A0_5 l0_5.length c0_5] 34 (0, 0)) (by (with_reducible repeat (first | refine blk_drewN ?_ _ | refine blk_drew ?_ | refine blk_alloc ?_ _)); exact BK241.out) hb)
                            have n1_ := Aside0.mk (blk_below (g := gb242) (o := .cells #[.int .u8 a1_0, .int .i64 a1_1, .int .i64 a1_2, .string a1_3, .slice (some ad246) l1_4.length c1_4, .slice A1_5 l1_5.length c1_5] 34 (0, 0)) (by (with_reducible repeat (first | refine blk_drewN ?_ _ | refine blk_drew ?_ | refine blk_alloc ?_ _)); exact BK242.out) hb)
                            have n2_ := Aside0.mk (below_step (by repeat (first | (with_reducible first | exact HB.out | apply below_alloc | apply pw_below_drewN | apply below_drew1 | refine below_set ?_ GE241.out | refine below_set ?_ GE242.out) | exact HB.out)) hb)
                            clear BK241
                            clear BK242
                            clear HB
                            have BK241 := n0_
                            have BK242 := n1_
                            have HB := n2_
                            clear n0_ n1_ n2_
                            (try clear hb)
                            (try clear hb2)
                            (try clear hk)
                            (try clear hi)
                            refine hK.out _ _ ⟨(blk_cell BK241.out 0).trans rfl, (blk_cell BK241.out 1).trans rfl, (blk_cell BK241.out 2).trans rfl, (blk_cell BK241.out 3).trans rfl, (blk_cell BK241.out 4).trans rfl, (blk_cell BK241.out 5).trans rfl, (blk_cell BK242.out 0).trans rfl, (blk_cell BK242.out 1).trans rfl, (blk_cell BK242.out 2).trans rfl, (blk_cell BK242.out 3).trans rfl, (blk_cell BK242.out 4).trans rfl, (blk_cell BK242.out 5).trans rfl, ((HB.out.cell (World.block_lt_of_cell? w _ hw245_0)).trans hw245_0), ((HB.out.cell (World.block_lt_of_cell? w _ hw245_1)).trans hw245_1), ((HB.out.cell (World.block_lt_of_cell? w _ hw245_2)).trans hw245_2), ((HB.out.cell (World.block_lt_of_cell? w _ hw245_3)).trans hw245_3), ((HB.out.cell (World.block_lt_of_cell? w _ hw245_4)).trans hw245_4), ((HB.out.cell (World.block_lt_of_cell? w _ hw245_5)).trans hw245_5), ((HB.out.cell (World.block_lt_of_cell? w _ hw246_0)).trans hw246_0), ((HB.out.cell (World.block_lt_of_cell? w _ hw246_1)).trans hw246_1), ((HB.out.cell (World.block_lt_of_cell? w _ hw246_2)).trans hw246_2), ((HB.out.cell (World.block_lt_of_cell? w _ hw246_3)).trans hw246_3), ((HB.out.cell (World.block_lt_of_cell? w _ hw246_4)).trans hw246_4), ((HB.out.cell (World.block_lt_of_cell? w _ hw246_5)).trans hw246_5)⟩ (fun hHeld => ?_)
                            clear hK K
                            refine norm_ (a' := ?_) ?_ ?_
                            rotate_left
                            · show Act.put _ (some 85) _ = _
                              simp only [Act.put, List.setIfInBounds_toArray, List.set_cons_zero, List.set_cons_succ, i64_w, i32_w]
                              rfl
                            refine pure_ (i := 11) (N := some 86) (v := ?_) (a' := ?_) #[true, true, true, true, true, true, true, true, true, true, true, true] rfl rfl (any_of HT_.out (by kernel_rfl)) (fun _ _ _ h => h) (Or.inl ⟨by rfl, ?_⟩) ?_ ?_
                            rotate_left
                            · intro w'
                              go_simp
                              with_reducible rfl
                            rotate_left
                            · simp only [Act.put, List.setIfInBounds_toArray, List.set_cons_zero, List.set_cons_succ, i64_w, i32_w]
                              rfl
                            refine done_ (done_of HT_.out (by kernel_rfl)) ?_
                            try go_wp2
                            go_roundg k3
                            case measure => have := HJ2.out; have := HK2.out; have := HK3.out; omega
                            case rel => exact ⟨(wrap64 (x72_3 + 1)), (by first | rfl | (simp; done) | (simp [*]; done)), H', ⟨by have := HJ2.out; have := HK2.out; have := HK3.out; omega⟩, ⟨by (with_reducible repeat (first | refine blk_drewN ?_ _ | refine blk_drew ?_ | refine blk_alloc ?_ _)); exact BK241.out⟩, ⟨by (with_reducible repeat (first | refine blk_drewN ?_ _ | refine blk_drew ?_ | refine blk_alloc ?_ _)); exact BK242.out⟩, ⟨by repeat (first | (with_reducible first | exact HB.out | apply below_alloc | apply pw_below_drewN | apply below_drew1 | refine below_set ?_ GE241.out | refine below_set ?_ GE242.out) | exact HB.out)⟩⟩
                          · replace c46 := Bool.eq_false_iff.mpr c46
                            subst c46
                            have H1 : (some false) = some r := by rw [if_neg (show ¬ (false = true) by decide)] at H; exact H
                            clear H
                            have H := H1
                            clear H1
                            obtain rfl := Option.some.inj H
                            try go_wp2
                            have n0_ := Aside0.mk (blk_drew BK241.out)
                            have n1_ := Aside0.mk (blk_drew BK242.out)
                            have n2_ := Aside0.mk (below_drew1 HB.out)
                            clear BK241
                            clear BK242
                            clear HB
                            have BK241 := n0_
                            have BK242 := n1_
                            have HB := n2_
                            clear n0_ n1_ n2_
                            have p245 : 0 ≤ (x72_3 : Int) := of_decide_eq_true (by first | (with_reducible assumption) | assumption)
                            have q245 : x72_3 < (l0_4.length : Int) := of_decide_eq_true (by first | (with_reducible assumption) | assumption)
                            obtain ⟨ad245, A245_4, c245_4, A245_5, c245_5, e245, hx245_0, hx245_1, hx245_2, hx245_3, hx245_4, hx245_5, hl245_4, hi245_4, hl245_5, hi245_5⟩ := at_T34 HR0_4.out x72_3 p245 q245
                            have hw245_5 := hx245_5
                            have hw245_4 := hx245_4
                            have hw245_3 := hx245_3
                            have hw245_2 := hx245_2
                            have hw245_1 := hx245_1
                            have hw245_0 := hx245_0
                            cases e245
                            replace hx245_0 := (HB.out.cell (World.block_lt_of_cell? w _ hx245_0)).trans hx245_0
                            replace hx245_1 := (HB.out.cell (World.block_lt_of_cell? w _ hx245_1)).trans hx245_1
                            replace hx245_2 := (HB.out.cell (World.block_lt_of_cell? w _ hx245_2)).trans hx245_2
                            replace hx245_3 := (HB.out.cell (World.block_lt_of_cell? w _ hx245_3)).trans hx245_3
                            replace hx245_4 := (HB.out.cell (World.block_lt_of_cell? w _ hx245_4)).trans hx245_4
                            replace hx245_5 := (HB.out.cell (World.block_lt_of_cell? w _ hx245_5)).trans hx245_5
                            have HR245_4 := Aside0.mk hi245_4
                            have HC245_4 := Aside0.mk hl245_4
                            clear hi245_4 hl245_4
                            have HR245_5 := Aside0.mk hi245_5
                            have HC245_5 := Aside0.mk hl245_5
                            clear hi245_5 hl245_5
                            replace p245 := eq_true p245
                            replace q245 := eq_true q245
                            have p246 : 0 ≤ (x72_3 : Int) := of_decide_eq_true (by first | (with_reducible assumption) | assumption)
                            have q246 : x72_3 < (l1_4.length : Int) := of_decide_eq_true (by first | (with_reducible assumption) | assumption)
                            obtain ⟨ad246, A246_4, c246_4, A246_5, c246_5, e246, hx246_0, hx246_1, hx246_2, hx246_3, hx246_4, hx246_5, hl246_4, hi246_4, hl246_5, hi246_5⟩ := at_T34 HR1_4.out x72_3 p246 q246
                            have hw246_5 := hx246_5
                            have hw246_4 := hx246_4
                            have hw246_3 := hx246_3
                            have hw246_2 := hx246_2
                            have hw246_1 := hx246_1
                            have hw246_0 := hx246_0
                            cases e246
                            replace hx246_0 := (HB.out.cell (World.block_lt_of_cell? w _ hx246_0)).trans hx246_0
                            replace hx246_1 := (HB.out.cell (World.block_lt_of_cell? w _ hx246_1)).trans hx246_1
                            replace hx246_2 := (HB.out.cell (World.block_lt_of_cell? w _ hx246_2)).trans hx246_2
                            replace hx246_3 := (HB.out.cell (World.block_lt_of_cell? w _ hx246_3)).trans hx246_3
                            replace hx246_4 := (HB.out.cell (World.block_lt_of_cell? w _ hx246_4)).trans hx246_4
                            replace hx246_5 := (HB.out.cell (World.block_lt_of_cell? w _ hx246_5)).trans hx246_5
                            have HR246_4 := Aside0.mk hi246_4
                            have HC246_4 := Aside0.mk hl246_4
                            clear hi246_4 hl246_4
                            have HR246_5 := Aside0.mk hi246_5
                            have HC246_5 := Aside0.mk hl246_5
                            clear hi246_5 hl246_5
                            replace p246 := eq_true p246
                            replace q246 := eq_true q246
                            refine start_ (n := 12) (S := fun w' => w'.cell? ⟨gb241, 0, none⟩ = some (.int .u8 a0_0) ∧ w'.cell? ⟨gb241, 1, none⟩ = some (.int .i64 a0_1) ∧ w'.cell? ⟨gb241, 2, none⟩ = some (.int .i64 a0_2) ∧ w'.cell? ⟨gb241, 3, none⟩ = some (.string a0_3) ∧ w'.cell? ⟨gb241, 4, none⟩ = some (.slice (some ad245) l0_4.length c0_4) ∧ w'.cell? ⟨gb241, 5, none⟩ = some (.slice A0_5 l0_5.length c0_5) ∧ w'.cell? ⟨gb242, 0, none⟩ = some (.int .u8 a1_0) ∧ w'.cell? ⟨gb242, 1, none⟩ = some (.int .i64 a1_1) ∧ w'.cell? ⟨gb242, 2, none⟩ = some (.int .i64 a1_2) ∧ w'.cell? ⟨gb242, 3, none⟩ = some (.string a1_3) ∧ w'.cell? ⟨gb242, 4, none⟩ = some (.slice (some ad246) l1_4.length c1_4) ∧ w'.cell? ⟨gb242, 5, none⟩ = some (.slice A1_5 l1_5.length c1_5) ∧ w'.cell? (ad245.add ((x72_3).toNat * 6)) = some (.int .u8 ((rd_T34 l0_4 x72_3).f0)) ∧ w'.cell? ⟨(ad245.add ((x72_3).toNat * 6)).block, (ad245.add ((x72_3).toNat * 6)).off + 1, none⟩ = some (.int .i64 ((rd_T34 l0_4 x72_3).f1)) ∧ w'.cell? ⟨(ad245.add ((x72_3).toNat * 6)).block, (ad245.add ((x72_3).toNat * 6)).off + 2, none⟩ = some (.int .i64 ((rd_T34 l0_4 x72_3).f2)) ∧ w'.cell? ⟨(ad245.add ((x72_3).toNat * 6)).block, (ad245.add ((x72_3).toNat * 6)).off + 3, none⟩ = some (.string ((rd_T34 l0_4 x72_3).f3)) ∧ w'.cell? ⟨(ad245.add ((x72_3).toNat * 6)).block, (ad245.add ((x72_3).toNat * 6)).off + 4, none⟩ = some (.slice A245_4 ((rd_T34 l0_4 x72_3).f4).length c245_4) ∧ w'.cell? ⟨(ad245.add ((x72_3).toNat * 6)).block, (ad245.add ((x72_3).toNat * 6)).off + 5, none⟩ = some (.slice A245_5 ((rd_T34 l0_4 x72_3).f5).length c245_5) ∧ w'.cell? (ad246.add ((x72_3).toNat * 6)) = some (.int .u8 ((rd_T34 l1_4 x72_3).f0)) ∧ w'.cell? ⟨(ad246.add ((x72_3).toNat * 6)).block, (ad246.add ((x72_3).toNat * 6)).off + 1, none⟩ = some (.int .i64 ((rd_T34 l1_4 x72_3).f1)) ∧ w'.cell? ⟨(ad246.add ((x72_3).toNat * 6)).block, (ad246.add ((x72_3).toNat * 6)).off + 2, none⟩ = some (.int .i64 ((rd_T34 l1_4 x72_3).f2)) ∧ w'.cell? ⟨(ad246.add ((x72_3).toNat * 6)).block, (ad246.add ((x72_3).toNat * 6)).off + 3, none⟩ = some (.string ((rd_T34 l1_4 x72_3).f3)) ∧ w'.cell? ⟨(ad246.add ((x72_3).toNat * 6)).block, (ad246.add ((x72_3).toNat * 6)).off + 4, none⟩ = some (.slice A246_4 ((rd_T34 l1_4 x72_3).f4).length c246_4) ∧ w'.cell? ⟨(ad246.add ((x72_3).toNat * 6)).block, (ad246.add ((x72_3).toNat * 6)).off + 5, none⟩ = some (.slice A246_5 ((rd_T34 l1_4 x72_3).f5).length c246_5)) (ds := []) #[false, false, false, false, false, false, false, false, false, false, false, false] (by kernel_rfl) rfl rfl ⟨(blk_cell BK241.out 0).trans rfl, (blk_cell BK241.out 1).trans rfl, (blk_cell BK241.out 2).trans rfl, (blk_cell BK241.out 3).trans rfl, (blk_cell BK241.out 4).trans rfl, (blk_cell BK241.out 5).trans rfl, (blk_cell BK242.out 0).trans rfl, (blk_cell BK242.out 1).trans rfl, (blk_cell BK242.out 2).trans rfl, (blk_cell BK242.out 3).trans rfl, (blk_cell BK242.out 4).trans rfl, (blk_cell BK242.out 5).trans rfl, ((HB.out.cell (World.block_lt_of_cell? w _ hw245_0)).trans hw245_0), ((HB.out.cell (World.block_lt_of_cell? w _ hw245_1)).trans hw245_1), ((HB.out.cell (World.block_lt_of_cell? w _ hw245_2)).trans hw245_2), ((HB.out.cell (World.block_lt_of_cell? w _ hw245_3)).trans hw245_3), ((HB.out.cell (World.block_lt_of_cell? w _ hw245_4)).trans hw245_4), ((HB.out.cell (World.block_lt_of_cell? w _ hw245_5)).trans hw245_5), ((HB.out.cell (World.block_lt_of_cell? w _ hw246_0)).trans hw246_0), ((HB.out.cell (World.block_lt_of_cell? w _ hw246_1)).trans hw246_1), ((HB.out.cell (World.block_lt_of_cell? w _ hw246_2)).trans hw246_2), ((HB.out.cell (World.block_lt_of_cell? w _ hw246_3)).trans hw246_3), ((HB.out.cell (World.block_lt_of_cell? w _ hw246_4)).trans hw246_4), ((HB.out.cell (World.block_lt_of_cell? w _ hw246_5)).trans hw246_5)⟩ (fun hHeld => ?_); refine with_tabW punchcutref18_Same.tab12 punchcutref18_Same.bits12 (fun HT_ HW_ => ?_)
                            generalize wr.drew = w49 at BK241 BK242 HB HR245_4 HR245_5 HR246_4 HR246_5 hx245_0 hx245_1 hx245_2 hx245_3 hx245_4 hx245_5 hx246_0 hx246_1 hx246_2 hx246_3 hx246_4 hx246_5 hHeld ⊢
                            refine pure_ (i := 0) (N := some 75) (v := ?_) (a' := ?_) #[true, false, false, false, false, false, false, false, false, false, false, false] rfl rfl (any_of HT_.out (by kernel_rfl)) (fun _ _ _ h => h) (Or.inl ⟨by rfl, ?_⟩) ?_ ?_
                            rotate_left
                            · intro w'
                              go_simp
                              with_reducible rfl
                            rotate_left
                            · simp only [Act.put, List.setIfInBounds_toArray, List.set_cons_zero, List.set_cons_succ, i64_w, i32_w]
                              rfl
                            refine pure_ (i := 2) (N := some 77) (v := ?_) (a' := ?_) #[true, false, true, false, false, false, false, false, false, false, false, false] rfl rfl (any_of HT_.out (by kernel_rfl)) (fun _ _ _ h => h) (Or.inl ⟨by rfl, ?_⟩) ?_ ?_
                            rotate_left
                            · intro w'
                              go_simp
                              with_reducible rfl
                            rotate_left
                            · simp only [Act.put, List.setIfInBounds_toArray, List.set_cons_zero, List.set_cons_succ, i64_w, i32_w]
                              rfl
                            refine pure_ (i := 5) (N := some 80) (v := ?_) (a' := ?_) #[true, false, true, false, false, true, false, false, false, false, false, false] rfl rfl (any_of HT_.out (by kernel_rfl)) (fun _ _ _ h => h) (Or.inl ⟨by rfl, ?_⟩) ?_ ?_
                            rotate_left
                            · intro w'
                              go_simp
                              with_reducible rfl
                            rotate_left
                            · simp only [Act.put, List.setIfInBounds_toArray, List.set_cons_zero, List.set_cons_succ, i64_w, i32_w]
                              rfl
                            refine pure_ (i := 7) (N := some 82) (v := ?_) (a' := ?_) #[true, false, true, false, false, true, false, true, false, false, false, false] rfl rfl (any_of HT_.out (by kernel_rfl)) (fun _ _ _ h => h) (Or.inl ⟨by rfl, ?_⟩) ?_ ?_
                            rotate_left
                            · intro w'
                              go_simp
                              with_reducible rfl
                            rotate_left
                            · simp only [Act.put, List.setIfInBounds_toArray, List.set_cons_zero, List.set_cons_succ, i64_w, i32_w]
                              rfl
                            refine take_ (i := 1) (N := some 76) (v := ?_) (a' := ?_) #[true, true, true, false, false, true, false, true, false, false, false, false] rfl rfl (take_ofW HT_.out HW_.out (by kernel_rfl)) (fun _ _ _ h => h) (Or.inl ⟨by rfl, ?_⟩) hHeld ?_ ?_
                            rotate_left
                            · rintro w' ⟨s0, s1, s2, s3, s4, s5, s6, s7, s8, s9, s10, s11, s12, s13, s14, s15, s16, s17, s18, s19, s20, s21, s22, s23⟩
                              go_simp
                              with_reducible rfl
                            rotate_left
                            · simp only [Act.put, List.setIfInBounds_toArray, List.set_cons_zero, List.set_cons_succ, i64_w, i32_w]
                              rfl
                            refine pure_ (i := 3) (N := some 78) (v := ?_) (a' := ?_) #[true, true, true, true, false, true, false, true, false, false, false, false] rfl rfl (any_of HT_.out (by kernel_rfl)) (fun _ _ _ h => h) (Or.inl ⟨by rfl, ?_⟩) ?_ ?_
                            rotate_left
                            · intro w'
                              go_simp
                              with_reducible rfl
                            rotate_left
                            · simp only [Act.put, List.setIfInBounds_toArray, List.set_cons_zero, List.set_cons_succ, i64_w, i32_w]
                              rfl
                            refine take_ (i := 4) (N := some 79) (v := ?_) (a' := ?_) #[true, true, true, true, true, true, false, true, false, false, false, false] rfl rfl (take_ofW HT_.out HW_.out (by kernel_rfl)) (fun _ _ _ h => h) (Or.inl ⟨by rfl, ?_⟩) hHeld ?_ ?_
                            rotate_left
                            · rintro w' ⟨s0, s1, s2, s3, s4, s5, s6, s7, s8, s9, s10, s11, s12, s13, s14, s15, s16, s17, s18, s19, s20, s21, s22, s23⟩
                              go_simp
                              with_reducible rfl
                            rotate_left
                            · simp only [Act.put, List.setIfInBounds_toArray, List.set_cons_zero, List.set_cons_succ, i64_w, i32_w]
                              rfl
                            refine take_ (i := 6) (N := some 81) (v := ?_) (a' := ?_) #[true, true, true, true, true, true, true, true, false, false, false, false] rfl rfl (take_ofW HT_.out HW_.out (by kernel_rfl)) (fun _ _ _ h => h) (Or.inl ⟨by rfl, ?_⟩) hHeld ?_ ?_
                            rotate_left
                            · rintro w' ⟨s0, s1, s2, s3, s4, s5, s6, s7, s8, s9, s10, s11, s12, s13, s14, s15, s16, s17, s18, s19, s20, s21, s22, s23⟩
                              go_simp
                              with_reducible rfl
                            rotate_left
                            · simp only [Act.put, List.setIfInBounds_toArray, List.set_cons_zero, List.set_cons_succ, i64_w, i32_w]
                              rfl
                            refine pure_ (i := 8) (N := some 83) (v := ?_) (a' := ?_) #[true, true, true, true, true, true, true, true, true, false, false, false] rfl rfl (any_of HT_.out (by kernel_rfl)) (fun _ _ _ h => h) (Or.inl ⟨by rfl, ?_⟩) ?_ ?_
                            rotate_left
                            · intro w'
                              go_simp
                              with_reducible rfl
                            rotate_left
                            · simp only [Act.put, List.setIfInBounds_toArray, List.set_cons_zero, List.set_cons_succ, i64_w, i32_w]
                              rfl
                            refine take_ (i := 9) (N := some 84) (v := ?_) (a' := ?_) #[true, true, true, true, true, true, true, true, true, true, false, false] rfl rfl (take_ofW HT_.out HW_.out (by kernel_rfl)) (fun _ _ _ h => h) (Or.inl ⟨by rfl, ?_⟩) hHeld ?_ ?_
                            rotate_left
                            · rintro w' ⟨s0, s1, s2, s3, s4, s5, s6, s7, s8, s9, s10, s11, s12, s13, s14, s15, s16, s17, s18, s19, s20, s21, s22, s23⟩
                              go_simp
                              with_reducible rfl
                            rotate_left
                            · simp only [Act.put, List.setIfInBounds_toArray, List.set_cons_zero, List.set_cons_succ, i64_w, i32_w]
                              rfl
                            refine one_ (i := 10) (N := some 85) #[true, true, true, true, true, true, true, true, true, true, true, false] rfl rfl (one_of HT_.out (by kernel_rfl)) (by decide) (fun K hK => ?_)
                            refine goes_ Tryz.func19 (by kernel_rfl) rfl #[.agg #[.int .u8 ((rd_T34 l0_4 x72_3).f0), .int .i64 ((rd_T34 l0_4 x72_3).f1), .int .i64 ((rd_T34 l0_4 x72_3).f2), .string ((rd_T34 l0_4 x72_3).f3), .slice A245_4 ((rd_T34 l0_4 x72_3).f4).length c245_4, .slice A245_5 ((rd_T34 l0_4 x72_3).f5).length c245_5], .agg #[.int .u8 ((rd_T34 l1_4 x72_3).f0), .int .i64 ((rd_T34 l1_4 x72_3).f1), .int .i64 ((rd_T34 l1_4 x72_3).f2), .string ((rd_T34 l1_4 x72_3).f3), .slice A246_4 ((rd_T34 l1_4 x72_3).f4).length c246_4, .slice A246_5 ((rd_T34 l1_4 x72_3).f5).length c246_5]] (by rfl) rfl rfl (by (try simp only [List.map_toArray, List.map_cons, List.map_nil]); first | done | rfl | (simp only [List.length_drop, List.length_take]; rfl)) ?_
                            with_reducible refine (ih k3 (by have := HJ2.out; have := HK2.out; have := HK3.out; omega) ((rd_T34 l0_4 x72_3).f0) ((rd_T34 l0_4 x72_3).f1) ((rd_T34 l0_4 x72_3).f2) ((rd_T34 l0_4 x72_3).f3) _ _ ((rd_T34 l0_4 x72_3).f4) _ _ ((rd_T34 l0_4 x72_3).f5) ((rd_T34 l1_4 x72_3).f0) ((rd_T34 l1_4 x72_3).f1) ((rd_T34 l1_4 x72_3).f2) ((rd_T34 l1_4 x72_3).f3) _ _ ((rd_T34 l1_4 x72_3).f4) _ _ ((rd_T34 l1_4 x72_3).f5) false _ ?side1 ?side2 ?side3 ?side4 ?side5 ?side6 ?side7 ?side8 A45.out).mono ?_
                            (case side1 => repeat (first | exact (Kd.C_below HR245_4.out HB.out) | (with_reducible refine Kd.C_alloc ?_ _) | (with_reducible refine Kd.C_drewN ?_ _) | (with_reducible refine Kd.C_drew ?_)))
                            (case side2 => exact HC245_4.out)
                            (case side3 => repeat (first | exact (Kd.C_below HR245_5.out HB.out) | (with_reducible refine Kd.C_alloc ?_ _) | (with_reducible refine Kd.C_drewN ?_ _) | (with_reducible refine Kd.C_drew ?_)))
                            (case side4 => exact HC245_5.out)
                            (case side5 => repeat (first | exact (Kd.C_below HR246_4.out HB.out) | (with_reducible refine Kd.C_alloc ?_ _) | (with_reducible refine Kd.C_drewN ?_ _) | (with_reducible refine Kd.C_drew ?_)))
                            (case side6 => exact HC246_4.out)
                            (case side7 => repeat (first | exact (Kd.C_below HR246_5.out HB.out) | (with_reducible refine Kd.C_alloc ?_ _) | (with_reducible refine Kd.C_drewN ?_ _) | (with_reducible refine Kd.C_drew ?_)))
                            (case side8 => exact HC246_5.out)
                            rintro e w50 ⟨rfl, hb⟩
                            refine ⟨_, rfl, ?_⟩
                            have n0_ := Aside0.mk (blk_below (g := gb241) (o := .cells #[.int .u8 a0_0, .int .i64 a0_1, .int .i64 a0_2, .string a0_3, .slice (some ad245) l0_4.length c0_4, .slice A0_5 l0_5.length c0_5] 34 (0, 0)) (by (with_reducible repeat (first | refine blk_drewN ?_ _ | refine blk_drew ?_ | refine blk_alloc ?_ _)); exact BK241.out) hb)
                            have n1_ := Aside0.mk (blk_below (g := gb242) (o := .cells #[.int .u8 a1_0, .int .i64 a1_1, .int .i64 a1_2, .string a1_3, .slice (some ad246) l1_4.length c1_4, .slice A1_5 l1_5.length c1_5] 34 (0, 0)) (by (with_reducible repeat (first | refine blk_drewN ?_ _ | refine blk_drew ?_ | refine blk_alloc ?_ _)); exact BK242.out) hb)
                            have n2_ := Aside0.mk (below_step (by repeat (first | (with_reducible first | exact HB.out | apply below_alloc | apply pw_below_drewN | apply below_drew1 | refine below_set ?_ GE241.out | refine below_set ?_ GE242.out) | exact HB.out)) hb)
                            clear BK241
                            clear BK242
                            clear HB
                            have BK241 := n0_
                            have BK242 := n1_
                            have HB := n2_
                            clear n0_ n1_ n2_
                            (try clear hb)
                            (try clear hb2)
                            (try clear hk)
                            (try clear hi)
                            refine hK.out _ _ ⟨(blk_cell BK241.out 0).trans rfl, (blk_cell BK241.out 1).trans rfl, (blk_cell BK241.out 2).trans rfl, (blk_cell BK241.out 3).trans rfl, (blk_cell BK241.out 4).trans rfl, (blk_cell BK241.out 5).trans rfl, (blk_cell BK242.out 0).trans rfl, (blk_cell BK242.out 1).trans rfl, (blk_cell BK242.out 2).trans rfl, (blk_cell BK242.out 3).trans rfl, (blk_cell BK242.out 4).trans rfl, (blk_cell BK242.out 5).trans rfl, ((HB.out.cell (World.block_lt_of_cell? w _ hw245_0)).trans hw245_0), ((HB.out.cell (World.block_lt_of_cell? w _ hw245_1)).trans hw245_1), ((HB.out.cell (World.block_lt_of_cell? w _ hw245_2)).trans hw245_2), ((HB.out.cell (World.block_lt_of_cell? w _ hw245_3)).trans hw245_3), ((HB.out.cell (World.block_lt_of_cell? w _ hw245_4)).trans hw245_4), ((HB.out.cell (World.block_lt_of_cell? w _ hw245_5)).trans hw245_5), ((HB.out.cell (World.block_lt_of_cell? w _ hw246_0)).trans hw246_0), ((HB.out.cell (World.block_lt_of_cell? w _ hw246_1)).trans hw246_1), ((HB.out.cell (World.block_lt_of_cell? w _ hw246_2)).trans hw246_2), ((HB.out.cell (World.block_lt_of_cell? w _ hw246_3)).trans hw246_3), ((HB.out.cell (World.block_lt_of_cell? w _ hw246_4)).trans hw246_4), ((HB.out.cell (World.block_lt_of_cell? w _ hw246_5)).trans hw246_5)⟩ (fun hHeld => ?_)
                            clear hK K
                            refine norm_ (a' := ?_) ?_ ?_
                            rotate_left
                            · show Act.put _ (some 85) _ = _
                              simp only [Act.put, List.setIfInBounds_toArray, List.set_cons_zero, List.set_cons_succ, i64_w, i32_w]
                              rfl
                            refine pure_ (i := 11) (N := some 86) (v := ?_) (a' := ?_) #[true, true, true, true, true, true, true, true, true, true, true, true] rfl rfl (any_of HT_.out (by kernel_rfl)) (fun _ _ _ h => h) (Or.inl ⟨by rfl, ?_⟩) ?_ ?_
                            rotate_left
                            · intro w'
                              go_simp
                              with_reducible rfl
                            rotate_left
                            · simp only [Act.put, List.setIfInBounds_toArray, List.set_cons_zero, List.set_cons_succ, i64_w, i32_w]
                              rfl
                            refine done_ (done_of HT_.out (by kernel_rfl)) ?_
                            try go_wp2
                            go_ret
                            exact ⟨by first | rfl | (simp [errW_none, errW_some] <;> rfl) | (simp [*, errW_none, errW_some] <;> rfl), by repeat (first | (with_reducible first | exact HB.out | apply below_alloc | apply pw_below_drewN | apply below_drew1 | refine below_set ?_ GE241.out | refine below_set ?_ GE242.out) | exact HB.out)⟩
                        · rw [if_neg c44] at H
                          exact absurd H (by simp)
                      · rw [if_neg c43] at H
                        exact absurd H (by simp)
                    · rw [if_neg c42] at H
                      exact absurd H (by simp)
                  · rw [if_neg c41] at H
                    have c41b0 : decide (x72_3 < (l0_4.length : Int)) = false := decide_eq_false c41
                    clear c41
                    obtain rfl := Option.some.inj H
                    go_wp2
                    go_ret
                    exact ⟨by first | rfl | (simp [errW_none, errW_some] <;> rfl) | (simp [*, errW_none, errW_some] <;> rfl), by repeat (first | (with_reducible first | exact HB.out | apply below_alloc | apply pw_below_drewN | apply below_drew1 | refine below_set ?_ GE241.out | refine below_set ?_ GE242.out) | exact HB.out)⟩
end Go.Proofs.YtnckaeehcldheaaGreatDoor.Pr
end

section
set_option linter.unusedVariables false
set_option linter.unusedSimpArgs false
namespace Go.Proofs.YtnckaeehcldheaaGreatDoor.Ob
open Go.RowKit Go.Shelf YtnckaeehcldheaaGreatDoorW.PrintWords
abbrev sameF (k : Nat) (x y : S28) := Pr.punchcutref18_Same.f k x.f0 x.f1 x.f2 x.f3 x.f4 x.f5 y.f0 y.f1 y.f2 y.f3 y.f4 y.f5
abbrev sameL0 (k : Nat) (a b : Int) (x y : S28) := Pr.punchcutref18_Same.l0 k a b x.f0 x.f1 x.f2 x.f3 x.f4 x.f5 y.f0 y.f1 y.f2 y.f3 y.f4 y.f5
abbrev sameL1 (k : Nat) (a b : Int) (x y : S28) := Pr.punchcutref18_Same.l1 k a b x.f0 x.f1 x.f2 x.f3 x.f4 x.f5 y.f0 y.f1 y.f2 y.f3 y.f4 y.f5
theorem same_list (x : S28) (l4 : x.f4.length ≤ 1099511627776) (ih : ∀ y ∈ x.f4, ∃ K, ∀ k, K ≤ k → sameF k y y = some true) : ∀ (d i : Nat), i + d = x.f4.length → ∃ K, ∀ k, K ≤ k → sameL1 k (x.f4.length : Int) (i : Int) x x = some true := by
  intro d
  induction d with
  | zero =>
    intro i hi
    refine ⟨1, fun k hk => ?_⟩
    obtain ⟨k, rfl⟩ : ∃ m, k = m + 1 := ⟨k - 1, by omega⟩
    unfold sameL1
    rw [Pr.punchcutref18_Same.l1, if_neg (by omega)]
  | succ d ihd =>
    intro i hi
    have hlt : i < x.f4.length := by omega
    obtain ⟨K1, h1⟩ := ih _ (List.getElem_mem hlt)
    obtain ⟨K2, h2⟩ := ihd (i + 1) (by omega)
    refine ⟨max K1 K2 + 1, fun k hk => ?_⟩
    obtain ⟨k, rfl⟩ : ∃ m, k = m + 1 := ⟨k - 1, by omega⟩
    have hw : wrap64 ((i : Int) + 1) = ((i + 1 : Nat) : Int) := by unfold wrap64; omega
    have e1 := h1 k (by omega)
    have e2 := h2 k (by omega)
    unfold sameL1 sameF at *
    rw [Pr.punchcutref18_Same.l1, if_pos (by omega), if_pos (by omega), if_pos (by omega), if_pos (by omega), rd_T34_at _ _ hlt, e1, Option.bind_some, if_pos rfl, hw]
    exact e2
theorem same_keys (x : S28) (l5 : x.f5.length ≤ 1099511627776) (K : Nat) (h1 : ∀ k, K ≤ k → sameL1 k (x.f4.length : Int) 0 x x = some true) : ∀ (d i : Nat), i + d = x.f5.length → ∀ k, K + d + 1 ≤ k → sameL0 k (x.f5.length : Int) (i : Int) x x = some true := by
  intro d
  induction d with
  | zero =>
    intro i hi k hk
    obtain ⟨k, rfl⟩ : ∃ m, k = m + 1 := ⟨k - 1, by omega⟩
    have e1 := h1 k (by omega)
    unfold sameL0 sameL1 at *
    rw [Pr.punchcutref18_Same.l0, if_neg (by omega)]
    exact e1
  | succ d ihd =>
    intro i hi k hk
    obtain ⟨k, rfl⟩ : ∃ m, k = m + 1 := ⟨k - 1, by omega⟩
    have hw : wrap64 ((i : Int) + 1) = ((i + 1 : Nat) : Int) := by unfold wrap64; omega
    have e2 := ihd (i + 1) (by omega) k (by omega)
    unfold sameL0 at *
    rw [Pr.punchcutref18_Same.l0, if_pos (by omega), if_pos (by omega), if_pos (by omega), if_pos (by omega), if_pos rfl, hw]
    exact e2
theorem same_self {x : S28} (hz : Sz x) : ∃ K, ∀ k, K ≤ k → sameF k x x = some true := by
  induction hz with
  | @mk x h0 h3 h5 l4 l5 h4 ih =>
    obtain ⟨K, h⟩ := same_list x l4 ih x.f4.length 0 (by omega)
    have h2 := same_keys x l5 K h x.f5.length 0 (by omega)
    refine ⟨K + x.f5.length + 3, fun k hk => ?_⟩
    obtain ⟨k, rfl⟩ : ∃ m, k = m + 2 := ⟨k - 2, by omega⟩
    have e := h2 k (by omega)
    unfold sameF sameL0 at *
    rw [Pr.punchcutref18_Same.f, if_pos rfl, if_pos rfl, if_pos rfl, if_pos rfl, if_pos rfl, Pr.punchcutref18_Same.j0, if_neg (by simp)]
    exact e
theorem rd_eq (xs : List Int) (i : Nat) (h : i < xs.length) : rd xs (i : Int) = xs[i] := by
  simp [rd, List.getD_eq_getElem?_getD, List.getElem?_eq_getElem h]
theorem cut_loop (n : Nat) (hn : n ≤ 1000000) (xs : List Int) (hl : xs.length ≤ 9223372036854775806) : ∀ (d i : Nat), i + d = xs.length → ∀ k, d + 1 ≤ k → Pr.punchcutref01_Cut.l0 k (n : Int) ((xs.take n).take i) xs (xs.length : Int) (i : Int) = some (xs.take n) := by
  intro d
  induction d with
  | zero =>
    intro i hi k hk
    obtain ⟨k, rfl⟩ : ∃ m, k = m + 1 := ⟨k - 1, by omega⟩
    rw [Pr.punchcutref01_Cut.l0, if_neg (by omega), List.take_of_length_le (l := xs.take n) (by rw [List.length_take]; omega)]
  | succ d ihd =>
    intro i hi k hk
    obtain ⟨k, rfl⟩ : ∃ m, k = m + 1 := ⟨k - 1, by omega⟩
    have hlt : i < xs.length := by omega
    have hw : wrap64 ((i : Int) + 1) = ((i + 1 : Nat) : Int) := by unfold wrap64; omega
    have e2 := ihd (i + 1) (by omega) k (by omega)
    by_cases hin : i < n
    · have hlen : ((xs.take n).take i).length < 140737488355328 := by rw [List.length_take]; omega
      rw [Pr.punchcutref01_Cut.l0, if_pos (by omega), if_pos (by omega), if_pos (by omega), if_pos (by omega), if_pos hlen, hw, rd_eq _ _ hlt]
      rw [← e2]
      congr 1
      rw [List.take_add_one, List.getElem?_take_of_lt hin, List.getElem?_eq_getElem hlt]
      rfl
    · rw [Pr.punchcutref01_Cut.l0, if_pos (by omega), if_pos (by omega), if_pos (by omega), if_neg (by omega), hw]
      rw [← e2]
      congr 1
      rw [List.take_of_length_le (l := xs.take n) (i := i) (by rw [List.length_take]; omega), List.take_of_length_le (l := xs.take n) (i := i + 1) (by rw [List.length_take]; omega)]
theorem cut_f (n : Nat) (hn : n ≤ 1000000) (xs : List Int) (hl : xs.length ≤ 9223372036854775806) : Pr.punchcutref01_Cut.f (xs.length + 1) xs (n : Int) = some (xs.take n) := by
  unfold Pr.punchcutref01_Cut.f
  have := cut_loop n hn xs hl xs.length 0 (by omega) _ (Nat.le_refl _)
  rw [List.take_zero] at this
  exact this
end Go.Proofs.YtnckaeehcldheaaGreatDoor.Ob
end

section
set_option linter.unusedVariables false
set_option linter.unusedSimpArgs false
namespace Go.Proofs.YtnckaeehcldheaaGreatDoor.Ob
open Go.RowKit Go.Shelf YtnckaeehcldheaaGreatDoorW.PrintWords
def RValPost (r : RO) (w : World) (e : Ending) (w' : World) : Prop :=
  Below w.heap.size w w' ∧ match r with
  | none => ∃ (k : Int) (s : ByteArray) (n : Int), e = .returned (.tuple #[.agg #[.int .u8 k, .int .i64 0, .int .i64 0, .string s, .slice none 0 0, .slice none 0 0], .int .i64 n, .bool false])
  | some (v, q) => ∃ v4 v5, e = .returned (.tuple #[.agg #[.int .u8 v.f0, .int .i64 v.f1, .int .i64 v.f2, .string v.f3, v4, v5], .int .i64 (q : Int), .bool true]) ∧ k34.R 34 w' w.heap.size (fun _ => True) v4 v.f4 ∧ Kd.string.R 9 w' w.heap.size (fun _ => True) v5 v.f5 ∧ q ≤ 2147483640
def RVC (p : List UInt8) (f : Nat) : Prop := ∀ (at_ deep : Nat) (A : Option Addr) (c : Nat) (r : RO) (w : World), rvalF p f at_ deep = some r → RB w A p → p.length ≤ c → at_ ≤ p.length → deep ≤ 41 →
  Calls Tryz.prog 50 #[.slice A p.length c, .int .i64 (at_ : Int), .int .i64 (deep : Int)] w (RValPost r w)
def RLC (p : List UInt8) (f : Nat) : Prop := ∀ (at_ deep : Nat) (A : Option Addr) (c : Nat) (dict : Bool) (r : RO) (w : World), rlistF p f at_ (if dict = true then 6 else 5) (if dict = true then [62, 62] else [93]) deep [] [] = some r → RB w A p → p.length ≤ c → at_ ≤ p.length → deep ≤ 40 →
  Calls Tryz.prog 87 #[.slice A p.length c, .int .i64 (at_ : Int), .bool dict, .int .i64 (deep : Int)] w (RValPost r w)
def okR (B k : Nat) : Prop := k ≠ B ∧ k ≠ B + 1
def okRL (B : Nat) (kv : Value) (k : Nat) : Prop := okR B k ∧ some k ≠ kv.ownBlock
structure RL (kind : Int) (w wr : World) (xs : List S28) (ks : List ByteArray) (lv kv : Value) : Prop where
  bl : Below w.heap.size w wr
  blk : wr.heap[w.heap.size]? = some (.cells #[.int .u8 0, .int .i64 0, .int .i64 0, .string ⟨#[]⟩, .slice none 0 0, .slice none 0 0] 34 (0, 0))
  cur : wr.heap[w.heap.size + 1]? = some (.cells #[.int .u8 kind, .int .i64 0, .int .i64 0, .string ⟨#[]⟩, lv, kv] 34 (0, 0))
  rl : k34.R 34 wr w.heap.size (okRL w.heap.size kv) lv xs
  rk : Kd.string.R 9 wr w.heap.size (okR w.heap.size) kv ks
theorem RL.start (kind : Int) (w : World) :
    RL kind w ((w.alloc (.cells #[.int .u8 0, .int .i64 0, .int .i64 0, .string ⟨#[]⟩, .slice none 0 0, .slice none 0 0] 34)).alloc (.cells #[.int .u8 kind, .int .i64 0, .int .i64 0, .string ⟨#[]⟩, .slice none 0 0, .slice none 0 0] 34)) [] [] (.slice none 0 0) (.slice none 0 0) := by
  have hA : Below w.heap.size w ((w.alloc (.cells #[.int .u8 0, .int .i64 0, .int .i64 0, .string ⟨#[]⟩, .slice none 0 0, .slice none 0 0] 34)).alloc (.cells #[.int .u8 kind, .int .i64 0, .int .i64 0, .string ⟨#[]⟩, .slice none 0 0, .slice none 0 0] 34)) :=
    ((Below.refl _ _).alloc (Nat.le_refl _) _).alloc (by rw [World.size_alloc]; omega) _
  exact ⟨hA, blk_alloc (blk_new _ _) _, by have := blk_new (w.alloc (.cells #[.int .u8 0, .int .i64 0, .int .i64 0, .string ⟨#[]⟩, .slice none 0 0, .slice none 0 0] 34)) (.cells #[.int .u8 kind, .int .i64 0, .int .i64 0, .string ⟨#[]⟩, .slice none 0 0, .slice none 0 0] 34); rwa [World.size_alloc] at this, Kd.R_nil _ _ _ _ _, Kd.R_nil _ _ _ _ _⟩
theorem RL.lt {kind w wr xs ks lv kv} (h : RL kind w wr xs ks lv kv) : w.heap.size + 1 < wr.heap.size := blk_lt h.cur
theorem RL.step {kind w wr w1 xs ks lv kv} (h : RL kind w wr xs ks lv kv) (hb : Below wr.heap.size wr w1) : RL kind w w1 xs ks lv kv where
  bl := h.bl.trans (hb.mono h.bl.size)
  blk := blk_below hb h.blk
  cur := blk_below hb h.cur
  rl := Kd.R_below h.rl hb
  rk := Kd.R_below h.rk hb
theorem RL.alloc {kind w wr xs ks lv kv} (h : RL kind w wr xs ks lv kv) (o : Obj) : RL kind w (wr.alloc o) xs ks lv kv :=
  h.step ((Below.refl _ _).alloc (Nat.le_refl _) _)
theorem info34 : (Tryz.prog.info? 34).map (fun i => (i.zero, i.size, i.bytes)) = some (some (.agg #[.int .u8 0, .int .i64 0, .int .i64 0, .string ⟨#[]⟩, .slice none 0 0, .slice none 0 0]), 6, 88) := by kernel_rfl
theorem RL.pushed {kind w W w1 xs ks lv kv} {v1 : Value} {ys : List S28} (h : RL kind w W xs ks lv kv) (hg : W.grownBy w1 lv.ownBlock) (hR : k34.R 34 w1 w.heap.size (okRL w.heap.size kv) v1 ys) (hB : Below w.heap.size w w1) :
    RL kind w (w1.setCell ⟨w.heap.size + 1, 4, none⟩ v1) ys ks v1 kv := by
  have hne : ∀ k, ¬ okRL w.heap.size kv k → some k ≠ lv.ownBlock := fun k hk he => hk (R_base_own h.rl he.symm).1
  have n1 : some w.heap.size ≠ lv.ownBlock := hne _ (fun h => h.1.1 rfl)
  have n2 : some (w.heap.size + 1) ≠ lv.ownBlock := hne _ (fun h => h.1.2 rfl)
  exact {
    bl := hB.setCell (p := ⟨w.heap.size + 1, 4, none⟩) (by simp) v1
    blk := blk_far (blk_grown h.blk hg n1) (by show w.heap.size ≠ w.heap.size + 1; omega) v1
    cur := blk_put (blk_grown h.cur hg n2) 4 v1 (by simp)
    rl := Kd.R_far hR (fun k hk => hk.1.2) v1
    rk := by
      have hs := R_own h.rk
      have := Kd.R_grown hs hg (fun k hk => by
        intro he
        have := (R_base_own h.rl he.symm).1.2
        exact this hk.2)
      exact Kd.R_mono (Kd.R_far this (fun k hk => hk.1.2) v1) (fun k hk => hk.1) }
theorem RL.n2 {kind w W xs ks lv kv} (h : RL kind w W xs ks lv kv) : some (w.heap.size + 1) ≠ lv.ownBlock := fun he => (R_base_own h.rl he.symm).1.1.2 rfl
theorem RL.n3 {kind w W xs ks lv kv} (h : RL kind w W xs ks lv kv) : some (w.heap.size + 1) ≠ kv.ownBlock := fun he => (R_base_own h.rk he.symm).1.2 rfl
def okRX (w1 w2 : World) (k : Nat) : Prop := w1.heap.size ≤ k ∧ k < w2.heap.size
theorem RL.val {kind w w1 w2 xs ks lv kv} {x : S28} {v4 v5 : Value} (h : RL kind w w1 xs ks lv kv) (h4 : k34.R 34 w2 w1.heap.size (fun _ => True) v4 x.f4) (h5 : Kd.string.R 9 w2 w1.heap.size (fun _ => True) v5 x.f5) (o : Obj) :
    k34.M (w2.alloc o) w.heap.size (okRX w1 w2) x [.int .u8 x.f0, .int .i64 x.f1, .int .i64 x.f2, .string x.f3, v4, v5] :=
  have hb : Below w2.heap.size w2 (w2.alloc o) := (Below.refl _ _).alloc (Nat.le_refl _) _
  k34_mkM _ _ _ x (Kd.R_below (Kd.R_lower (Kd.R_mono (Kd.R_bound h4) (fun k hk => ⟨hk.2.1, hk.2.2.1⟩)) h.bl.size) hb) (Kd.R_below (Kd.R_lower (Kd.R_mono (Kd.R_bound h5) (fun k hk => ⟨hk.2.1, hk.2.2.1⟩)) h.bl.size) hb)
theorem RL.okX {kind w w1 w2 xs ks lv kv} (h : RL kind w w1 xs ks lv kv) : ∀ k, okRX w1 w2 k → okRL w.heap.size kv k ∧ some k ≠ lv.ownBlock := by
  intro k ⟨h2, h3⟩
  have := h.lt
  refine ⟨⟨⟨by omega, by omega⟩, fun he => ?_⟩, fun he => ?_⟩
  · have := (R_base_own h.rk he.symm).2.2; omega
  · have := (R_base_own h.rl he.symm).2.2; omega
theorem RL.fresh {kind w W xs ks lv kv} (h : RL kind w W xs ks lv kv) : ∀ k, W.heap.size ≤ k → okRL w.heap.size kv k := by
  intro k hk
  have := h.lt
  refine ⟨⟨by omega, by omega⟩, fun he => ?_⟩
  have := (R_base_own h.rk he.symm).2.2; omega
theorem RL.keyed {kind w W w1 xs ks lv kv} {v1 : Value} {ys : List ByteArray} (h : RL kind w W xs ks lv kv) (hg : W.grownBy w1 kv.ownBlock) (hR : Kd.string.R 9 w1 w.heap.size (okR w.heap.size) v1 ys) (hB : Below w.heap.size w w1) (hat : v1.ownBlock = kv.ownBlock ∨ ∃ b, v1.ownBlock = some b ∧ W.heap.size ≤ b) :
    RL kind w (w1.setCell ⟨w.heap.size + 1, 5, none⟩ v1) xs ys lv v1 := by
  have hne : ∀ k, ¬ okR w.heap.size k → some k ≠ kv.ownBlock := fun k hk he => hk (R_base_own h.rk he.symm).1
  have n1 : some w.heap.size ≠ kv.ownBlock := hne _ (fun h => h.1 rfl)
  have n2 : some (w.heap.size + 1) ≠ kv.ownBlock := hne _ (fun h => h.2 rfl)
  exact {
    bl := hB.setCell (p := ⟨w.heap.size + 1, 5, none⟩) (by simp) v1
    blk := blk_far (blk_grown h.blk hg n1) (by show w.heap.size ≠ w.heap.size + 1; omega) v1
    cur := blk_put (blk_grown h.cur hg n2) 5 v1 (by simp)
    rl := by
      have hs0 := Kd.R_bound h.rl
      have hs1 := Kd.R_far (Kd.R_grown hs0 hg (fun k hk => hk.1.2)) (p := ⟨w.heap.size + 1, 5, none⟩) (fun k hk => hk.1.1.2) v1
      refine Kd.R_mono hs1 (fun k hk => ⟨hk.1.1, ?_⟩)
      rcases hat with hat | ⟨b, hb, hle⟩
      · rw [hat]; exact hk.1.2
      · rw [hb]; intro he; injection he with he; have := hk.2.2.1; omega
    rk := Kd.R_far hR (fun k hk => hk.2) v1 }
end Go.Proofs.YtnckaeehcldheaaGreatDoor.Ob
end

section
set_option linter.unusedVariables false
set_option linter.unusedSimpArgs false
namespace Go.Proofs.YtnckaeehcldheaaGreatDoor.Ob
open Go.RowKit Go.Shelf YtnckaeehcldheaaGreatDoorW.PrintWords
set_option maxRecDepth 100000 in
set_option maxHeartbeats 16000000 in
theorem rlist_arr (p : List UInt8) (hpl : p.length < 2147483640) (f : Nat) (hf : f ≤ 100000000000) (HV : Aside0 (∀ k, k < f → RVC p k)) (at_ deep : Nat) (A : Option Addr) (c : Nat) (r : RO) (w : World) (hr : rlistF p f at_ 5 [93] deep [] [] = some r) (hp : RB w A p) (hc : p.length ≤ c) (hat : at_ ≤ p.length) (hd : deep ≤ 40) :
    Calls Tryz.prog 87 #[.slice A p.length c, .int .i64 (at_ : Int), .bool false, .int .i64 (deep : Int)] w (RValPost r w) := by
  have S0 := Aside0.mk (RL.start 5 w)
  have HR := Aside0.mk hr
  have HP := Aside0.mk hp
  have hw1 : IntKind.i64.wrap ((deep : Int) + 1) = (deep : Int) + 1 := IntWalk.i64_in _ (by omega)
  clear hr hp
  go_enter Tryz.func87, Tryz.ntmps87
  go_wp2_with fail
  go_loopg [1, 9, 10] f (fun k s1 s9 s10 wr => ∃ a : Nat, s1 = .int .i64 (a : Int) ∧ s9 = .int .i64 0 ∧ s10 = .bool false ∧ k ≤ f ∧ a ≤ p.length ∧ Aside0 (∃ xs ks lv kv, (rlistF p k a 5 [93] deep xs ks = some r ∧ xs.length + k ≤ f ∧ ks.length ≤ xs.length) ∧ RL 5 w wr xs ks lv kv))
  case atStart => exact ⟨at_, rfl, rfl, rfl, Nat.le_refl _, hat, ⟨_, _, _, _, ⟨HR.out, by simp, by simp⟩, S0.out⟩⟩
  case round =>
    obtain ⟨a, rfl, rfl, rfl, hkf, hal, hrel⟩ := hrel
    obtain ⟨xs, ks, lv, kv, ⟨he, hxl, hkl⟩, hS⟩ := hrel.out
    clear hrel HR S0
    obtain ⟨Al, cl, rfl, -⟩ := hS.rl.2.slice_
    obtain ⟨Ak, ck, rfl, -⟩ := hS.rk.2.slice_
    cases gk with
    | zero => simp [rlistF] at he
    | succ k =>
    rw [rlistF] at he
    obtain ⟨q, hq⟩ : ∃ q, skipAt p a = q := ⟨_, rfl⟩
    have hql : q ≤ p.length := by rw [← hq]; exact skipAt_le hal
    have HQ := Aside0.mk hq
    rw [hq] at he
    have S0 := Aside0.mk hS
    have hls : xs.length ≤ 100000000000 := by omega
    have HXL := Aside0.mk hxl
    have HPr := Aside0.mk (HP.out.below hS.bl)
    clear hS hq
    cases t1 : pre p q [93] with
    | true =>
      rw [if_pos t1] at he
      obtain ⟨E, hE⟩ : ∃ E, q + ([93] : List UInt8).length = E := ⟨_, rfl⟩
      rw [hE] at he
      obtain rfl := Option.some.inj he
      have B1 := Aside0.mk t1
      have B1c := Aside0.mk (fun W hp => starts_ok A c p q ⟨#[93]⟩ true W hp hc hql (by decide) B1.out)
      have hqf : q + 1 ≤ p.length := pre_le t1 (by simp)
      have hE1 : q + 1 = E := hE
      have hsum : (q : Int) + (1 : Int) = (E : Int) := by omega
      have hEl : Aside0 (E ≤ 2147483640) := ⟨by omega⟩
      have hwE : IntKind.i64.wrap (E : Int) = (E : Int) := IntWalk.i64_in _ (by omega)
      clear he t1 hE hE1
      obtain ⟨⟨z0, z1, z2, z3, z4, z5⟩, y0, y1, y2, y3, y4, y5⟩ := six_c S0.out.blk; obtain ⟨⟨u0, u1, u2, u3, u4, u5⟩, t0, t1, t2, t3, t4, t5⟩ := six_c S0.out.cur
      go_wp2_with (first | (go_at_call 85; refine (rskip_ok A c p a q _ HPr.out hal HQ.out).mono ?_; rintro e w1 ⟨rfl, rfl⟩) | (go_at_call 86; (with_reducible refine (B1c.out _ HPr.out).mono ?_); rintro e w1 ⟨rfl, rfl⟩))
      refine ret_put6 (v := .tuple #[.agg #[.int .u8 5, .int .i64 0, .int .i64 0, .string ⟨#[]⟩, .slice Al xs.length cl, .slice Ak ks.length ck], .int .i64 (E : Int), .bool true]) S0.out.blk (fun W2 z0 z1 z2 z3 z4 z5 => by simp [results, Tryz.results87, go_sem, zeroV, z0, z1, z2, z3, z4, z5]) rfl ?_
      exact ⟨put6_below S0.out.bl (Nat.le_refl _) _ _ _ _ _ _, _, _, rfl, Kd.R_mono (Kd.R_move S0.out.rl (fun k hk => put6_ne hk.1.1 _ _ _ _ _ _)) (fun _ _ => trivial), Kd.R_mono (Kd.R_move S0.out.rk (fun k hk => put6_ne hk.1 _ _ _ _ _ _)) (fun _ _ => trivial), hEl.out⟩
    | false =>
      rw [if_neg (by simp [t1])] at he
      have B1 := Aside0.mk t1
      have B1c := Aside0.mk (fun W hp => starts_ok A c p q ⟨#[93]⟩ false W hp hc hql (by decide) B1.out)
      clear t1
      rw [if_neg (by decide)] at he
      cases hv : rvalF p k q (deep + 1) with
      | none => rw [hv] at he; exact absurd he (by simp)
      | some x =>
      rw [hv] at he
      have HVV := Aside0.mk (fun W (hb : Below w.heap.size w W) => HV.out k (by omega) q (deep + 1) A c x W hv (HP.out.below hb) hc (by omega) (by omega))
      rw [show ((deep + 1 : Nat) : Int) = (deep : Int) + 1 by omega] at HVV
      have hv0 := Aside0.mk hv
      clear hv HV
      cases x with
      | none =>
        obtain rfl := Option.some.inj he
        clear he
        go_wp2_with (first | (go_at_call 85; refine (rskip_ok A c p a q _ HPr.out hal HQ.out).mono ?_; rintro e w1 ⟨rfl, rfl⟩) | (go_at_call 86; (with_reducible refine (B1c.out _ HPr.out).mono ?_); rintro e w1 ⟨rfl, rfl⟩) | (go_at_call 50; refine (HVV.out _ S0.out.bl).mono ?_; rintro e w8 ⟨hB8, k1, s1, n1, rfl⟩; have S8 := Aside0.mk (S0.out.step hB8); clear hB8; have SX := Aside0.mk (S8.out.alloc (.cells #[.int .u8 k1, .int .i64 0, .int .i64 0, .string s1, .slice none 0 0, .slice none 0 0] 34)); obtain ⟨⟨z0, z1, z2, z3, z4, z5⟩, y0, y1, y2, y3, y4, y5⟩ := six_c SX.out.blk; obtain ⟨⟨u0, u1, u2, u3, u4, u5⟩, t0, t1, t2, t3, t4, t5⟩ := six_c SX.out.cur; obtain ⟨⟨v0, v1, v2, v3, v4, v5⟩, x0, x1, x2, x3, x4, x5⟩ := six_c (blk_new w8 (.cells #[.int .u8 k1, .int .i64 0, .int .i64 0, .string s1, .slice none 0 0, .slice none 0 0] 34))))
        refine ret_put6 (v := .tuple #[.agg #[.int .u8 0, .int .i64 0, .int .i64 0, .string ⟨#[]⟩, .slice none 0 0, .slice none 0 0], .int .i64 0, .bool false]) SX.out.blk (fun W2 z0 z1 z2 z3 z4 z5 => by simp [results, Tryz.results87, go_sem, zeroV, z0, z1, z2, z3, z4, z5]) rfl ?_
        exact ⟨put6_below SX.out.bl (Nat.le_refl _) _ _ _ _ _ _, 0, ⟨#[]⟩, 0, rfl⟩
      | some x =>
        obtain ⟨x, q2⟩ := x
        have he2 := Aside0.mk he
        clear he
        have HQ2 : Aside0 (q2 ≤ p.length) := ⟨(rval_le p _).1 _ _ _ _ (by omega) hv0.out⟩
        go_wp2_with (first | (go_at_call 85; refine (rskip_ok A c p a q _ HPr.out hal HQ.out).mono ?_; rintro e w1 ⟨rfl, rfl⟩) | (go_at_call 86; (with_reducible refine (B1c.out _ HPr.out).mono ?_); rintro e w1 ⟨rfl, rfl⟩) | (go_at_call 50; refine (HVV.out _ S0.out.bl).mono ?_; rintro e w8 ⟨hB8, v4, v5, rfl, hv4, hv5, hq2⟩; have HV4 := Aside0.mk hv4; have HV5 := Aside0.mk hv5; obtain ⟨A4, c4, rfl, hl4⟩ := hv4.2.slice_; obtain ⟨A5, c5, rfl, hl5⟩ := hv5.2.slice_; clear hv4 hv5 hl4 hl5; have S8 := Aside0.mk (S0.out.step hB8); have HXM := Aside0.mk (S0.out.val HV4.out HV5.out (.cells #[.int .u8 x.f0, .int .i64 x.f1, .int .i64 x.f2, .string x.f3, .slice A4 x.f4.length c4, .slice A5 x.f5.length c5] 34)); clear hB8; have SX := Aside0.mk (S8.out.alloc (.cells #[.int .u8 x.f0, .int .i64 x.f1, .int .i64 x.f2, .string x.f3, .slice A4 x.f4.length c4, .slice A5 x.f5.length c5] 34)); obtain ⟨⟨z0, z1, z2, z3, z4, z5⟩, y0, y1, y2, y3, y4, y5⟩ := six_c (blk_new w8 (.cells #[.int .u8 x.f0, .int .i64 x.f1, .int .i64 x.f2, .string x.f3, .slice A4 x.f4.length c4, .slice A5 x.f5.length c5] 34)); obtain ⟨⟨u0, u1, u2, u3, u4, u5⟩, t0, t1, t2, t3, t4, t5⟩ := six_c SX.out.cur) | (at_builtin; refine Kd.R_append k34 (w0 := w) w.heap.size rfl (.tmp 71) (.tmp 73) 32 34 (.agg #[.int .u8 0, .int .i64 0, .int .i64 0, .string ⟨#[]⟩, .slice none 0 0, .slice none 0 0]) 88 rfl Tryz.underlying32 info34 rfl (by decide) (by decide) _ xs x [.int .u8 x.f0, .int .i64 x.f1, .int .i64 x.f2, .string x.f3, .slice A4 x.f4.length c4, .slice A5 x.f5.length c5] (okRL w.heap.size (.slice Ak ks.length ck)) (okRX _ w8) rfl (by rw [World.size_alloc]; rfl) HXM.out S0.out.okX SX.out.fresh SX.out.rl SX.out.bl SX.out.bl.size (by omega) ?_; intro v1 w9 hR9 hB9 hG9 hat9; obtain ⟨A1, c1, rfl, -⟩ := hR9.2.slice_; simp only [List.length_append, List.length_singleton] at hR9; have RR := Aside0.mk hR9; have HB := Aside0.mk hB9; have HG := Aside0.mk hG9; have HC3 := blk_grown SX.out.cur hG9 (RL.n2 SX.out); obtain ⟨⟨s0, s1, s2, s3, s4, s5⟩, r0, r1, r2, r3, r4, r5⟩ := six_c HC3; clear hR9 hB9 hG9 hat9 HC3))
        go_roundg k
        case measure => omega
        case rel => exact ⟨q2, by go_num, rfl, rfl, by omega, HQ2.out, ⟨_, _, _, _, ⟨he2.out, by rw [List.length_append, List.length_singleton]; have := HXL.out; omega, by rw [List.length_append, List.length_singleton]; omega⟩, RL.pushed SX.out HG.out RR.out HB.out⟩⟩
end Go.Proofs.YtnckaeehcldheaaGreatDoor.Ob
end

section
set_option linter.unusedVariables false
set_option linter.unusedSimpArgs false
namespace Go.Proofs.YtnckaeehcldheaaGreatDoor.Ob
open Go.RowKit Go.Shelf YtnckaeehcldheaaGreatDoorW.PrintWords
set_option maxRecDepth 100000 in
set_option maxHeartbeats 16000000 in
theorem rlist_dict (p : List UInt8) (hpl : p.length < 2147483640) (f : Nat) (hf : f ≤ 100000000000) (HV : Aside0 (∀ k, k < f → RVC p k)) (at_ deep : Nat) (A : Option Addr) (c : Nat) (r : RO) (w : World) (hr : rlistF p f at_ 6 [62, 62] deep [] [] = some r) (hp : RB w A p) (hc : p.length ≤ c) (hat : at_ ≤ p.length) (hd : deep ≤ 40) :
    Calls Tryz.prog 87 #[.slice A p.length c, .int .i64 (at_ : Int), .bool true, .int .i64 (deep : Int)] w (RValPost r w) := by
  have S0 := Aside0.mk (RL.start 6 w)
  have HR := Aside0.mk hr
  have HP := Aside0.mk hp
  have hw1 : IntKind.i64.wrap ((deep : Int) + 1) = (deep : Int) + 1 := IntWalk.i64_in _ (by omega)
  clear hr hp
  go_enter Tryz.func87, Tryz.ntmps87
  go_wp2_with fail
  go_loopg [1, 9, 10] f (fun k s1 s9 s10 wr => ∃ a : Nat, s1 = .int .i64 (a : Int) ∧ s9 = .int .i64 0 ∧ s10 = .bool false ∧ k ≤ f ∧ a ≤ p.length ∧ Aside0 (∃ xs ks lv kv, (rlistF p k a 6 [62, 62] deep xs ks = some r ∧ xs.length + k ≤ f ∧ ks.length ≤ xs.length) ∧ RL 6 w wr xs ks lv kv))
  case atStart => exact ⟨at_, rfl, rfl, rfl, Nat.le_refl _, hat, ⟨_, _, _, _, ⟨HR.out, by simp, by simp⟩, S0.out⟩⟩
  case round =>
    obtain ⟨a, rfl, rfl, rfl, hkf, hal, hrel⟩ := hrel
    obtain ⟨xs, ks, lv, kv, ⟨he, hxl, hkl⟩, hS⟩ := hrel.out
    clear hrel HR S0
    obtain ⟨Al, cl, rfl, -⟩ := hS.rl.2.slice_
    obtain ⟨Ak, ck, rfl, -⟩ := hS.rk.2.slice_
    cases gk with
    | zero => simp [rlistF] at he
    | succ k =>
    rw [rlistF] at he
    obtain ⟨q, hq⟩ : ∃ q, skipAt p a = q := ⟨_, rfl⟩
    have hql : q ≤ p.length := by rw [← hq]; exact skipAt_le hal
    have HQ := Aside0.mk hq
    rw [hq] at he
    have S0 := Aside0.mk hS
    have hls : xs.length ≤ 100000000000 := by omega
    have HXL := Aside0.mk hxl
    have HPr := Aside0.mk (HP.out.below hS.bl)
    clear hS hq
    cases t1 : pre p q [62, 62] with
    | true =>
      rw [if_pos t1] at he
      obtain ⟨E, hE⟩ : ∃ E, q + ([62, 62] : List UInt8).length = E := ⟨_, rfl⟩
      rw [hE] at he
      obtain rfl := Option.some.inj he
      have B1 := Aside0.mk t1
      have B1c := Aside0.mk (fun W hp => starts_ok A c p q ⟨#[62, 62]⟩ true W hp hc hql (by decide) B1.out)
      have hqf : q + 2 ≤ p.length := pre_le t1 (by simp)
      have hE1 : q + 2 = E := hE
      have hsum : (q : Int) + (2 : Int) = (E : Int) := by omega
      have hEl : Aside0 (E ≤ 2147483640) := ⟨by omega⟩
      have hwE : IntKind.i64.wrap (E : Int) = (E : Int) := IntWalk.i64_in _ (by omega)
      clear he t1 hE hE1
      obtain ⟨⟨z0, z1, z2, z3, z4, z5⟩, y0, y1, y2, y3, y4, y5⟩ := six_c S0.out.blk; obtain ⟨⟨u0, u1, u2, u3, u4, u5⟩, t0, t1, t2, t3, t4, t5⟩ := six_c S0.out.cur
      go_wp2_with (first | (go_at_call 85; refine (rskip_ok A c p a q _ HPr.out hal HQ.out).mono ?_; rintro e w1 ⟨rfl, rfl⟩) | (go_at_call 86; (with_reducible refine (B1c.out _ HPr.out).mono ?_); rintro e w1 ⟨rfl, rfl⟩))
      refine ret_put6 (v := .tuple #[.agg #[.int .u8 6, .int .i64 0, .int .i64 0, .string ⟨#[]⟩, .slice Al xs.length cl, .slice Ak ks.length ck], .int .i64 (E : Int), .bool true]) S0.out.blk (fun W2 z0 z1 z2 z3 z4 z5 => by simp [results, Tryz.results87, go_sem, zeroV, z0, z1, z2, z3, z4, z5]) rfl ?_
      exact ⟨put6_below S0.out.bl (Nat.le_refl _) _ _ _ _ _ _, _, _, rfl, Kd.R_mono (Kd.R_move S0.out.rl (fun k hk => put6_ne hk.1.1 _ _ _ _ _ _)) (fun _ _ => trivial), Kd.R_mono (Kd.R_move S0.out.rk (fun k hk => put6_ne hk.1 _ _ _ _ _ _)) (fun _ _ => trivial), hEl.out⟩
    | false =>
      rw [if_neg (by simp [t1])] at he
      have B1 := Aside0.mk t1
      have B1c := Aside0.mk (fun W hp => starts_ok A c p q ⟨#[62, 62]⟩ false W hp hc hql (by decide) B1.out)
      clear t1
      rw [if_pos rfl] at he
      cases t2 : pre p q [47] with
      | false =>
        rw [if_neg (by simp [t2])] at he
        obtain rfl := Option.some.inj he
        have B2 := Aside0.mk t2
        have B2c := Aside0.mk (fun W hp => starts_ok A c p q ⟨#[47]⟩ false W hp hc hql (by decide) B2.out)
        clear he t2 HV
        obtain ⟨⟨z0, z1, z2, z3, z4, z5⟩, y0, y1, y2, y3, y4, y5⟩ := six_c S0.out.blk; obtain ⟨⟨u0, u1, u2, u3, u4, u5⟩, t0, t1, t2, t3, t4, t5⟩ := six_c S0.out.cur
        go_wp2_with (first | (go_at_call 85; refine (rskip_ok A c p a q _ HPr.out hal HQ.out).mono ?_; rintro e w1 ⟨rfl, rfl⟩) | (go_at_call 86; (with_reducible refine (B1c.out _ HPr.out).mono ?_); rintro e w1 ⟨rfl, rfl⟩) | (go_at_call 86; (with_reducible refine (B2c.out _ HPr.out).mono ?_); rintro e w1 ⟨rfl, rfl⟩))
        refine ret_put6 (v := .tuple #[.agg #[.int .u8 0, .int .i64 0, .int .i64 0, .string ⟨#[]⟩, .slice none 0 0, .slice none 0 0], .int .i64 0, .bool false]) S0.out.blk (fun W2 z0 z1 z2 z3 z4 z5 => by simp [results, Tryz.results87, go_sem, zeroV, z0, z1, z2, z3, z4, z5]) rfl ?_
        exact ⟨put6_below S0.out.bl (Nat.le_refl _) _ _ _ _ _ _, 0, ⟨#[]⟩, 0, rfl⟩
      | true =>
        rw [if_pos t2] at he
        have B2 := Aside0.mk t2
        have B2c := Aside0.mk (fun W hp => starts_ok A c p q ⟨#[47]⟩ true W hp hc hql (by decide) B2.out)
        have hqf : q + 1 ≤ p.length := pre_le t2 (by simp)
        clear t2
        obtain ⟨E, hE⟩ : ∃ E, q + 1 = E := ⟨_, rfl⟩
        rw [hE] at he
        dsimp only at he
        have hE1 : E ≤ p.length := by omega
        have hsum : (q : Int) + 1 = (E : Int) := by omega
        have hwE : IntKind.i64.wrap (E : Int) = (E : Int) := IntWalk.i64_in _ (by omega)
        obtain ⟨s, hs⟩ : ∃ s, s = ofL (wordL (p.drop E)) := ⟨_, rfl⟩
        obtain ⟨a1, ha1⟩ : ∃ a1, E + (wordL (p.drop E)).length = a1 := ⟨_, rfl⟩
        have ha1l : a1 ≤ p.length := by rw [← ha1]; exact word_end_le p E hE1
        obtain ⟨pl, hpl2⟩ : ∃ b, plainL s.data.toList = b := ⟨_, rfl⟩
        have HN := Aside0.mk (fun W hW => rname_ok A c p E a1 s pl W hW hc (by omega) hE1 hs ha1 hpl2)
        rw [ha1, ← hs, show plainL (wordL (p.drop E)) = plainL s.data.toList by rw [hs, ofL_list], hpl2] at he
        clear hE hs ha1 hpl2
        cases pl with
        | false =>
          rw [if_neg (by simp)] at he
          obtain rfl := Option.some.inj he
          clear he HV
          go_wp2_with (first | (go_at_call 85; refine (rskip_ok A c p a q _ HPr.out hal HQ.out).mono ?_; rintro e w1 ⟨rfl, rfl⟩) | (go_at_call 86; (with_reducible refine (B1c.out _ HPr.out).mono ?_); rintro e w1 ⟨rfl, rfl⟩) | (go_at_call 86; (with_reducible refine (B2c.out _ HPr.out).mono ?_); rintro e w1 ⟨rfl, rfl⟩) | (go_at_call 89; refine (HN.out _ HPr.out).mono ?_; rintro e w3 ⟨rfl, hB3⟩; have S3 := Aside0.mk (S0.out.step hB3); clear hB3; obtain ⟨⟨z0, z1, z2, z3, z4, z5⟩, y0, y1, y2, y3, y4, y5⟩ := six_c S3.out.blk; obtain ⟨⟨u0, u1, u2, u3, u4, u5⟩, t0, t1, t2, t3, t4, t5⟩ := six_c S3.out.cur))
          refine ret_put6 (v := .tuple #[.agg #[.int .u8 0, .int .i64 0, .int .i64 0, .string ⟨#[]⟩, .slice none 0 0, .slice none 0 0], .int .i64 0, .bool false]) S3.out.blk (fun W2 z0 z1 z2 z3 z4 z5 => by simp [results, Tryz.results87, go_sem, zeroV, z0, z1, z2, z3, z4, z5]) rfl ?_
          exact ⟨put6_below S3.out.bl (Nat.le_refl _) _ _ _ _ _ _, 0, ⟨#[]⟩, 0, rfl⟩
        | true =>
          rw [if_pos rfl] at he
          cases hv : rvalF p k a1 (deep + 1) with
          | none => rw [hv] at he; exact absurd he (by simp)
          | some x =>
          rw [hv] at he
          have HVV := Aside0.mk (fun W (hb : Below w.heap.size w W) => HV.out k (by omega) a1 (deep + 1) A c x W hv (HP.out.below hb) hc (by omega) (by omega))
          rw [show ((deep + 1 : Nat) : Int) = (deep : Int) + 1 by omega] at HVV
          have hv0 := Aside0.mk hv
          clear hv HV
          cases x with
          | none =>
            obtain rfl := Option.some.inj he
            clear he
            go_wp2_with (first | (go_at_call 85; refine (rskip_ok A c p a q _ HPr.out hal HQ.out).mono ?_; rintro e w1 ⟨rfl, rfl⟩) | (go_at_call 86; (with_reducible refine (B1c.out _ HPr.out).mono ?_); rintro e w1 ⟨rfl, rfl⟩) | (go_at_call 86; (with_reducible refine (B2c.out _ HPr.out).mono ?_); rintro e w1 ⟨rfl, rfl⟩) | (go_at_call 89; refine (HN.out _ HPr.out).mono ?_; rintro e w3 ⟨rfl, hB3⟩; have S3 := Aside0.mk (S0.out.step hB3); clear hB3; obtain ⟨⟨z0, z1, z2, z3, z4, z5⟩, y0, y1, y2, y3, y4, y5⟩ := six_c S3.out.blk; obtain ⟨⟨u0, u1, u2, u3, u4, u5⟩, t0, t1, t2, t3, t4, t5⟩ := six_c S3.out.cur) | (at_builtin; refine Kd.R_append Kd.string (w0 := w) w.heap.size rfl (.tmp 52) (.tmp 54) 26 9 (.string ⟨#[]⟩) 16 rfl Tryz.underlying26 info9 rfl (by decide) (by decide) (.slice Ak ks.length ck) ks s [.string s] (okR w.heap.size) (fun _ => False) rfl rfl rfl (fun _ h => h.elim) (fun k hk => (S3.out.fresh k hk).1) S3.out.rk S3.out.bl S3.out.bl.size (by omega) ?_; intro v1 w4 hR4 hB4 hG4 hat4; obtain ⟨A1, c1, rfl, -⟩ := hR4.2.slice_; simp only [List.length_append, List.length_singleton] at hR4; have hat5 := Aside0.mk hat4; clear hat4; have HC4 := blk_grown S3.out.cur hG4 (RL.n3 S3.out); obtain ⟨⟨u0, u1, u2, u3, u4, u5⟩, t0, t1, t2, t3, t4, t5⟩ := six_c HC4; have S4 := Aside0.mk (RL.keyed S3.out hG4 hR4 hB4 (by have := hat5.out; simpa only [List.length_append, List.length_singleton] using this)); clear hR4 hB4 hG4 HC4 hat5) | (go_at_call 50; refine (HVV.out _ S4.out.bl).mono ?_; rintro e w8 ⟨hB8, k1, s1, n1, rfl⟩; have S8 := Aside0.mk (S4.out.step hB8); clear hB8; have SX := Aside0.mk (S8.out.alloc (.cells #[.int .u8 k1, .int .i64 0, .int .i64 0, .string s1, .slice none 0 0, .slice none 0 0] 34)); obtain ⟨⟨z0, z1, z2, z3, z4, z5⟩, y0, y1, y2, y3, y4, y5⟩ := six_c SX.out.blk; obtain ⟨⟨u0, u1, u2, u3, u4, u5⟩, t0, t1, t2, t3, t4, t5⟩ := six_c SX.out.cur; obtain ⟨⟨v0, v1, v2, v3, v4, v5⟩, x0, x1, x2, x3, x4, x5⟩ := six_c (blk_new w8 (.cells #[.int .u8 k1, .int .i64 0, .int .i64 0, .string s1, .slice none 0 0, .slice none 0 0] 34))))
            refine ret_put6 (v := .tuple #[.agg #[.int .u8 0, .int .i64 0, .int .i64 0, .string ⟨#[]⟩, .slice none 0 0, .slice none 0 0], .int .i64 0, .bool false]) SX.out.blk (fun W2 z0 z1 z2 z3 z4 z5 => by simp [results, Tryz.results87, go_sem, zeroV, z0, z1, z2, z3, z4, z5]) rfl ?_
            exact ⟨put6_below SX.out.bl (Nat.le_refl _) _ _ _ _ _ _, 0, ⟨#[]⟩, 0, rfl⟩
          | some x =>
            obtain ⟨x, q2⟩ := x
            have he2 := Aside0.mk he
            clear he
            have HQ2 : Aside0 (q2 ≤ p.length) := ⟨(rval_le p _).1 _ _ _ _ (by omega) hv0.out⟩
            go_wp2_with (first | (go_at_call 85; refine (rskip_ok A c p a q _ HPr.out hal HQ.out).mono ?_; rintro e w1 ⟨rfl, rfl⟩) | (go_at_call 86; (with_reducible refine (B1c.out _ HPr.out).mono ?_); rintro e w1 ⟨rfl, rfl⟩) | (go_at_call 86; (with_reducible refine (B2c.out _ HPr.out).mono ?_); rintro e w1 ⟨rfl, rfl⟩) | (go_at_call 89; refine (HN.out _ HPr.out).mono ?_; rintro e w3 ⟨rfl, hB3⟩; have S3 := Aside0.mk (S0.out.step hB3); clear hB3; obtain ⟨⟨z0, z1, z2, z3, z4, z5⟩, y0, y1, y2, y3, y4, y5⟩ := six_c S3.out.blk; obtain ⟨⟨u0, u1, u2, u3, u4, u5⟩, t0, t1, t2, t3, t4, t5⟩ := six_c S3.out.cur) | (at_builtin; refine Kd.R_append Kd.string (w0 := w) w.heap.size rfl (.tmp 52) (.tmp 54) 26 9 (.string ⟨#[]⟩) 16 rfl Tryz.underlying26 info9 rfl (by decide) (by decide) (.slice Ak ks.length ck) ks s [.string s] (okR w.heap.size) (fun _ => False) rfl rfl rfl (fun _ h => h.elim) (fun k hk => (S3.out.fresh k hk).1) S3.out.rk S3.out.bl S3.out.bl.size (by omega) ?_; intro v1 w4 hR4 hB4 hG4 hat4; obtain ⟨A1, c1, rfl, -⟩ := hR4.2.slice_; simp only [List.length_append, List.length_singleton] at hR4; have hat5 := Aside0.mk hat4; clear hat4; have HC4 := blk_grown S3.out.cur hG4 (RL.n3 S3.out); obtain ⟨⟨u0, u1, u2, u3, u4, u5⟩, t0, t1, t2, t3, t4, t5⟩ := six_c HC4; have S4 := Aside0.mk (RL.keyed S3.out hG4 hR4 hB4 (by have := hat5.out; simpa only [List.length_append, List.length_singleton] using this)); clear hR4 hB4 hG4 HC4 hat5) | (go_at_call 50; refine (HVV.out _ S4.out.bl).mono ?_; rintro e w8 ⟨hB8, v4, v5, rfl, hv4, hv5, hq2⟩; have HV4 := Aside0.mk hv4; have HV5 := Aside0.mk hv5; obtain ⟨A4, c4, rfl, hl4⟩ := hv4.2.slice_; obtain ⟨A5, c5, rfl, hl5⟩ := hv5.2.slice_; clear hv4 hv5 hl4 hl5; have S8 := Aside0.mk (S4.out.step hB8); have HXM := Aside0.mk (S4.out.val HV4.out HV5.out (.cells #[.int .u8 x.f0, .int .i64 x.f1, .int .i64 x.f2, .string x.f3, .slice A4 x.f4.length c4, .slice A5 x.f5.length c5] 34)); clear hB8; have SX := Aside0.mk (S8.out.alloc (.cells #[.int .u8 x.f0, .int .i64 x.f1, .int .i64 x.f2, .string x.f3, .slice A4 x.f4.length c4, .slice A5 x.f5.length c5] 34)); obtain ⟨⟨z0, z1, z2, z3, z4, z5⟩, y0, y1, y2, y3, y4, y5⟩ := six_c (blk_new w8 (.cells #[.int .u8 x.f0, .int .i64 x.f1, .int .i64 x.f2, .string x.f3, .slice A4 x.f4.length c4, .slice A5 x.f5.length c5] 34)); obtain ⟨⟨u0, u1, u2, u3, u4, u5⟩, t0, t1, t2, t3, t4, t5⟩ := six_c SX.out.cur) | (at_builtin; refine Kd.R_append k34 (w0 := w) w.heap.size rfl (.tmp 71) (.tmp 73) 32 34 (.agg #[.int .u8 0, .int .i64 0, .int .i64 0, .string ⟨#[]⟩, .slice none 0 0, .slice none 0 0]) 88 rfl Tryz.underlying32 info34 rfl (by decide) (by decide) _ xs x [.int .u8 x.f0, .int .i64 x.f1, .int .i64 x.f2, .string x.f3, .slice A4 x.f4.length c4, .slice A5 x.f5.length c5] (okRL w.heap.size (.slice A1 (ks.length + 1) c1)) (okRX _ w8) rfl (by rw [World.size_alloc]; rfl) HXM.out S4.out.okX SX.out.fresh SX.out.rl SX.out.bl SX.out.bl.size (by omega) ?_; intro v1 w9 hR9 hB9 hG9 hat9; obtain ⟨A2, c2, rfl, -⟩ := hR9.2.slice_; simp only [List.length_append, List.length_singleton] at hR9; have RR := Aside0.mk hR9; have HB := Aside0.mk hB9; have HG := Aside0.mk hG9; have HC3 := blk_grown SX.out.cur hG9 (RL.n2 SX.out); obtain ⟨⟨s0, s1, s2, s3, s4, s5⟩, r0, r1, r2, r3, r4, r5⟩ := six_c HC3; clear hR9 hB9 hG9 hat9 HC3))
            go_roundg k
            case measure => omega
            case rel => exact ⟨q2, by go_num, rfl, rfl, by omega, HQ2.out, ⟨_, _, _, _, ⟨he2.out, by rw [List.length_append, List.length_singleton]; have := HXL.out; omega, by rw [List.length_append, List.length_append, List.length_singleton, List.length_singleton]; omega⟩, RL.pushed SX.out HG.out RR.out HB.out⟩⟩
end Go.Proofs.YtnckaeehcldheaaGreatDoor.Ob
end

section
set_option linter.unusedVariables false
set_option linter.unusedSimpArgs false
namespace Go.Proofs.YtnckaeehcldheaaGreatDoor.Ob
open Go.RowKit Go.Shelf YtnckaeehcldheaaGreatDoorW.PrintWords
theorem rlist_of (p : List UInt8) (hpl : p.length < 2147483640) (f : Nat) (hf : f ≤ 100000000000) (hV : ∀ k, k < f → RVC p k) : RLC p f := by
  intro at_ deep A c dict r w hr hp hc hat hd
  cases dict with
  | false => exact rlist_arr p hpl f hf ⟨hV⟩ at_ deep A c r w hr hp hc hat hd
  | true => exact rlist_dict p hpl f hf ⟨hV⟩ at_ deep A c r w hr hp hc hat hd
theorem pre1 {p : List UInt8} {q : Nat} (h : q < p.length) (c : UInt8) : pre p q [c] = (p[q] == c) := by
  unfold pre Lib.hasPrefix
  rw [List.drop_eq_getElem_cons h]
  rw [Bool.eq_iff_iff, List.isPrefixOf_iff_prefix, List.cons_prefix_cons]
  constructor
  · rintro ⟨h1, _⟩; rw [h1]; simp
  · intro h1; exact ⟨(beq_iff_eq.1 h1).symm, List.nil_prefix⟩
theorem rnumo_none {s : ByteArray} (hs : s.size ≤ 4294967281) (h : numR s.data.toList = none) (w : World) :
    Calls Tryz.prog 91 #[.string s] w fun e w' => e = .returned (.tuple #[.int .i64 0, .bool false]) ∧ w' = w := by
  have := rnumber_ok s w hs
  rw [h] at this
  exact this
theorem rnumo_some {s : ByteArray} {n : Int} (hs : s.size ≤ 4294967281) (h : numR s.data.toList = some n) (w : World) :
    Calls Tryz.prog 91 #[.string s] w fun e w' => e = .returned (.tuple #[.int .i64 n, .bool true]) ∧ w' = w := by
  have := rnumber_ok s w hs
  rw [h] at this
  exact this
theorem rtext_none {A : Option Addr} {c : Nat} {p : List UInt8} {at_ : Nat} {w : World} (hp : RB w A p) (hpl : p.length < 4294967281) (hat : at_ ≤ p.length) (ho : textS p at_ = none) :
    Calls Tryz.prog 88 #[.slice A p.length c, .int .i64 (at_ : Int)] w fun e w' => ∃ s n, e = .returned (.tuple #[.string s, .int .i64 n, .bool false]) ∧ Below w.heap.size w w' := by
  refine (rtext_ok A c p at_ none w hp hpl hat ho).mono ?_
  rintro e w' ⟨hb, s, n, he⟩
  exact ⟨s, n, he, hb⟩
theorem rtext_some {A : Option Addr} {c : Nat} {p : List UInt8} {at_ k : Nat} {t : List UInt8} {w : World} (hp : RB w A p) (hpl : p.length < 4294967281) (hat : at_ ≤ p.length) (ho : textS p at_ = some (t, k)) :
    Calls Tryz.prog 88 #[.slice A p.length c, .int .i64 (at_ : Int)] w fun e w' => e = .returned (.tuple #[.string (ofL t), .int .i64 (k : Int), .bool true]) ∧ Below w.heap.size w w' := by
  refine (rtext_ok A c p at_ (some (t, k)) w hp hpl hat ho).mono ?_
  rintro e w' ⟨hb, he⟩
  exact ⟨he, hb⟩
set_option maxRecDepth 100000 in
set_option maxHeartbeats 16000000 in
theorem rv1n (p : List UInt8) (hpl : p.length < 2147483640) (f : Nat) (HL : Aside0 (RLC p f)) (at_ deep : Nat) (A : Option Addr) (c : Nat) (w : World) (q : Nat) (hr : rlistF p f (q + 2) 6 [62, 62] deep [] [] = some none) (hp : RB w A p) (hc : p.length ≤ c) (hat : at_ ≤ p.length) (hd40 : deep ≤ 40) (hq : skipAt p at_ = q) (hql : q < p.length) (b : UInt8) (hb : p[q]'hql = b) (B1 : Aside0 (pre p q [60, 60] = true)) :
    Calls Tryz.prog 50 #[.slice A p.length c, .int .i64 (at_ : Int), .int .i64 (deep : Int)] w (RValPost none w) := by
  have HQ := Aside0.mk hq
  obtain ⟨w0, hw0⟩ : ∃ w0, w0 = w.alloc (.cells #[.int .u8 0, .int .i64 0, .int .i64 0, .string ⟨#[]⟩, .slice none 0 0, .slice none 0 0] 34) := ⟨_, rfl⟩
  have hA : Below w.heap.size w w0 := by rw [hw0]; exact (Below.refl _ _).alloc (Nat.le_refl _) _
  have L0 := Aside0.mk (show w0.heap[w.heap.size]? = some (.cells #[.int .u8 0, .int .i64 0, .int .i64 0, .string ⟨#[]⟩, .slice none 0 0, .slice none 0 0] 34 (0, 0)) by rw [hw0]; exact heap_alloc_new w _)
  have P0 := Aside0.mk (hp.below hA)
  have HA := Aside0.mk hA
  obtain ⟨ad, e, hcell⟩ := P0.out.at_ q hql
  subst e
  rw [hb] at hcell
  have hql' : q ≤ p.length := by omega
  have hBl : w.heap.size < w0.heap.size := (Array.getElem?_eq_some_iff.1 L0.out).1
  have B1c := Aside0.mk (starts_ok (some ad) c p q ⟨#[60, 60]⟩ true w0 P0.out hc hql' (by decide) B1.out)
  have HSK := Aside0.mk (rskip_ok (some ad) c p at_ q w0 P0.out hat HQ.out)
  clear hq hA hp hb 
  obtain ⟨E, hE⟩ : ∃ E, q + 2 = E := ⟨_, rfl⟩
  have hsum : (q : Int) + 2 = (E : Int) := by omega
  have hwE : IntKind.i64.wrap (E : Int) = (E : Int) := IntWalk.i64_in _ (by omega)
  rw [hE] at hr
  have hEl : E ≤ p.length := by first | omega | (have := pre_le B1.out (by simp); simp at this; omega)
  have HLL := Aside0.mk (HL.out E deep (some ad) c true none w0 hr P0.out hc hEl hd40)
  clear hE hr
  go_enter Tryz.func50, Tryz.ntmps50
  go_wp2_with fail
  rw [← hw0]
  clear hw0
  go_wp2_with (first | (go_at_call 85; (with_reducible refine HSK.out.mono ?_); rintro e w1 ⟨rfl, rfl⟩) | (go_at_call 86; (with_reducible refine B1c.out.mono ?_); rintro e w1 ⟨rfl, rfl⟩) | (go_at_call 87; (with_reducible refine HLL.out.mono ?_); rintro e w2 ⟨hb2, k1, s1, n1, rfl⟩; have H2 := Aside0.mk (HA.out.trans (hb2.mono HA.out.size)); have L2 := Aside0.mk (blk_below hb2 L0.out); clear hb2; obtain ⟨⟨z0, z1, z2, z3, z4, z5⟩, y0, y1, y2, y3, y4, y5⟩ := six_c L2.out))
  refine ret_put6 (v := .tuple #[.agg #[.int .u8 k1, .int .i64 0, .int .i64 0, .string s1, .slice none 0 0, .slice none 0 0], .int .i64 n1, .bool false]) L2.out (fun W2 z0 z1 z2 z3 z4 z5 => by simp [results, Tryz.results50, go_sem, zeroV, z0, z1, z2, z3, z4, z5]) rfl ?_
  exact ⟨put6_below H2.out (Nat.le_refl _) _ _ _ _ _ _, k1, s1, n1, rfl⟩
set_option maxRecDepth 100000 in
set_option maxHeartbeats 16000000 in
theorem rv1s (p : List UInt8) (hpl : p.length < 2147483640) (f : Nat) (HL : Aside0 (RLC p f)) (at_ deep : Nat) (A : Option Addr) (c : Nat) (v : S28) (k : Nat) (w : World) (q : Nat) (hr : rlistF p f (q + 2) 6 [62, 62] deep [] [] = some (some (v, k))) (hp : RB w A p) (hc : p.length ≤ c) (hat : at_ ≤ p.length) (hd40 : deep ≤ 40) (hq : skipAt p at_ = q) (hql : q < p.length) (b : UInt8) (hb : p[q]'hql = b) (B1 : Aside0 (pre p q [60, 60] = true)) :
    Calls Tryz.prog 50 #[.slice A p.length c, .int .i64 (at_ : Int), .int .i64 (deep : Int)] w (RValPost (some (v, k)) w) := by
  have HQ := Aside0.mk hq
  obtain ⟨w0, hw0⟩ : ∃ w0, w0 = w.alloc (.cells #[.int .u8 0, .int .i64 0, .int .i64 0, .string ⟨#[]⟩, .slice none 0 0, .slice none 0 0] 34) := ⟨_, rfl⟩
  have hA : Below w.heap.size w w0 := by rw [hw0]; exact (Below.refl _ _).alloc (Nat.le_refl _) _
  have L0 := Aside0.mk (show w0.heap[w.heap.size]? = some (.cells #[.int .u8 0, .int .i64 0, .int .i64 0, .string ⟨#[]⟩, .slice none 0 0, .slice none 0 0] 34 (0, 0)) by rw [hw0]; exact heap_alloc_new w _)
  have P0 := Aside0.mk (hp.below hA)
  have HA := Aside0.mk hA
  obtain ⟨ad, e, hcell⟩ := P0.out.at_ q hql
  subst e
  rw [hb] at hcell
  have hql' : q ≤ p.length := by omega
  have hBl : w.heap.size < w0.heap.size := (Array.getElem?_eq_some_iff.1 L0.out).1
  have B1c := Aside0.mk (starts_ok (some ad) c p q ⟨#[60, 60]⟩ true w0 P0.out hc hql' (by decide) B1.out)
  have HSK := Aside0.mk (rskip_ok (some ad) c p at_ q w0 P0.out hat HQ.out)
  clear hq hA hp hb 
  obtain ⟨E, hE⟩ : ∃ E, q + 2 = E := ⟨_, rfl⟩
  have hsum : (q : Int) + 2 = (E : Int) := by omega
  have hwE : IntKind.i64.wrap (E : Int) = (E : Int) := IntWalk.i64_in _ (by omega)
  rw [hE] at hr
  have hEl : E ≤ p.length := by first | omega | (have := pre_le B1.out (by simp); simp at this; omega)
  have HLL := Aside0.mk (HL.out E deep (some ad) c true (some (v, k)) w0 hr P0.out hc hEl hd40)
  clear hE hr
  go_enter Tryz.func50, Tryz.ntmps50
  go_wp2_with fail
  rw [← hw0]
  clear hw0
  go_wp2_with (first | (go_at_call 85; (with_reducible refine HSK.out.mono ?_); rintro e w1 ⟨rfl, rfl⟩) | (go_at_call 86; (with_reducible refine B1c.out.mono ?_); rintro e w1 ⟨rfl, rfl⟩) | (go_at_call 87; (with_reducible refine HLL.out.mono ?_); rintro e w2 ⟨hb2, v4, v5, rfl, hv4, hv5, hk2⟩; have H2 := Aside0.mk (HA.out.trans (hb2.mono HA.out.size)); have HV4 := Aside0.mk hv4; have HV5 := Aside0.mk hv5; have HK2 := Aside0.mk hk2; obtain ⟨A4, c4, rfl, hl4⟩ := hv4.2.slice_; obtain ⟨A5, c5, rfl, hl5⟩ := hv5.2.slice_; have L2 := Aside0.mk (blk_below hb2 L0.out); clear hb2 hv4 hv5 hl4 hl5; obtain ⟨⟨z0, z1, z2, z3, z4, z5⟩, y0, y1, y2, y3, y4, y5⟩ := six_c L2.out))
  refine ret_put6 (v := .tuple #[.agg #[.int .u8 v.f0, .int .i64 v.f1, .int .i64 v.f2, .string v.f3, .slice A4 v.f4.length c4, .slice A5 v.f5.length c5], .int .i64 k, .bool true]) L2.out (fun W2 z0 z1 z2 z3 z4 z5 => by simp [results, Tryz.results50, go_sem, zeroV, z0, z1, z2, z3, z4, z5]) rfl ?_
  exact ⟨put6_below H2.out (Nat.le_refl _) _ _ _ _ _ _, _, _, rfl, Kd.R_lower (R_put6 HV4.out hBl _ _ _ _ _ _) (Nat.le_of_lt hBl), Kd.R_lower (R_put6 HV5.out hBl _ _ _ _ _ _) (Nat.le_of_lt hBl), HK2.out⟩
set_option maxRecDepth 100000 in
set_option maxHeartbeats 16000000 in
theorem rv2n (p : List UInt8) (hpl : p.length < 2147483640) (f : Nat) (HL : Aside0 (RLC p f)) (at_ deep : Nat) (A : Option Addr) (c : Nat) (w : World) (q : Nat) (hr : rlistF p f (q + 1) 5 [93] deep [] [] = some none) (hp : RB w A p) (hc : p.length ≤ c) (hat : at_ ≤ p.length) (hd40 : deep ≤ 40) (hq : skipAt p at_ = q) (hql : q < p.length) (b : UInt8) (hb : p[q]'hql = b) (B1 : Aside0 (pre p q [60, 60] = false)) (h91 : b = 91) :
    Calls Tryz.prog 50 #[.slice A p.length c, .int .i64 (at_ : Int), .int .i64 (deep : Int)] w (RValPost none w) := by
  have HQ := Aside0.mk hq
  obtain ⟨w0, hw0⟩ : ∃ w0, w0 = w.alloc (.cells #[.int .u8 0, .int .i64 0, .int .i64 0, .string ⟨#[]⟩, .slice none 0 0, .slice none 0 0] 34) := ⟨_, rfl⟩
  have hA : Below w.heap.size w w0 := by rw [hw0]; exact (Below.refl _ _).alloc (Nat.le_refl _) _
  have L0 := Aside0.mk (show w0.heap[w.heap.size]? = some (.cells #[.int .u8 0, .int .i64 0, .int .i64 0, .string ⟨#[]⟩, .slice none 0 0, .slice none 0 0] 34 (0, 0)) by rw [hw0]; exact heap_alloc_new w _)
  have P0 := Aside0.mk (hp.below hA)
  have HA := Aside0.mk hA
  obtain ⟨ad, e, hcell⟩ := P0.out.at_ q hql
  subst e
  rw [hb] at hcell
  have hql' : q ≤ p.length := by omega
  have hBl : w.heap.size < w0.heap.size := (Array.getElem?_eq_some_iff.1 L0.out).1
  have B1c := Aside0.mk (starts_ok (some ad) c p q ⟨#[60, 60]⟩ false w0 P0.out hc hql' (by decide) B1.out)
  have HSK := Aside0.mk (rskip_ok (some ad) c p at_ q w0 P0.out hat HQ.out)
  have e91 : ((b.toNat : Int) == 91) = true := by rw [h91]; rfl
  clear hq hA hp hb h91
  obtain ⟨E, hE⟩ : ∃ E, q + 1 = E := ⟨_, rfl⟩
  have hsum : (q : Int) + 1 = (E : Int) := by omega
  have hwE : IntKind.i64.wrap (E : Int) = (E : Int) := IntWalk.i64_in _ (by omega)
  rw [hE] at hr
  have hEl : E ≤ p.length := by first | omega | (have := pre_le B1.out (by simp); simp at this; omega)
  have HLL := Aside0.mk (HL.out E deep (some ad) c false none w0 hr P0.out hc hEl hd40)
  clear hE hr
  go_enter Tryz.func50, Tryz.ntmps50
  go_wp2_with fail
  rw [← hw0]
  clear hw0
  go_wp2_with (first | (go_at_call 85; (with_reducible refine HSK.out.mono ?_); rintro e w1 ⟨rfl, rfl⟩) | (go_at_call 86; (with_reducible refine B1c.out.mono ?_); rintro e w1 ⟨rfl, rfl⟩) | (go_at_call 87; (with_reducible refine HLL.out.mono ?_); rintro e w2 ⟨hb2, k1, s1, n1, rfl⟩; have H2 := Aside0.mk (HA.out.trans (hb2.mono HA.out.size)); have L2 := Aside0.mk (blk_below hb2 L0.out); clear hb2; obtain ⟨⟨z0, z1, z2, z3, z4, z5⟩, y0, y1, y2, y3, y4, y5⟩ := six_c L2.out))
  refine ret_put6 (v := .tuple #[.agg #[.int .u8 k1, .int .i64 0, .int .i64 0, .string s1, .slice none 0 0, .slice none 0 0], .int .i64 n1, .bool false]) L2.out (fun W2 z0 z1 z2 z3 z4 z5 => by simp [results, Tryz.results50, go_sem, zeroV, z0, z1, z2, z3, z4, z5]) rfl ?_
  exact ⟨put6_below H2.out (Nat.le_refl _) _ _ _ _ _ _, k1, s1, n1, rfl⟩
set_option maxRecDepth 100000 in
set_option maxHeartbeats 16000000 in
theorem rv2s (p : List UInt8) (hpl : p.length < 2147483640) (f : Nat) (HL : Aside0 (RLC p f)) (at_ deep : Nat) (A : Option Addr) (c : Nat) (v : S28) (k : Nat) (w : World) (q : Nat) (hr : rlistF p f (q + 1) 5 [93] deep [] [] = some (some (v, k))) (hp : RB w A p) (hc : p.length ≤ c) (hat : at_ ≤ p.length) (hd40 : deep ≤ 40) (hq : skipAt p at_ = q) (hql : q < p.length) (b : UInt8) (hb : p[q]'hql = b) (B1 : Aside0 (pre p q [60, 60] = false)) (h91 : b = 91) :
    Calls Tryz.prog 50 #[.slice A p.length c, .int .i64 (at_ : Int), .int .i64 (deep : Int)] w (RValPost (some (v, k)) w) := by
  have HQ := Aside0.mk hq
  obtain ⟨w0, hw0⟩ : ∃ w0, w0 = w.alloc (.cells #[.int .u8 0, .int .i64 0, .int .i64 0, .string ⟨#[]⟩, .slice none 0 0, .slice none 0 0] 34) := ⟨_, rfl⟩
  have hA : Below w.heap.size w w0 := by rw [hw0]; exact (Below.refl _ _).alloc (Nat.le_refl _) _
  have L0 := Aside0.mk (show w0.heap[w.heap.size]? = some (.cells #[.int .u8 0, .int .i64 0, .int .i64 0, .string ⟨#[]⟩, .slice none 0 0, .slice none 0 0] 34 (0, 0)) by rw [hw0]; exact heap_alloc_new w _)
  have P0 := Aside0.mk (hp.below hA)
  have HA := Aside0.mk hA
  obtain ⟨ad, e, hcell⟩ := P0.out.at_ q hql
  subst e
  rw [hb] at hcell
  have hql' : q ≤ p.length := by omega
  have hBl : w.heap.size < w0.heap.size := (Array.getElem?_eq_some_iff.1 L0.out).1
  have B1c := Aside0.mk (starts_ok (some ad) c p q ⟨#[60, 60]⟩ false w0 P0.out hc hql' (by decide) B1.out)
  have HSK := Aside0.mk (rskip_ok (some ad) c p at_ q w0 P0.out hat HQ.out)
  have e91 : ((b.toNat : Int) == 91) = true := by rw [h91]; rfl
  clear hq hA hp hb h91
  obtain ⟨E, hE⟩ : ∃ E, q + 1 = E := ⟨_, rfl⟩
  have hsum : (q : Int) + 1 = (E : Int) := by omega
  have hwE : IntKind.i64.wrap (E : Int) = (E : Int) := IntWalk.i64_in _ (by omega)
  rw [hE] at hr
  have hEl : E ≤ p.length := by first | omega | (have := pre_le B1.out (by simp); simp at this; omega)
  have HLL := Aside0.mk (HL.out E deep (some ad) c false (some (v, k)) w0 hr P0.out hc hEl hd40)
  clear hE hr
  go_enter Tryz.func50, Tryz.ntmps50
  go_wp2_with fail
  rw [← hw0]
  clear hw0
  go_wp2_with (first | (go_at_call 85; (with_reducible refine HSK.out.mono ?_); rintro e w1 ⟨rfl, rfl⟩) | (go_at_call 86; (with_reducible refine B1c.out.mono ?_); rintro e w1 ⟨rfl, rfl⟩) | (go_at_call 87; (with_reducible refine HLL.out.mono ?_); rintro e w2 ⟨hb2, v4, v5, rfl, hv4, hv5, hk2⟩; have H2 := Aside0.mk (HA.out.trans (hb2.mono HA.out.size)); have HV4 := Aside0.mk hv4; have HV5 := Aside0.mk hv5; have HK2 := Aside0.mk hk2; obtain ⟨A4, c4, rfl, hl4⟩ := hv4.2.slice_; obtain ⟨A5, c5, rfl, hl5⟩ := hv5.2.slice_; have L2 := Aside0.mk (blk_below hb2 L0.out); clear hb2 hv4 hv5 hl4 hl5; obtain ⟨⟨z0, z1, z2, z3, z4, z5⟩, y0, y1, y2, y3, y4, y5⟩ := six_c L2.out))
  refine ret_put6 (v := .tuple #[.agg #[.int .u8 v.f0, .int .i64 v.f1, .int .i64 v.f2, .string v.f3, .slice A4 v.f4.length c4, .slice A5 v.f5.length c5], .int .i64 k, .bool true]) L2.out (fun W2 z0 z1 z2 z3 z4 z5 => by simp [results, Tryz.results50, go_sem, zeroV, z0, z1, z2, z3, z4, z5]) rfl ?_
  exact ⟨put6_below H2.out (Nat.le_refl _) _ _ _ _ _ _, _, _, rfl, Kd.R_lower (R_put6 HV4.out hBl _ _ _ _ _ _) (Nat.le_of_lt hBl), Kd.R_lower (R_put6 HV5.out hBl _ _ _ _ _ _) (Nat.le_of_lt hBl), HK2.out⟩
set_option maxRecDepth 100000 in
set_option maxHeartbeats 16000000 in
theorem rv3n (p : List UInt8) (hpl : p.length < 2147483640) (f : Nat) (HL : Aside0 (RLC p f)) (at_ deep : Nat) (A : Option Addr) (c : Nat) (w : World) (q : Nat) (hr : textS p (q + 1) = none) (hp : RB w A p) (hc : p.length ≤ c) (hat : at_ ≤ p.length) (hd40 : deep ≤ 40) (hq : skipAt p at_ = q) (hql : q < p.length) (b : UInt8) (hb : p[q]'hql = b) (B1 : Aside0 (pre p q [60, 60] = false)) (h91 : ¬ b = 91) (h60 : b = 60) :
    Calls Tryz.prog 50 #[.slice A p.length c, .int .i64 (at_ : Int), .int .i64 (deep : Int)] w (RValPost none w) := by
  have HQ := Aside0.mk hq
  obtain ⟨w0, hw0⟩ : ∃ w0, w0 = w.alloc (.cells #[.int .u8 0, .int .i64 0, .int .i64 0, .string ⟨#[]⟩, .slice none 0 0, .slice none 0 0] 34) := ⟨_, rfl⟩
  have hA : Below w.heap.size w w0 := by rw [hw0]; exact (Below.refl _ _).alloc (Nat.le_refl _) _
  have L0 := Aside0.mk (show w0.heap[w.heap.size]? = some (.cells #[.int .u8 0, .int .i64 0, .int .i64 0, .string ⟨#[]⟩, .slice none 0 0, .slice none 0 0] 34 (0, 0)) by rw [hw0]; exact heap_alloc_new w _)
  have P0 := Aside0.mk (hp.below hA)
  have HA := Aside0.mk hA
  obtain ⟨ad, e, hcell⟩ := P0.out.at_ q hql
  subst e
  rw [hb] at hcell
  have hql' : q ≤ p.length := by omega
  have hBl : w.heap.size < w0.heap.size := (Array.getElem?_eq_some_iff.1 L0.out).1
  have B1c := Aside0.mk (starts_ok (some ad) c p q ⟨#[60, 60]⟩ false w0 P0.out hc hql' (by decide) B1.out)
  have HSK := Aside0.mk (rskip_ok (some ad) c p at_ q w0 P0.out hat HQ.out)
  have e91 : ((b.toNat : Int) == 91) = false := beq_eq_false_iff_ne.mpr (fun h => h91 (UInt8.toNat_inj.1 (by show b.toNat = 91; omega)))
  have e60 : ((b.toNat : Int) == 60) = true := by rw [h60]; rfl
  clear hq hA hp hb h91 h60
  obtain ⟨E, hE⟩ : ∃ E, q + 1 = E := ⟨_, rfl⟩
  have hsum : (q : Int) + 1 = (E : Int) := by omega
  have hwE : IntKind.i64.wrap (E : Int) = (E : Int) := IntWalk.i64_in _ (by omega)
  have hEl : E ≤ p.length := by omega
  rw [hE] at hr
  have HT := Aside0.mk (rtext_none (c := c) P0.out (by omega) hEl hr)
  clear hE hr
  go_enter Tryz.func50, Tryz.ntmps50
  go_wp2_with fail
  rw [← hw0]
  clear hw0
  go_wp2_with (first | (go_at_call 85; (with_reducible refine HSK.out.mono ?_); rintro e w1 ⟨rfl, rfl⟩) | (go_at_call 86; (with_reducible refine B1c.out.mono ?_); rintro e w1 ⟨rfl, rfl⟩) | (go_at_call 88; (with_reducible refine HT.out.mono ?_); rintro e w2 ⟨s1, n1, rfl, hb2⟩; have H2 := Aside0.mk (HA.out.trans (hb2.mono HA.out.size)); have L2 := Aside0.mk (blk_below hb2 L0.out); have P2 := Aside0.mk (P0.out.below hb2); clear hb2; obtain ⟨⟨z0, z1, z2, z3, z4, z5⟩, y0, y1, y2, y3, y4, y5⟩ := six_c L2.out))
  refine ret_put6 (v := .tuple #[.agg #[.int .u8 4, .int .i64 0, .int .i64 0, .string s1, .slice none 0 0, .slice none 0 0], .int .i64 n1, .bool false]) L2.out (fun W2 z0 z1 z2 z3 z4 z5 => by simp [results, Tryz.results50, go_sem, zeroV, z0, z1, z2, z3, z4, z5]) rfl ?_
  exact ⟨put6_below H2.out (Nat.le_refl _) _ _ _ _ _ _, 4, s1, n1, rfl⟩
set_option maxRecDepth 100000 in
set_option maxHeartbeats 16000000 in
theorem rv3s (p : List UInt8) (hpl : p.length < 2147483640) (f : Nat) (HL : Aside0 (RLC p f)) (at_ deep : Nat) (A : Option Addr) (c : Nat) (t : List UInt8) (k : Nat) (w : World) (q : Nat) (hr : textS p (q + 1) = some (t, k)) (hp : RB w A p) (hc : p.length ≤ c) (hat : at_ ≤ p.length) (hd40 : deep ≤ 40) (hq : skipAt p at_ = q) (hql : q < p.length) (b : UInt8) (hb : p[q]'hql = b) (B1 : Aside0 (pre p q [60, 60] = false)) (h91 : ¬ b = 91) (h60 : b = 60) :
    Calls Tryz.prog 50 #[.slice A p.length c, .int .i64 (at_ : Int), .int .i64 (deep : Int)] w (RValPost (some (⟨4, 0, 0, ofL t, [], []⟩, k)) w) := by
  have HQ := Aside0.mk hq
  obtain ⟨w0, hw0⟩ : ∃ w0, w0 = w.alloc (.cells #[.int .u8 0, .int .i64 0, .int .i64 0, .string ⟨#[]⟩, .slice none 0 0, .slice none 0 0] 34) := ⟨_, rfl⟩
  have hA : Below w.heap.size w w0 := by rw [hw0]; exact (Below.refl _ _).alloc (Nat.le_refl _) _
  have L0 := Aside0.mk (show w0.heap[w.heap.size]? = some (.cells #[.int .u8 0, .int .i64 0, .int .i64 0, .string ⟨#[]⟩, .slice none 0 0, .slice none 0 0] 34 (0, 0)) by rw [hw0]; exact heap_alloc_new w _)
  have P0 := Aside0.mk (hp.below hA)
  have HA := Aside0.mk hA
  obtain ⟨ad, e, hcell⟩ := P0.out.at_ q hql
  subst e
  rw [hb] at hcell
  have hql' : q ≤ p.length := by omega
  have hBl : w.heap.size < w0.heap.size := (Array.getElem?_eq_some_iff.1 L0.out).1
  have B1c := Aside0.mk (starts_ok (some ad) c p q ⟨#[60, 60]⟩ false w0 P0.out hc hql' (by decide) B1.out)
  have HSK := Aside0.mk (rskip_ok (some ad) c p at_ q w0 P0.out hat HQ.out)
  have e91 : ((b.toNat : Int) == 91) = false := beq_eq_false_iff_ne.mpr (fun h => h91 (UInt8.toNat_inj.1 (by show b.toNat = 91; omega)))
  have e60 : ((b.toNat : Int) == 60) = true := by rw [h60]; rfl
  clear hq hA hp hb h91 h60
  obtain ⟨E, hE⟩ : ∃ E, q + 1 = E := ⟨_, rfl⟩
  have hsum : (q : Int) + 1 = (E : Int) := by omega
  have hwE : IntKind.i64.wrap (E : Int) = (E : Int) := IntWalk.i64_in _ (by omega)
  have hEl : E ≤ p.length := by omega
  rw [hE] at hr
  have hk := (textS_far hEl hr).2
  have HK := Aside0.mk (show k ≤ 2147483640 by omega)
  have HT := Aside0.mk (rtext_some (c := c) P0.out (by omega) hEl hr)
  clear hE hr hk
  go_enter Tryz.func50, Tryz.ntmps50
  go_wp2_with fail
  rw [← hw0]
  clear hw0
  go_wp2_with (first | (go_at_call 85; (with_reducible refine HSK.out.mono ?_); rintro e w1 ⟨rfl, rfl⟩) | (go_at_call 86; (with_reducible refine B1c.out.mono ?_); rintro e w1 ⟨rfl, rfl⟩) | (go_at_call 88; (with_reducible refine HT.out.mono ?_); rintro e w2 ⟨rfl, hb2⟩; have H2 := Aside0.mk (HA.out.trans (hb2.mono HA.out.size)); have L2 := Aside0.mk (blk_below hb2 L0.out); have P2 := Aside0.mk (P0.out.below hb2); clear hb2; obtain ⟨⟨z0, z1, z2, z3, z4, z5⟩, y0, y1, y2, y3, y4, y5⟩ := six_c L2.out))
  refine ret_put6 (v := .tuple #[.agg #[.int .u8 4, .int .i64 0, .int .i64 0, .string (ofL t), .slice none 0 0, .slice none 0 0], .int .i64 k, .bool true]) L2.out (fun W2 z0 z1 z2 z3 z4 z5 => by simp [results, Tryz.results50, go_sem, zeroV, z0, z1, z2, z3, z4, z5]) rfl ?_
  exact ⟨put6_below H2.out (Nat.le_refl _) _ _ _ _ _ _, .slice none 0 0, .slice none 0 0, rfl, Kd.R_nil _ _ _ _ _, Kd.R_nil _ _ _ _ _, HK.out⟩
set_option maxRecDepth 100000 in
set_option maxHeartbeats 16000000 in
theorem rv4n (p : List UInt8) (hpl : p.length < 2147483640) (f : Nat) (HL : Aside0 (RLC p f)) (at_ deep : Nat) (A : Option Addr) (c : Nat) (w : World) (q : Nat) (hr : plainL (wordL (p.drop (q + 1))) = false) (hp : RB w A p) (hc : p.length ≤ c) (hat : at_ ≤ p.length) (hd40 : deep ≤ 40) (hq : skipAt p at_ = q) (hql : q < p.length) (b : UInt8) (hb : p[q]'hql = b) (B1 : Aside0 (pre p q [60, 60] = false)) (h91 : ¬ b = 91) (h60 : ¬ b = 60) (h47 : b = 47) :
    Calls Tryz.prog 50 #[.slice A p.length c, .int .i64 (at_ : Int), .int .i64 (deep : Int)] w (RValPost none w) := by
  have HQ := Aside0.mk hq
  obtain ⟨w0, hw0⟩ : ∃ w0, w0 = w.alloc (.cells #[.int .u8 0, .int .i64 0, .int .i64 0, .string ⟨#[]⟩, .slice none 0 0, .slice none 0 0] 34) := ⟨_, rfl⟩
  have hA : Below w.heap.size w w0 := by rw [hw0]; exact (Below.refl _ _).alloc (Nat.le_refl _) _
  have L0 := Aside0.mk (show w0.heap[w.heap.size]? = some (.cells #[.int .u8 0, .int .i64 0, .int .i64 0, .string ⟨#[]⟩, .slice none 0 0, .slice none 0 0] 34 (0, 0)) by rw [hw0]; exact heap_alloc_new w _)
  have P0 := Aside0.mk (hp.below hA)
  have HA := Aside0.mk hA
  obtain ⟨ad, e, hcell⟩ := P0.out.at_ q hql
  subst e
  rw [hb] at hcell
  have hql' : q ≤ p.length := by omega
  have hBl : w.heap.size < w0.heap.size := (Array.getElem?_eq_some_iff.1 L0.out).1
  have B1c := Aside0.mk (starts_ok (some ad) c p q ⟨#[60, 60]⟩ false w0 P0.out hc hql' (by decide) B1.out)
  have HSK := Aside0.mk (rskip_ok (some ad) c p at_ q w0 P0.out hat HQ.out)
  have e91 : ((b.toNat : Int) == 91) = false := beq_eq_false_iff_ne.mpr (fun h => h91 (UInt8.toNat_inj.1 (by show b.toNat = 91; omega)))
  have e60 : ((b.toNat : Int) == 60) = false := beq_eq_false_iff_ne.mpr (fun h => h60 (UInt8.toNat_inj.1 (by show b.toNat = 60; omega)))
  have e47 : ((b.toNat : Int) == 47) = true := by rw [h47]; rfl
  clear hq hA hp hb h91 h60 h47
  obtain ⟨E, hE⟩ : ∃ E, q + 1 = E := ⟨_, rfl⟩
  have hsum : (q : Int) + 1 = (E : Int) := by omega
  have hwE : IntKind.i64.wrap (E : Int) = (E : Int) := IntWalk.i64_in _ (by omega)
  have hEl : E ≤ p.length := by omega
  obtain ⟨s, hs⟩ : ∃ s, s = ofL (wordL (p.drop E)) := ⟨_, rfl⟩
  obtain ⟨a1, ha1⟩ : ∃ a1, E + (wordL (p.drop E)).length = a1 := ⟨_, rfl⟩
  have ha1l : a1 ≤ p.length := by rw [← ha1]; exact word_end_le p E hEl
  have HK := Aside0.mk (show a1 ≤ 2147483640 by omega)
  rw [hE] at hr
  have hr2 : plainL s.data.toList = false := by rw [hs, ofL_list]; exact hr
  have HN := Aside0.mk (rname_ok (some ad) c p E a1 s false w0 P0.out hc (by omega) hEl hs ha1 hr2)
  clear hE hr hr2 hs ha1
  go_enter Tryz.func50, Tryz.ntmps50
  go_wp2_with fail
  rw [← hw0]
  clear hw0
  go_wp2_with (first | (go_at_call 85; (with_reducible refine HSK.out.mono ?_); rintro e w1 ⟨rfl, rfl⟩) | (go_at_call 86; (with_reducible refine B1c.out.mono ?_); rintro e w1 ⟨rfl, rfl⟩) | (go_at_call 89; (with_reducible refine HN.out.mono ?_); rintro e w2 ⟨rfl, hb2⟩; have H2 := Aside0.mk (HA.out.trans (hb2.mono HA.out.size)); have L2 := Aside0.mk (blk_below hb2 L0.out); have P2 := Aside0.mk (P0.out.below hb2); clear hb2; obtain ⟨⟨z0, z1, z2, z3, z4, z5⟩, y0, y1, y2, y3, y4, y5⟩ := six_c L2.out))
  refine ret_put6 (v := .tuple #[.agg #[.int .u8 3, .int .i64 0, .int .i64 0, .string s, .slice none 0 0, .slice none 0 0], .int .i64 a1, .bool false]) L2.out (fun W2 z0 z1 z2 z3 z4 z5 => by simp [results, Tryz.results50, go_sem, zeroV, z0, z1, z2, z3, z4, z5]) rfl ?_
  exact ⟨put6_below H2.out (Nat.le_refl _) _ _ _ _ _ _, 3, s, a1, rfl⟩
set_option maxRecDepth 100000 in
set_option maxHeartbeats 16000000 in
theorem rv4s (p : List UInt8) (hpl : p.length < 2147483640) (f : Nat) (HL : Aside0 (RLC p f)) (at_ deep : Nat) (A : Option Addr) (c : Nat) (w : World) (q : Nat) (hr : plainL (wordL (p.drop (q + 1))) = true) (hp : RB w A p) (hc : p.length ≤ c) (hat : at_ ≤ p.length) (hd40 : deep ≤ 40) (hq : skipAt p at_ = q) (hql : q < p.length) (b : UInt8) (hb : p[q]'hql = b) (B1 : Aside0 (pre p q [60, 60] = false)) (h91 : ¬ b = 91) (h60 : ¬ b = 60) (h47 : b = 47) :
    Calls Tryz.prog 50 #[.slice A p.length c, .int .i64 (at_ : Int), .int .i64 (deep : Int)] w (RValPost (some (⟨3, 0, 0, ofL (wordL (p.drop (q + 1))), [], []⟩, q + 1 + (wordL (p.drop (q + 1))).length)) w) := by
  have HQ := Aside0.mk hq
  obtain ⟨w0, hw0⟩ : ∃ w0, w0 = w.alloc (.cells #[.int .u8 0, .int .i64 0, .int .i64 0, .string ⟨#[]⟩, .slice none 0 0, .slice none 0 0] 34) := ⟨_, rfl⟩
  have hA : Below w.heap.size w w0 := by rw [hw0]; exact (Below.refl _ _).alloc (Nat.le_refl _) _
  have L0 := Aside0.mk (show w0.heap[w.heap.size]? = some (.cells #[.int .u8 0, .int .i64 0, .int .i64 0, .string ⟨#[]⟩, .slice none 0 0, .slice none 0 0] 34 (0, 0)) by rw [hw0]; exact heap_alloc_new w _)
  have P0 := Aside0.mk (hp.below hA)
  have HA := Aside0.mk hA
  obtain ⟨ad, e, hcell⟩ := P0.out.at_ q hql
  subst e
  rw [hb] at hcell
  have hql' : q ≤ p.length := by omega
  have hBl : w.heap.size < w0.heap.size := (Array.getElem?_eq_some_iff.1 L0.out).1
  have B1c := Aside0.mk (starts_ok (some ad) c p q ⟨#[60, 60]⟩ false w0 P0.out hc hql' (by decide) B1.out)
  have HSK := Aside0.mk (rskip_ok (some ad) c p at_ q w0 P0.out hat HQ.out)
  have e91 : ((b.toNat : Int) == 91) = false := beq_eq_false_iff_ne.mpr (fun h => h91 (UInt8.toNat_inj.1 (by show b.toNat = 91; omega)))
  have e60 : ((b.toNat : Int) == 60) = false := beq_eq_false_iff_ne.mpr (fun h => h60 (UInt8.toNat_inj.1 (by show b.toNat = 60; omega)))
  have e47 : ((b.toNat : Int) == 47) = true := by rw [h47]; rfl
  clear hq hA hp hb h91 h60 h47
  obtain ⟨E, hE⟩ : ∃ E, q + 1 = E := ⟨_, rfl⟩
  have hsum : (q : Int) + 1 = (E : Int) := by omega
  have hwE : IntKind.i64.wrap (E : Int) = (E : Int) := IntWalk.i64_in _ (by omega)
  have hEl : E ≤ p.length := by omega
  obtain ⟨s, hs⟩ : ∃ s, s = ofL (wordL (p.drop E)) := ⟨_, rfl⟩
  obtain ⟨a1, ha1⟩ : ∃ a1, E + (wordL (p.drop E)).length = a1 := ⟨_, rfl⟩
  have ha1l : a1 ≤ p.length := by rw [← ha1]; exact word_end_le p E hEl
  have HK := Aside0.mk (show a1 ≤ 2147483640 by omega)
  rw [hE] at hr
  have hr2 : plainL s.data.toList = true := by rw [hs, ofL_list]; exact hr
  have HN := Aside0.mk (rname_ok (some ad) c p E a1 s true w0 P0.out hc (by omega) hEl hs ha1 hr2)
  suffices hsuf : Calls Tryz.prog 50 #[.slice (some ad) p.length c, .int .i64 (at_ : Int), .int .i64 (deep : Int)] w (RValPost (some (⟨3, 0, 0, s, [], []⟩, a1)) w) by
    rw [hE, ← hs, ha1]; exact hsuf
  clear hE hr hr2 hs ha1
  go_enter Tryz.func50, Tryz.ntmps50
  go_wp2_with fail
  rw [← hw0]
  clear hw0
  go_wp2_with (first | (go_at_call 85; (with_reducible refine HSK.out.mono ?_); rintro e w1 ⟨rfl, rfl⟩) | (go_at_call 86; (with_reducible refine B1c.out.mono ?_); rintro e w1 ⟨rfl, rfl⟩) | (go_at_call 89; (with_reducible refine HN.out.mono ?_); rintro e w2 ⟨rfl, hb2⟩; have H2 := Aside0.mk (HA.out.trans (hb2.mono HA.out.size)); have L2 := Aside0.mk (blk_below hb2 L0.out); have P2 := Aside0.mk (P0.out.below hb2); clear hb2; obtain ⟨⟨z0, z1, z2, z3, z4, z5⟩, y0, y1, y2, y3, y4, y5⟩ := six_c L2.out))
  refine ret_put6 (v := .tuple #[.agg #[.int .u8 3, .int .i64 0, .int .i64 0, .string s, .slice none 0 0, .slice none 0 0], .int .i64 a1, .bool true]) L2.out (fun W2 z0 z1 z2 z3 z4 z5 => by simp [results, Tryz.results50, go_sem, zeroV, z0, z1, z2, z3, z4, z5]) rfl ?_
  exact ⟨put6_below H2.out (Nat.le_refl _) _ _ _ _ _ _, .slice none 0 0, .slice none 0 0, rfl, Kd.R_nil _ _ _ _ _, Kd.R_nil _ _ _ _ _, HK.out⟩
end Go.Proofs.YtnckaeehcldheaaGreatDoor.Ob
end
