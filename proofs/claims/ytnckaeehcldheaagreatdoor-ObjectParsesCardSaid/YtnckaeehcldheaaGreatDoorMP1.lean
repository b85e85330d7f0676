import Derived.Lib.BytesEntry
import Derived.Lib.SlBytesConst
import Derived.StillTailTactics
import Derived.Test.YtnckaeehcldheaaGreatDoorMP0

section
namespace Go.Proofs.YtnckaeehcldheaaGreatDoor.Ob
open Go.RowKit YtnckaeehcldheaaGreatDoorW.PrintWords
set_option linter.unusedVariables false
structure S28 where
  f0 : Int
  f1 : Int
  f2 : Int
  f3 : ByteArray
  f4 : (List S28)
  f5 : (List ByteArray)
def z28 : S28 := ⟨(0 : Int), (0 : Int), (0 : Int), (⟨#[]⟩ : ByteArray), ([] : List S28), ([] : List ByteArray)⟩
def F28 (d : Kd S28) : Kd S28 := Kd.iso (Kd.pair (Kd.int .u8) (Kd.pair (Kd.int .i64) (Kd.pair (Kd.int .i64) (Kd.pair Kd.string (Kd.pair (Kd.slice 28 d) (Kd.slice 9 Kd.string)))))) (fun x : S28 => (x.f0, x.f1, x.f2, x.f3, x.f4, x.f5))
theorem mono28 : Kd.Mono F28 := Kd.mono_iso _ (Kd.mono_pair (Kd.mono_const _) (Kd.mono_pair (Kd.mono_const _) (Kd.mono_pair (Kd.mono_const _) (Kd.mono_pair (Kd.mono_const _) (Kd.mono_pair (Kd.mono_slice 28 Kd.mono_id) (Kd.mono_const _))))))
theorem sub28 : Kd.Sub F28 [9, 28] := Kd.sub_iso _ (Kd.sub_pair (Kd.sub_const _ (by decide)) (Kd.sub_pair (Kd.sub_const _ (by decide)) (Kd.sub_pair (Kd.sub_const _ (by decide)) (Kd.sub_pair (Kd.sub_const _ (by decide)) (Kd.sub_pair (Kd.sub_slice 28 (by decide) Kd.sub_id) (Kd.sub_const _ (by decide)))))))
theorem sz28 : ∀ n, (Kd.upto F28 6 [9, 28] n).sz = 6 := Kd.upto_sz (fun _ => rfl)
def k28 : Kd S28 := Kd.fix F28 6 [9, 28] sz28 (Kd.upto_E sub28)
theorem k28_open {w : World} {x : S28} {cs : List Value} (h : k28.K w x cs) : ∃ A4 c4 A5 c5, cs = [.int .u8 x.f0, .int .i64 x.f1, .int .i64 x.f2, .string x.f3, .slice A4 x.f4.length c4, .slice A5 x.f5.length c5] ∧ x.f4.length ≤ c4 ∧ k28.C w A4 x.f4.length x.f4 ∧ x.f5.length ≤ c5 ∧ Kd.string.C w A5 x.f5.length x.f5 := by
  obtain ⟨n, h⟩ := h
  cases n with
  | zero => exact h.elim
  | succ n =>
    obtain ⟨_, _, rfl, rfl, ⟨_, _, rfl, rfl, ⟨_, _, rfl, rfl, ⟨_, _, rfl, rfl, ⟨_, _, rfl, ⟨A4, c4, rfl, l4, g4⟩, ⟨A5, c5, rfl, l5, g5⟩⟩⟩⟩⟩⟩ := h
    exact ⟨A4, c4, A5, c5, rfl, l4, Kd.fix_C g4, l5, g5⟩
theorem k28_openM {w : World} {base : Nat} {ok : Nat → Prop} {x : S28} {cs : List Value} (h : k28.M w base ok x cs) : ∃ v4 v5, cs = [.int .u8 x.f0, .int .i64 x.f1, .int .i64 x.f2, .string x.f3, v4, v5] ∧ k28.R 28 w base ok v4 x.f4 ∧ Kd.string.R 9 w base ok v5 x.f5 := by
  obtain ⟨n, h⟩ := h
  cases n with
  | zero => exact h.elim
  | succ n =>
    obtain ⟨_, _, rfl, rfl, ⟨_, _, rfl, rfl, ⟨_, _, rfl, rfl, ⟨_, _, rfl, rfl, ⟨_, _, rfl, ⟨v4, rfl, g4⟩, ⟨v5, rfl, g5⟩⟩⟩⟩⟩⟩ := h
    exact ⟨v4, v5, rfl, Kd.fix_R g4, g5⟩
theorem k28_mk (w : World) (x : S28) {A4 : Option Addr} {c4 : Nat} (l4 : x.f4.length ≤ c4) (g4 : k28.C w A4 x.f4.length x.f4) {A5 : Option Addr} {c5 : Nat} (l5 : x.f5.length ≤ c5) (g5 : Kd.string.C w A5 x.f5.length x.f5) : k28.K w x [.int .u8 x.f0, .int .i64 x.f1, .int .i64 x.f2, .string x.f3, .slice A4 x.f4.length c4, .slice A5 x.f5.length c5] := by
  obtain ⟨n4, q4⟩ := Kd.fix_C_back mono28 g4
  have r4 := Kd.upto_C_le mono28 sz28 (show n4 ≤ n4 by omega) q4
  exact ⟨n4 + 1, ⟨[.int .u8 x.f0], [.int .i64 x.f1, .int .i64 x.f2, .string x.f3, .slice A4 x.f4.length c4, .slice A5 x.f5.length c5], rfl, rfl, ⟨[.int .i64 x.f1], [.int .i64 x.f2, .string x.f3, .slice A4 x.f4.length c4, .slice A5 x.f5.length c5], rfl, rfl, ⟨[.int .i64 x.f2], [.string x.f3, .slice A4 x.f4.length c4, .slice A5 x.f5.length c5], rfl, rfl, ⟨[.string x.f3], [.slice A4 x.f4.length c4, .slice A5 x.f5.length c5], rfl, rfl, ⟨[.slice A4 x.f4.length c4], [.slice A5 x.f5.length c5], rfl, ⟨A4, c4, rfl, l4, r4⟩, ⟨A5, c5, rfl, l5, g5⟩⟩⟩⟩⟩⟩⟩
theorem k28_mkM (w : World) (base : Nat) (ok : Nat → Prop) (x : S28) {v4 : Value} (g4 : k28.R 28 w base ok v4 x.f4) {v5 : Value} (g5 : Kd.string.R 9 w base ok v5 x.f5) : k28.M w base ok x [.int .u8 x.f0, .int .i64 x.f1, .int .i64 x.f2, .string x.f3, v4, v5] := by
  obtain ⟨n4, q4⟩ := Kd.fix_R_back mono28 g4
  have r4 := Kd.upto_R_le mono28 sz28 (show n4 ≤ n4 by omega) q4
  exact ⟨n4 + 1, ⟨[.int .u8 x.f0], [.int .i64 x.f1, .int .i64 x.f2, .string x.f3, v4, v5], rfl, rfl, ⟨[.int .i64 x.f1], [.int .i64 x.f2, .string x.f3, v4, v5], rfl, rfl, ⟨[.int .i64 x.f2], [.string x.f3, v4, v5], rfl, rfl, ⟨[.string x.f3], [v4, v5], rfl, rfl, ⟨[v4], [v5], rfl, ⟨v4, rfl, r4⟩, ⟨v5, rfl, g5⟩⟩⟩⟩⟩⟩⟩
theorem k28_openF {W : World} {ok : Nat → Prop} {x : S28} {cs : List Value} (h : Kd.FK k28 W ok x cs) : ∃ A4 c4 A5 c5, cs = [.int .u8 x.f0, .int .i64 x.f1, .int .i64 x.f2, .string x.f3, .slice A4 x.f4.length c4, .slice A5 x.f5.length c5] ∧ x.f4.length ≤ c4 ∧ Kd.F k28 W ok A4 x.f4.length x.f4 ∧ x.f5.length ≤ c5 ∧ Kd.F Kd.string W ok A5 x.f5.length x.f5 := by
  obtain ⟨A4, c4, A5, c5, rfl, l4, _, l5, _⟩ := k28_open (Kd.FK_now h)
  exact ⟨A4, c4, A5, c5, rfl, l4, (fun W' hW => by obtain ⟨A4_, c4_, A5_, c5_, he, l4_, g4_, l5_, g5_⟩ := k28_open (h W' hW); injection (Option.some.inj (show some (Value.slice A4 x.f4.length c4) = some (Value.slice A4_ x.f4.length c4_) from congrArg (fun l => l[4]?) he)) with ha_ _ _; rw [ha_]; exact g4_), l5, (fun W' hW => by obtain ⟨A4_, c4_, A5_, c5_, he, l4_, g4_, l5_, g5_⟩ := k28_open (h W' hW); injection (Option.some.inj (show some (Value.slice A5 x.f5.length c5) = some (Value.slice A5_ x.f5.length c5_) from congrArg (fun l => l[5]?) he)) with ha_ _ _; rw [ha_]; exact g5_)⟩
theorem k28_mkF (W : World) (ok : Nat → Prop) (x : S28) {A4 : Option Addr} {c4 : Nat} (l4 : x.f4.length ≤ c4) (g4 : Kd.F k28 W ok A4 x.f4.length x.f4) {A5 : Option Addr} {c5 : Nat} (l5 : x.f5.length ≤ c5) (g5 : Kd.F Kd.string W ok A5 x.f5.length x.f5) : Kd.FK k28 W ok x [.int .u8 x.f0, .int .i64 x.f1, .int .i64 x.f2, .string x.f3, .slice A4 x.f4.length c4, .slice A5 x.f5.length c5] := fun W2 hW => k28_mk W2 x l4 (g4 W2 hW) l5 (g5 W2 hW)
def rd_T28 (xs : List S28) (i : Int) : S28 := xs.getD i.toNat z28
theorem at_T28 {w : World} {A : Option Addr} {n : Nat} {xs : List S28} (h : Kd.C k28 w A n xs) (i : Int) (h0 : 0 ≤ i) (h1 : i < n) : ∃ ad A4 c4 A5 c5, A = some ad ∧ w.cell? (ad.add (i.toNat * 6)) = some (.int .u8 (rd_T28 xs i).f0) ∧ w.cell? ⟨(ad.add (i.toNat * 6)).block, (ad.add (i.toNat * 6)).off + 1, none⟩ = some (.int .i64 (rd_T28 xs i).f1) ∧ w.cell? ⟨(ad.add (i.toNat * 6)).block, (ad.add (i.toNat * 6)).off + 2, none⟩ = some (.int .i64 (rd_T28 xs i).f2) ∧ w.cell? ⟨(ad.add (i.toNat * 6)).block, (ad.add (i.toNat * 6)).off + 3, none⟩ = some (.string (rd_T28 xs i).f3) ∧ w.cell? ⟨(ad.add (i.toNat * 6)).block, (ad.add (i.toNat * 6)).off + 4, none⟩ = some (.slice A4 (rd_T28 xs i).f4.length c4) ∧ w.cell? ⟨(ad.add (i.toNat * 6)).block, (ad.add (i.toNat * 6)).off + 5, none⟩ = some (.slice A5 (rd_T28 xs i).f5.length c5) ∧ (rd_T28 xs i).f4.length ≤ c4 ∧ k28.C w A4 (rd_T28 xs i).f4.length (rd_T28 xs i).f4 ∧ (rd_T28 xs i).f5.length ≤ c5 ∧ Kd.string.C w A5 (rd_T28 xs i).f5.length (rd_T28 xs i).f5 := by
  obtain ⟨ad, c, e, _, hK, hc0⟩ := Kd.C_get h z28 i h0 h1
  have hc : ∀ j u, c[j]? = some u → w.cell? (ad.add (i.toNat * 6 + j)) = some u := hc0
  obtain ⟨A4, c4, A5, c5, rfl, l4, g4, l5, g5⟩ := k28_open hK
  exact ⟨ad, A4, c4, A5, c5, e, hc 0 _ rfl, by rw [← add_field _ _ 1 (by omega)]; exact hc 1 _ rfl, by rw [← add_field _ _ 2 (by omega)]; exact hc 2 _ rfl, by rw [← add_field _ _ 3 (by omega)]; exact hc 3 _ rfl, by rw [← add_field _ _ 4 (by omega)]; exact hc 4 _ rfl, by rw [← add_field _ _ 5 (by omega)]; exact hc 5 _ rfl, l4, g4, l5, g5⟩
end Go.Proofs.YtnckaeehcldheaaGreatDoor.Ob
end

section
set_option linter.unusedVariables false
set_option linter.unusedSimpArgs false
namespace Go.Proofs.YtnckaeehcldheaaGreatDoor.Ob
open Go.RowKit Go.Shelf YtnckaeehcldheaaGreatDoorW.PrintWords
def bareB (x : S28) : Bool :=
  (x.f0 == 1 || x.f0 == 2 || x.f0 == 7 || x.f1 == 0) && (x.f0 == 7 || x.f2 == 0) && (x.f0 == 3 || x.f0 == 4 || x.f3.toList.isEmpty) && (x.f0 == 5 || x.f0 == 6 || (x.f4.length : Int) == 0) && (x.f0 == 6 || (x.f5.length : Int) == 0)
set_option maxHeartbeats 1000000 in
theorem bare_ok (x : S28) (A4 : Option Addr) (c4 : Nat) (A5 : Option Addr) (c5 : Nat) (w : World) (h7 : x.f0 ≤ 7) :
    Calls Tryz.prog 93 #[.agg #[.int .u8 x.f0, .int .i64 x.f1, .int .i64 x.f2, .string x.f3, .slice A4 x.f4.length c4, .slice A5 x.f5.length c5]] w fun e w' => e = .returned (.bool (bareB x)) ∧ Below w.heap.size w w' := by
  obtain ⟨f0, f1, f2, f3, f4, f5⟩ := x
  dsimp only at h7 ⊢
  have hk : f0 < 0 ∨ f0 = 0 ∨ f0 = 1 ∨ f0 = 2 ∨ f0 = 3 ∨ f0 = 4 ∨ f0 = 5 ∨ f0 = 6 ∨ f0 = 7 := by omega
  rcases hk with hneg | rfl | rfl | rfl | rfl | rfl | rfl | rfl | rfl
  · have e1 : (f0 == 1) = false := by simp; omega
    have e2 : (f0 == 2) = false := by simp; omega
    have e3 : (f0 == 3) = false := by simp; omega
    have e4 : (f0 == 4) = false := by simp; omega
    have e5 : (f0 == 5) = false := by simp; omega
    have e6 : (f0 == 6) = false := by simp; omega
    have e7 : (f0 == 7) = false := by simp; omega
    go_enter Tryz.func93, Tryz.ntmps93
    go_wp2
    all_goals
      go_ret
      exact ⟨by simp [bareB, *], (Below.refl _ _).alloc (Nat.le_refl _) _⟩
  all_goals
    go_enter Tryz.func93, Tryz.ntmps93
    go_wp2
    all_goals
      go_ret
      exact ⟨by simp [bareB, *], (Below.refl _ _).alloc (Nat.le_refl _) _⟩
end Go.Proofs.YtnckaeehcldheaaGreatDoor.Ob
end

section
set_option linter.unusedVariables false
set_option linter.unusedSimpArgs false
namespace Go.Proofs.YtnckaeehcldheaaGreatDoor.Ob
open Go.RowKit Go.Shelf YtnckaeehcldheaaGreatDoorW.PrintWords
def idxS : List ByteArray → ByteArray → Int
  | [], _ => -1
  | y :: l, x => if x.toList = y.toList then 0 else if idxS l x < 0 then -1 else idxS l x + 1
theorem idxS_ge (l : List ByteArray) (x : ByteArray) : -1 ≤ idxS l x := by
  induction l with
  | nil => simp [idxS]
  | cons y l ih => unfold idxS; split <;> (try split) <;> omega
theorem rdOf_at (xs : List ByteArray) (k : Nat) (h : k < xs.length) : rdOf ByteArray.empty xs (k : Int) = xs[k] := by
  simp [rdOf, List.getD_eq_getElem?_getD, List.getElem?_eq_getElem h]
theorem idxS_step {xs : List ByteArray} {x : ByteArray} {v : Int} {k : Nat} (hk : k < xs.length) (hne : ¬ x.toList = xs[k].toList) (h : (if idxS (xs.drop k) x < 0 then -1 else (k : Int) + idxS (xs.drop k) x) = v) :
    (if idxS (xs.drop (k + 1)) x < 0 then -1 else ((k + 1 : Nat) : Int) + idxS (xs.drop (k + 1)) x) = v := by
  rw [List.drop_eq_getElem_cons hk, idxS, if_neg hne] at h
  rw [← h]
  have := idxS_ge (xs.drop (k + 1)) x
  split
  · simp
  · rw [if_neg (by omega)]; omega
theorem idxS_hit {xs : List ByteArray} {x : ByteArray} {v : Int} {k : Nat} (hk : k < xs.length) (he : x.toList = xs[k].toList) (h : (if idxS (xs.drop k) x < 0 then -1 else (k : Int) + idxS (xs.drop k) x) = v) : (k : Int) = v := by
  have e : idxS (xs.drop k) x = 0 := by rw [List.drop_eq_getElem_cons hk, idxS, if_pos he]
  rw [e] at h
  simpa using h
theorem index_ok (A : Option Addr) (c : Nat) (xs : List ByteArray) (x : ByteArray) (n : Nat) (v : Int) (w : World) (h : Kd.string.C w A xs.length xs) (hn : xs.length = n) (hv : idxS xs x = v) :
    Calls Tryz.prog 55 #[.slice A n c, .string x] w fun e w' => e = .returned (.int .i64 v) ∧ w' = w := by
  have hl : n ≤ 9223372036854775807 := by rw [← hn]; exact h.2.1
  have H := Aside0.mk h
  have HN := Aside0.mk hn
  have HV := Aside0.mk hv
  clear h hn hv
  go_enter Tryz.func55, Tryz.ntmps55
  go_wp2
  go_loop [8] (fun a => ∃ k : Nat, a = .int .i64 k ∧ k ≤ n ∧ Aside0 ((if idxS (xs.drop k) x < 0 then -1 else (k : Int) + idxS (xs.drop k) x) = v)) (fun a => n - (intOf a).toNat)
  case atStart => exact ⟨0, rfl, Nat.zero_le _, ⟨by rw [List.drop_zero, ← HV.out]; have := idxS_ge xs x; split <;> omega⟩⟩
  case round =>
    obtain ⟨k, rfl, hk, HA⟩ := hrel
    by_cases hlt : k < n
    · have hlt' : k < xs.length := by rw [HN.out]; exact hlt
      obtain ⟨ad, e, hc⟩ := Kd.at_string H.out (k : Int) (by omega) (by omega)
      cases e
      rw [rdOf_at _ _ hlt'] at hc
      simp only [Int.toNat_natCast] at hc
      obtain ⟨y, hy⟩ : ∃ y, xs[k] = y := ⟨_, rfl⟩
      have HY := Aside0.mk hy
      rw [hy] at hc
      clear hy
      by_cases he : x.toList = y.toList
      · have c1 : (x.toList == y.toList) = true := beq_iff_eq.mpr he
        have HE := Aside0.mk he
        clear he
        go_wp2
        go_ret
        exact ⟨ret_int (idxS_hit hlt' (by rw [HY.out]; exact HE.out) HA.out), rfl⟩
      · have c1 : (x.toList == y.toList) = false := beq_eq_false_iff_ne.mpr he
        have HE := Aside0.mk he
        clear he
        go_wp2
        go_round
        case rel => exact ⟨k + 1, by go_num, by omega, ⟨idxS_step hlt' (by rw [HY.out]; exact HE.out) HA.out⟩⟩
        case measure => simp [intOf]; omega
    · go_wp2
      go_ret
      refine ⟨ret_int ?_, rfl⟩
      rw [← HA.out, List.drop_of_length_le (by have := HN.out; omega)]
      rfl
theorem contains_ok (A : Option Addr) (c : Nat) (xs : List ByteArray) (x : ByteArray) (n : Nat) (r : Bool) (w : World) (h : Kd.string.C w A xs.length xs) (hn : xs.length = n) (hr : decide (0 ≤ idxS xs x) = r) :
    Calls Tryz.prog 122 #[.slice A n c, .string x] w fun e w' => e = .returned (.bool r) ∧ w' = w := by
  obtain ⟨v, hv⟩ : ∃ v, idxS xs x = v := ⟨_, rfl⟩
  have HI := Aside0.mk (fun W h => index_ok A c xs x n v W h hn hv)
  have H := Aside0.mk h
  rw [hv] at hr
  clear h hn hv
  go_enter Tryz.func122, Tryz.ntmps122
  go_wp2_with (go_at_call 55; refine (HI.out _ H.out).mono ?_; rintro e w1 ⟨rfl, rfl⟩)
  go_ret
  exact ⟨by first | rfl | simp [hr], rfl⟩
def keysOk : List ByteArray → List ByteArray → Bool
  | _, [] => true
  | seen, k :: l => plainL k.data.toList && (!decide (0 ≤ idxS seen k) && keysOk (seen ++ [k]) l)
theorem info9 : (Tryz.prog.info? 9).map (fun i => (i.zero, i.size, i.bytes)) = some (some (.string ⟨#[]⟩), 1, 16) := by kernel_rfl
theorem blk_below {w w' : World} {g : Nat} {o : Obj} (hb : Below w.heap.size w w') (h : w.heap[g]? = some o) : w'.heap[g]? = some o := (hb.block _ (Array.getElem?_eq_some_iff.1 h).1).trans h
theorem strs_take {w : World} {A : Option Addr} {xs : List ByteArray} (h : Kd.string.C w A xs.length xs) (c hi : Nat) (hc : xs.length ≤ c) (h2 : hi ≤ xs.length) :
    Kd.string.C w A (xs.take hi).length (xs.take hi) ∧ ∀ W : World, (Instr.slice 26 (.slice A xs.length c) none (some (.int .i64 (hi : Int))) none).run Tryz.prog W = .ok (.slice A hi c) W := by
  obtain ⟨i0, hi0, _, hz1, _⟩ := info_parts info9
  refine ⟨Kd.C_take (m := hi) h h2, fun W => ?_⟩
  have := cut_to (P := Tryz.prog) 26 9 .i64 Tryz.underlying26 hi0 A xs.length c (hi : Int) (by omega) (by omega) hc W
  simpa using this
theorem keysOk_bad {ks : List ByteArray} {k : Nat} {r : Bool} (hk : k < ks.length) (h : keysOk (ks.take k) (ks.drop k) = r) (hb : plainL ks[k].data.toList = false ∨ 0 ≤ idxS (ks.take k) ks[k]) : r = false := by
  rw [List.drop_eq_getElem_cons hk, keysOk] at h
  rw [← h]
  rcases hb with hb | hb
  · rw [hb]; rfl
  · simp [hb]
theorem keysOk_go {ks : List ByteArray} {k : Nat} {r : Bool} (hk : k < ks.length) (h : keysOk (ks.take k) (ks.drop k) = r) (hb : plainL ks[k].data.toList = true) (hi : ¬ 0 ≤ idxS (ks.take k) ks[k]) : keysOk (ks.take (k + 1)) (ks.drop (k + 1)) = r := by
  rw [List.drop_eq_getElem_cons hk, keysOk, hb] at h
  rw [← h, List.take_succ_eq_append_getElem hk]
  simp [hi]
set_option maxHeartbeats 1000000 in
theorem keyed_ok (x : S28) (A4 : Option Addr) (c4 : Nat) (A5 : Option Addr) (c5 : Nat) (r : Bool) (w : World) (h5 : Kd.string.C w A5 x.f5.length x.f5) (hc5 : x.f5.length ≤ c5) (hs : ∀ k ∈ x.f5, k.size ≤ 4294967281) (hr : (keysOk [] x.f5 && ((x.f5.length : Int) == (x.f4.length : Int))) = r) :
    Calls Tryz.prog 95 #[.agg #[.int .u8 x.f0, .int .i64 x.f1, .int .i64 x.f2, .string x.f3, .slice A4 x.f4.length c4, .slice A5 x.f5.length c5]] w fun e w' => e = .returned (.bool r) ∧ Below w.heap.size w w' := by
  obtain ⟨f0, f1, f2, f3, f4, f5⟩ := x
  dsimp only at h5 hc5 hs hr ⊢
  have hl : f5.length ≤ 9223372036854775807 := h5.2.1
  have H5 := Aside0.mk h5
  have HS := Aside0.mk hs
  have HR := Aside0.mk hr
  clear h5 hs hr
  go_enter Tryz.func95, Tryz.ntmps95
  go_wp2
  obtain ⟨w1, hw1⟩ : ∃ W, W = w.alloc (.cells #[.int .u8 f0, .int .i64 f1, .int .i64 f2, .string f3, .slice A4 f4.length c4, .slice A5 f5.length c5] 28) := ⟨_, rfl⟩
  rw [← hw1]
  have hb1 : Below w.heap.size w w1 := by rw [hw1]; exact (Below.refl _ _).alloc (Nat.le_refl _) _
  have hblk : w1.heap[w.heap.size]? = some (.cells #[.int .u8 f0, .int .i64 f1, .int .i64 f2, .string f3, .slice A4 f4.length c4, .slice A5 f5.length c5] 28 (0, 0)) := by rw [hw1]; exact heap_alloc_new w _
  have HB1 := Aside0.mk hb1
  have HBL := Aside0.mk hblk
  clear hw1 hb1 hblk
  go_loopw [8] (fun a wr => ∃ k : Nat, a = .int .i64 k ∧ k ≤ f5.length ∧ Aside0 (Below w1.heap.size w1 wr) ∧ Aside0 (keysOk (f5.take k) (f5.drop k) = keysOk [] f5)) (fun a _ => f5.length - (intOf a).toNat)
  case atStart => exact ⟨0, rfl, Nat.zero_le _, ⟨Below.refl _ _⟩, ⟨rfl⟩⟩
  case round =>
    obtain ⟨k, rfl, hk, HW, HA⟩ := hrel
    have c5' : wr.cell? ⟨w.heap.size, 5, none⟩ = some (.slice A5 f5.length c5) := cell_of_blk (blk_below HW.out HBL.out) rfl
    have c4' : wr.cell? ⟨w.heap.size, 4, none⟩ = some (.slice A4 f4.length c4) := cell_of_blk (blk_below HW.out HBL.out) rfl
    have HC := Aside0.mk (Kd.C_below (Kd.C_below H5.out HB1.out) HW.out)
    have HB := Aside0.mk (bt HB1.out HW.out)
    by_cases hlt : k < f5.length
    · obtain ⟨ad, e, hc⟩ := Kd.at_string HC.out (k : Int) (by omega) (by omega)
      cases e
      rw [rdOf_at _ _ hlt] at hc
      simp only [Int.toNat_natCast] at hc
      obtain ⟨y, hy⟩ : ∃ y, f5[k] = y := ⟨_, rfl⟩
      have hys : y.size ≤ 4294967281 := by rw [← hy]; exact HS.out _ (List.getElem_mem hlt)
      have HY := Aside0.mk hy
      rw [hy] at hc
      clear hy
      obtain ⟨hT, hrun⟩ := strs_take HC.out c5 k hc5 hk
      have HT := Aside0.mk hT
      clear hT
      obtain ⟨q, hq⟩ : ∃ q, plainL y.data.toList = q := ⟨_, rfl⟩
      obtain ⟨m, hm⟩ : ∃ m, decide (0 ≤ idxS (f5.take k) y) = m := ⟨_, rfl⟩
      have HQ := Aside0.mk hq
      have HM := Aside0.mk hm
      clear hq hm
      cases q with
      | false =>
        go_wp2_with (go_at_call 94; refine (plain_ok y _ _ hys HQ.out).mono ?_; rintro e w2 ⟨rfl, hb2⟩)
        go_ret
        exact ⟨by rw [← HR.out, keysOk_bad hlt HA.out (by rw [HY.out]; exact .inl HQ.out)]; rfl, bt HB.out hb2⟩
      | true =>
        cases m with
        | true =>
          go_wp2_with (first | (go_at_call 94; refine (plain_ok y _ _ hys HQ.out).mono ?_; rintro e w2 ⟨rfl, hb2⟩; have c6 := pw_cell_below hb2 c5') | (go_at_call 122; refine (contains_ok _ c5 (f5.take k) y k _ _ (Kd.C_below HT.out hb2) (by rw [List.length_take]; omega) HM.out).mono ?_; rintro e w3 ⟨rfl, rfl⟩))
          go_ret
          exact ⟨by rw [← HR.out, keysOk_bad hlt HA.out (by rw [HY.out]; exact .inr (of_decide_eq_true HM.out))]; rfl, bt HB.out hb2⟩
        | false =>
          go_wp2_with (first | (go_at_call 94; refine (plain_ok y _ _ hys HQ.out).mono ?_; rintro e w2 ⟨rfl, hb2⟩; have c6 := pw_cell_below hb2 c5') | (go_at_call 122; refine (contains_ok _ c5 (f5.take k) y k _ _ (Kd.C_below HT.out hb2) (by rw [List.length_take]; omega) HM.out).mono ?_; rintro e w3 ⟨rfl, rfl⟩))
          go_roundw
          case rel => exact ⟨k + 1, by go_num, by omega, ⟨bt HW.out hb2⟩, ⟨keysOk_go hlt HA.out (by rw [HY.out]; exact HQ.out) (by rw [HY.out]; exact of_decide_eq_false HM.out)⟩⟩
          case measure => simp [intOf]; omega
    · obtain rfl : k = f5.length := by omega
      have HE := Aside0.mk (show keysOk [] f5 = true by rw [← HA.out, List.drop_length]; rfl)
      go_wp2
      go_ret
      exact ⟨by rw [← HR.out, HE.out]; first | rfl | simp, HB.out⟩
end Go.Proofs.YtnckaeehcldheaaGreatDoor.Ob
end

section
set_option linter.unusedVariables false
set_option linter.unusedSimpArgs false
namespace Go.Proofs.YtnckaeehcldheaaGreatDoor.Ob
open Go.RowKit Go.Shelf YtnckaeehcldheaaGreatDoorW.PrintWords
inductive Sm : S28 → Prop
  | mk {x : S28} (h3 : x.f3.size ≤ 4294967281) (h5 : ∀ k ∈ x.f5, k.size ≤ 4294967281) (h4 : ∀ y ∈ x.f4, Sm y) : Sm x
def keyedB (x : S28) : Bool := keysOk [] x.f5 && ((x.f5.length : Int) == (x.f4.length : Int))
def rightN : Nat → S28 → Bool
  | 0, _ => false
  | n + 1, x => decide (x.f0 ≤ 7) && (bareB x &&
      (if x.f0 = 1 then x.f1 == 0 || x.f1 == 1
       else if x.f0 = 3 then plainL x.f3.data.toList
       else if x.f0 = 7 then decide (1 ≤ x.f1) && (decide (x.f1 ≤ 2147483647) && (decide (0 ≤ x.f2) && decide (x.f2 ≤ 65535)))
       else (if x.f0 = 6 then keyedB x else true) && x.f4.all (rightN n)))
theorem rightN_big {x : S28} (n : Nat) (h : ¬ x.f0 ≤ 7) : rightN n x = false := by
  cases n <;> simp [rightN, h]
theorem rightN_bare {x : S28} (n : Nat) (h : bareB x = false) : rightN n x = false := by
  cases n <;> simp [rightN, h]
theorem rightN_1 {x : S28} (n : Nat) (h7 : x.f0 ≤ 7) (hb : bareB x = true) (h : x.f0 = 1) : rightN (n + 1) x = (x.f1 == 0 || x.f1 == 1) := by
  simp [rightN, h7, hb, h]
theorem rightN_3 {x : S28} (n : Nat) (h7 : x.f0 ≤ 7) (hb : bareB x = true) (h : x.f0 = 3) : rightN (n + 1) x = plainL x.f3.data.toList := by
  simp [rightN, h7, hb, h]
theorem rightN_7 {x : S28} (n : Nat) (h7 : x.f0 ≤ 7) (hb : bareB x = true) (h : x.f0 = 7) : rightN (n + 1) x = (decide (1 ≤ x.f1) && (decide (x.f1 ≤ 2147483647) && (decide (0 ≤ x.f2) && decide (x.f2 ≤ 65535)))) := by
  simp [rightN, h7, hb, h]
theorem rightN_6 {x : S28} (n : Nat) (h7 : x.f0 ≤ 7) (hb : bareB x = true) (h : x.f0 = 6) : rightN (n + 1) x = (keyedB x && x.f4.all (rightN n)) := by
  simp [rightN, h7, hb, h]
theorem rightN_0 {x : S28} (n : Nat) (h7 : x.f0 ≤ 7) (hb : bareB x = true) (h1 : ¬ x.f0 = 1) (h3 : ¬ x.f0 = 3) (h7' : ¬ x.f0 = 7) (h6 : ¬ x.f0 = 6) : rightN (n + 1) x = x.f4.all (rightN n) := by
  simp [rightN, h7, hb, h1, h3, h7', h6]
theorem bare_q (x : S28) (A4 : Option Addr) (c4 : Nat) (A5 : Option Addr) (c5 : Nat) (r : Bool) (h7 : x.f0 ≤ 7) (hr : bareB x = r) (w : World) :
    Calls Tryz.prog 93 #[.agg #[.int .u8 x.f0, .int .i64 x.f1, .int .i64 x.f2, .string x.f3, .slice A4 x.f4.length c4, .slice A5 x.f5.length c5]] w fun e w' => e = .returned (.bool r) ∧ Below w.heap.size w w' := by
  subst hr
  exact bare_ok x A4 c4 A5 c5 w h7
theorem six {W W' : World} {B : Nat} {t : TypeId} {a0 a1 a2 a3 a4 a5 : Value} (hb : Below W.heap.size W W') (h : W.heap[B]? = some (.cells #[a0, a1, a2, a3, a4, a5] t (0, 0))) :
    W'.cell? ⟨B, 0, none⟩ = some a0 ∧ W'.cell? ⟨B, 1, none⟩ = some a1 ∧ W'.cell? ⟨B, 2, none⟩ = some a2 ∧ W'.cell? ⟨B, 3, none⟩ = some a3 ∧ W'.cell? ⟨B, 4, none⟩ = some a4 ∧ W'.cell? ⟨B, 5, none⟩ = some a5 :=
  have h' := blk_below hb h
  ⟨cell_of_blk h' rfl, cell_of_blk h' rfl, cell_of_blk h' rfl, cell_of_blk h' rfl, cell_of_blk h' rfl, cell_of_blk h' rfl⟩
theorem rd_T28_at (xs : List S28) (k : Nat) (h : k < xs.length) : rd_T28 xs (k : Int) = xs[k] := by
  simp [rd_T28, List.getD_eq_getElem?_getD, List.getElem?_eq_getElem h]
theorem all_stop {l : List S28} {f : S28 → Bool} {k : Nat} {y : S28} (hy : l[k]? = some y) (h : f y = false) : l.all f = false := by
  rw [List.all_eq_false]
  exact ⟨y, List.mem_of_getElem? hy, by simp [h]⟩
theorem all_step {l : List S28} {f : S28 → Bool} {k : Nat} {y : S28} (h : (l.take k).all f = true) (hy : l[k]? = some y) (hf : f y = true) : (l.take (k + 1)).all f = true := by
  rw [List.take_add_one, hy]
  simp only [Option.toList, List.all_append, h, List.all_cons, hf, List.all_nil, Bool.and_self]
theorem all_end {l : List S28} {f : S28 → Bool} {k : Nat} (h : (l.take k).all f = true) (hk : l.length ≤ k) : l.all f = true := by
  rwa [List.take_of_length_le hk] at h
set_option maxHeartbeats 8000000 in
theorem right_ok : ∀ (n : Nat) (x : S28) (cs : List Value) (d : Int) (r : Bool) (w : World), k28.K w x cs → Sm x → 0 ≤ d → d + n = 33 → rightN n x = r →
    Calls Tryz.prog 53 #[.agg cs.toArray, .int .i64 d] w fun e w' => e = .returned (.bool r) ∧ Below w.heap.size w w' := by
  intro n
  induction n with
  | zero =>
    intro x cs d r w hx hsm hd0 hd hr
    obtain ⟨A4, c4, A5, c5, rfl, l4, g4, l5, g5⟩ := k28_open hx
    obtain ⟨b, hb⟩ : ∃ b, bareB x = b := ⟨_, rfl⟩
    have HB := Aside0.mk (fun h7 W => bare_q x A4 c4 A5 c5 b h7 hb W)
    obtain ⟨f0, f1, f2, f3, f4, f5⟩ := x
    dsimp only at HB
    have hw : (List.toArray [Value.int .u8 f0, .int .i64 f1, .int .i64 f2, .string f3, .slice A4 f4.length c4, .slice A5 f5.length c5]) = #[.int .u8 f0, .int .i64 f1, .int .i64 f2, .string f3, .slice A4 f4.length c4, .slice A5 f5.length c5] := rfl
    dsimp only
    rw [hw]
    clear hx hw
    have hr' : r = false := by rw [← hr]; rfl
    subst hr'
    have hd' : 32 < d := by omega
    clear hr hb l4 g4 l5 g5 hsm
    by_cases h7 : f0 ≤ 7
    · cases b
      all_goals
        go_enter Tryz.func53, Tryz.ntmps53
        go_wp2_with (go_at_call 93; refine (HB.out h7 _).mono ?_; rintro e w2 ⟨rfl, hb2⟩)
        go_ret
        exact ⟨rfl, ((Below.refl _ _).alloc (Nat.le_refl _) _).trans (hb2.mono (by simp))⟩
    · go_enter Tryz.func53, Tryz.ntmps53
      go_wp2_with fail
      go_ret
      exact ⟨rfl, (Below.refl _ _).alloc (Nat.le_refl _) _⟩
  | succ n ih =>
    intro x cs d r w hx hsm hd0 hd hr
    obtain ⟨A4, c4, A5, c5, rfl, l4, g4, l5, g5⟩ := k28_open hx
    have hsm' := hsm
    cases hsm' with
    | mk s3 s5 s4 =>
    obtain ⟨b, hb⟩ : ∃ b, bareB x = b := ⟨_, rfl⟩
    have HB := Aside0.mk (fun h7 W => bare_q x A4 c4 A5 c5 b h7 hb W)
    obtain ⟨f0, f1, f2, f3, f4, f5⟩ := x
    dsimp only at l4 g4 l5 g5 s3 s5 s4 HB
    have hw : (List.toArray [Value.int .u8 f0, .int .i64 f1, .int .i64 f2, .string f3, .slice A4 f4.length c4, .slice A5 f5.length c5]) = #[.int .u8 f0, .int .i64 f1, .int .i64 f2, .string f3, .slice A4 f4.length c4, .slice A5 f5.length c5] := rfl
    dsimp only
    rw [hw]
    clear hx hw
    have HBB := Aside0.mk hb
    have HR := Aside0.mk hr
    have H4 := Aside0.mk g4
    have H5 := Aside0.mk g5
    have S4 := Aside0.mk s4
    have S5 := Aside0.mk s5
    have IH := Aside0.mk ih
    have hd' : d ≤ 32 := by omega
    have hl4 : f4.length ≤ 9223372036854775807 := H4.out.2.1
    clear ih hr hb g4 g5 s4 s5 hsm
    by_cases h7 : f0 ≤ 7
    · cases b with
      | false =>
        go_enter Tryz.func53, Tryz.ntmps53
        go_wp2_with (go_at_call 93; refine (HB.out h7 _).mono ?_; rintro e w2 ⟨rfl, hb2⟩)
        go_ret
        exact ⟨by rw [← HR.out, rightN_bare _ HBB.out]; rfl, ((Below.refl _ _).alloc (Nat.le_refl _) _).trans (hb2.mono (by simp))⟩
      | true =>
        by_cases k1 : f0 = 1
        · have e1 : (f0 == 1) = true := by simp [k1]
          have HE := Aside0.mk (rightN_1 n h7 HBB.out k1)
          clear k1
          go_enter Tryz.func53, Tryz.ntmps53
          go_wp2_with (go_at_call 93; refine (HB.out h7 _).mono ?_; rintro e w2 ⟨rfl, hb2⟩; obtain ⟨q0, q1, q2, q3, q4, q5⟩ := six hb2 (heap_alloc_new w _); have HZ := Aside0.mk (show Below w.heap.size w w2 from ((Below.refl _ _).alloc (Nat.le_refl _) _).trans (hb2.mono (by simp))); have HL := Aside0.mk (blk_below hb2 (heap_alloc_new w _)); clear hb2)
          all_goals
            go_ret
            exact ⟨by rw [← HR.out, HE.out]; first | (simp [*]; done) | (simp [*]; omega), HZ.out⟩
        · have e1 : (f0 == 1) = false := by simp [k1]
          by_cases k3 : f0 = 3
          · have e3 : (f0 == 3) = true := by simp [k3]
            have HE := Aside0.mk (rightN_3 n h7 HBB.out k3)
            clear k1 k3
            obtain ⟨pl, hpl⟩ : ∃ p, plainL f3.data.toList = p := ⟨_, rfl⟩
            have HP := Aside0.mk hpl
            clear hpl
            go_enter Tryz.func53, Tryz.ntmps53
            go_wp2_with (first | (go_at_call 93; refine (HB.out h7 _).mono ?_; rintro e w2 ⟨rfl, hb2⟩; obtain ⟨q0, q1, q2, q3, q4, q5⟩ := six hb2 (heap_alloc_new w _); have HZ := Aside0.mk (show Below w.heap.size w w2 from ((Below.refl _ _).alloc (Nat.le_refl _) _).trans (hb2.mono (by simp))); have HL := Aside0.mk (blk_below hb2 (heap_alloc_new w _)); clear hb2) | (go_at_call 94; refine (plain_ok f3 pl _ s3 HP.out).mono ?_; rintro e w3 ⟨rfl, hb3⟩))
            go_ret
            exact ⟨by rw [← HR.out, HE.out, HP.out]; rfl, bt HZ.out hb3⟩
          · have e3 : (f0 == 3) = false := by simp [k3]
            by_cases k7 : f0 = 7
            · have e7 : (f0 == 7) = true := by simp [k7]
              have HE := Aside0.mk (rightN_7 n h7 HBB.out k7)
              clear k1 k3 k7
              go_enter Tryz.func53, Tryz.ntmps53
              go_wp2_with (go_at_call 93; refine (HB.out h7 _).mono ?_; rintro e w2 ⟨rfl, hb2⟩; obtain ⟨q0, q1, q2, q3, q4, q5⟩ := six hb2 (heap_alloc_new w _); have HZ := Aside0.mk (show Below w.heap.size w w2 from ((Below.refl _ _).alloc (Nat.le_refl _) _).trans (hb2.mono (by simp))); have HL := Aside0.mk (blk_below hb2 (heap_alloc_new w _)); clear hb2)
              all_goals
                go_ret
                exact ⟨by rw [← HR.out, HE.out]; first | (simp [*]; done) | (simp [*]; omega), HZ.out⟩
            · have e7 : (f0 == 7) = false := by simp [k7]
              obtain ⟨kd, hkd⟩ : ∃ b, keyedB ⟨f0, f1, f2, f3, f4, f5⟩ = b := ⟨_, rfl⟩
              have HK := Aside0.mk (fun W h => keyed_ok ⟨f0, f1, f2, f3, f4, f5⟩ A4 c4 A5 c5 kd W h l5 S5.out hkd)
              dsimp only at HK
              by_cases k6 : f0 = 6
              · have e6 : (f0 == 6) = true := by simp [k6]
                have HE := Aside0.mk (rightN_6 n h7 HBB.out k6)
                cases kd with
                | false =>
                  have HKD := Aside0.mk hkd
                  clear k1 k3 k7 k6 hkd
                  go_enter Tryz.func53, Tryz.ntmps53
                  go_wp2_with (first | (go_at_call 93; refine (HB.out h7 _).mono ?_; rintro e w2 ⟨rfl, hb2⟩; obtain ⟨q0, q1, q2, q3, q4, q5⟩ := six hb2 (heap_alloc_new w _); have HZ := Aside0.mk (show Below w.heap.size w w2 from ((Below.refl _ _).alloc (Nat.le_refl _) _).trans (hb2.mono (by simp))); have HL := Aside0.mk (blk_below hb2 (heap_alloc_new w _)); clear hb2) | (go_at_call 95; refine (HK.out _ (Kd.C_below H5.out HZ.out)).mono ?_; rintro e w3 ⟨rfl, hb3⟩))
                  go_ret
                  exact ⟨by rw [← HR.out, HE.out, HKD.out]; rfl, bt HZ.out hb3⟩
                | true =>
                  have HKD := Aside0.mk hkd
                  clear k1 k3 k7 k6 hkd
                  go_enter Tryz.func53, Tryz.ntmps53
                  go_wp2_with (first | (go_at_call 93; refine (HB.out h7 _).mono ?_; rintro e w2 ⟨rfl, hb2⟩; obtain ⟨q0, q1, q2, q3, q4, q5⟩ := six hb2 (heap_alloc_new w _); have HZ := Aside0.mk (show Below w.heap.size w w2 from ((Below.refl _ _).alloc (Nat.le_refl _) _).trans (hb2.mono (by simp))); have HL := Aside0.mk (blk_below hb2 (heap_alloc_new w _)); clear hb2) | (go_at_call 95; refine (HK.out _ (Kd.C_below H5.out HZ.out)).mono ?_; rintro e w3 ⟨rfl, hb3⟩; obtain ⟨p0, p1, p2, p3, p4, p5⟩ := six hb3 HL.out; have HZ3 := Aside0.mk (bt HZ.out hb3)))
                  obtain ⟨wz, hwz⟩ : ∃ wz, wz = w3 := ⟨_, rfl⟩
                  rw [← hwz]
                  have HY := Aside0.mk (show Below w.heap.size w wz from hwz ▸ HZ3.out)
                  clear hwz
                  go_loopw [64] (fun a wr => ∃ k : Nat, a = .int .i64 k ∧ k ≤ f4.length ∧ Aside0 (Below wz.heap.size wz wr) ∧ Aside0 ((f4.take k).all (rightN n) = true)) (fun a _ => f4.length - (intOf a).toNat)
                  case atStart => exact ⟨0, rfl, Nat.zero_le _, ⟨Below.refl _ _⟩, ⟨rfl⟩⟩
                  case round =>
                    obtain ⟨k, rfl, hk, HW, HA⟩ := hrel
                    have HX := Aside0.mk (bt HY.out HW.out)
                    by_cases hlt : k < f4.length
                    · obtain ⟨ad, B4, d4, B5, d5, e, y0, y1, y2, y3, y4, y5, m4, G4, m5, G5⟩ := at_T28 (Kd.C_below H4.out HX.out) (k : Int) (by omega) (by omega)
                      cases e
                      obtain ⟨y, hy⟩ : ∃ y, rd_T28 f4 (k : Int) = y := ⟨_, rfl⟩
                      rw [hy] at y0 y1 y2 y3 y4 y5 m4 G4 m5 G5
                      simp only [Int.toNat_natCast] at y0 y1 y2 y3 y4 y5
                      have hyk := Aside0.mk (show f4[k]? = some y by rw [← hy, rd_T28_at _ _ hlt, List.getElem?_eq_getElem hlt])
                      clear hy
                      obtain ⟨q, hq⟩ : ∃ q, rightN n y = q := ⟨_, rfl⟩
                      have HI := Aside0.mk (fun W (hW : Below wr.heap.size wr W) => IH.out y [.int .u8 y.f0, .int .i64 y.f1, .int .i64 y.f2, .string y.f3, .slice B4 y.f4.length d4, .slice B5 y.f5.length d5] (d + 1) q W (k28_mk W y m4 (Kd.C_below G4 hW) m5 (Kd.C_below G5 hW)) (S4.out _ (List.mem_of_getElem? hyk.out)) (by omega) (by omega) hq)
                      have HQ := Aside0.mk hq
                      clear hq G4 G5
                      cases q with
                      | false =>
                        go_wp2_with (go_at_call 53; refine (HI.out _ ((Below.refl _ _).alloc (Nat.le_refl _) _)).mono ?_; rintro e w4 ⟨rfl, hb4⟩)
                        go_ret
                        exact ⟨by rw [← HR.out, HE.out, HKD.out, all_stop hyk.out HQ.out]; rfl, HX.out.trans ((((Below.refl _ _).alloc (Nat.le_refl _) _).trans (hb4.mono (by simp))).mono HX.out.size)⟩
                      | true =>
                        go_wp2_with (go_at_call 53; refine (HI.out _ ((Below.refl _ _).alloc (Nat.le_refl _) _)).mono ?_; rintro e w4 ⟨rfl, hb4⟩)
                        go_roundw
                        case rel => exact ⟨k + 1, by go_num, by omega, ⟨HW.out.trans ((((Below.refl _ _).alloc (Nat.le_refl _) _).trans (hb4.mono (by simp))).mono HW.out.size)⟩, ⟨all_step HA.out hyk.out HQ.out⟩⟩
                        case measure => simp [intOf]; omega
                    · go_wp2
                      go_ret
                      exact ⟨by rw [← HR.out, HE.out, HKD.out, all_end HA.out (by omega)]; rfl, HX.out⟩
              · have e6 : (f0 == 6) = false := by simp [k6]
                have HE := Aside0.mk (rightN_0 n h7 HBB.out k1 k3 k7 k6)
                clear k1 k3 k7 k6 hkd
                go_enter Tryz.func53, Tryz.ntmps53
                go_wp2_with (go_at_call 93; refine (HB.out h7 _).mono ?_; rintro e w2 ⟨rfl, hb2⟩; obtain ⟨q0, q1, q2, q3, q4, q5⟩ := six hb2 (heap_alloc_new w _); have HZ := Aside0.mk (show Below w.heap.size w w2 from ((Below.refl _ _).alloc (Nat.le_refl _) _).trans (hb2.mono (by simp))); have HL := Aside0.mk (blk_below hb2 (heap_alloc_new w _)); clear hb2)
                obtain ⟨wz, hwz⟩ : ∃ wz, wz = w2 := ⟨_, rfl⟩
                rw [← hwz]
                have HY := Aside0.mk (show Below w.heap.size w wz from hwz ▸ HZ.out)
                clear hwz
                go_loopw [64] (fun a wr => ∃ k : Nat, a = .int .i64 k ∧ k ≤ f4.length ∧ Aside0 (Below wz.heap.size wz wr) ∧ Aside0 ((f4.take k).all (rightN n) = true)) (fun a _ => f4.length - (intOf a).toNat)
                case atStart => exact ⟨0, rfl, Nat.zero_le _, ⟨Below.refl _ _⟩, ⟨rfl⟩⟩
                case round =>
                  obtain ⟨k, rfl, hk, HW, HA⟩ := hrel
                  have HX := Aside0.mk (bt HY.out HW.out)
                  by_cases hlt : k < f4.length
                  · obtain ⟨ad, B4, d4, B5, d5, e, y0, y1, y2, y3, y4, y5, m4, G4, m5, G5⟩ := at_T28 (Kd.C_below H4.out HX.out) (k : Int) (by omega) (by omega)
                    cases e
                    obtain ⟨y, hy⟩ : ∃ y, rd_T28 f4 (k : Int) = y := ⟨_, rfl⟩
                    rw [hy] at y0 y1 y2 y3 y4 y5 m4 G4 m5 G5
                    simp only [Int.toNat_natCast] at y0 y1 y2 y3 y4 y5
                    have hyk := Aside0.mk (show f4[k]? = some y by rw [← hy, rd_T28_at _ _ hlt, List.getElem?_eq_getElem hlt])
                    clear hy
                    obtain ⟨q, hq⟩ : ∃ q, rightN n y = q := ⟨_, rfl⟩
                    have HI := Aside0.mk (fun W (hW : Below wr.heap.size wr W) => IH.out y [.int .u8 y.f0, .int .i64 y.f1, .int .i64 y.f2, .string y.f3, .slice B4 y.f4.length d4, .slice B5 y.f5.length d5] (d + 1) q W (k28_mk W y m4 (Kd.C_below G4 hW) m5 (Kd.C_below G5 hW)) (S4.out _ (List.mem_of_getElem? hyk.out)) (by omega) (by omega) hq)
                    have HQ := Aside0.mk hq
                    clear hq G4 G5
                    cases q with
                    | false =>
                      go_wp2_with (go_at_call 53; refine (HI.out _ ((Below.refl _ _).alloc (Nat.le_refl _) _)).mono ?_; rintro e w4 ⟨rfl, hb4⟩)
                      go_ret
                      exact ⟨by rw [← HR.out, HE.out, all_stop hyk.out HQ.out]; rfl, HX.out.trans ((((Below.refl _ _).alloc (Nat.le_refl _) _).trans (hb4.mono (by simp))).mono HX.out.size)⟩
                    | true =>
                      go_wp2_with (go_at_call 53; refine (HI.out _ ((Below.refl _ _).alloc (Nat.le_refl _) _)).mono ?_; rintro e w4 ⟨rfl, hb4⟩)
                      go_roundw
                      case rel => exact ⟨k + 1, by go_num, by omega, ⟨HW.out.trans ((((Below.refl _ _).alloc (Nat.le_refl _) _).trans (hb4.mono (by simp))).mono HW.out.size)⟩, ⟨all_step HA.out hyk.out HQ.out⟩⟩
                      case measure => simp [intOf]; omega
                  · go_wp2
                    go_ret
                    exact ⟨by rw [← HR.out, HE.out, all_end HA.out (by omega)]; rfl, HX.out⟩
    · go_enter Tryz.func53, Tryz.ntmps53
      go_wp2_with fail
      go_ret
      exact ⟨by rw [← HR.out, rightN_big _ (by dsimp only; omega)]; rfl, (Below.refl _ _).alloc (Nat.le_refl _) _⟩
theorem Right_ok (x : S28) (cs : List Value) (r : Bool) (w : World) (hx : k28.K w x cs) (hsm : Sm x) (hr : rightN 33 x = r) :
    Calls Tryz.prog 21 #[.agg cs.toArray] w fun e w' => e = .returned (.bool r) ∧ Below w.heap.size w w' := by
  have HI := Aside0.mk (fun W hW => right_ok 33 x cs 0 r W hW hsm (by omega) (by omega) hr)
  obtain ⟨A4, c4, A5, c5, rfl, l4, g4, l5, g5⟩ := k28_open hx
  have HK := Aside0.mk (k28.K_below ((Below.refl w.heap.size w).alloc (Nat.le_refl _) (.cells #[.int .u8 x.f0, .int .i64 x.f1, .int .i64 x.f2, .string x.f3, .slice A4 x.f4.length c4, .slice A5 x.f5.length c5] 28)) hx)
  clear hx hr hsm
  go_enter Tryz.func21, Tryz.ntmps21
  go_wp2_with (go_at_call 53; refine (HI.out _ HK.out).mono ?_; rintro e w2 ⟨rfl, hb2⟩)
  go_ret
  exact ⟨rfl, ((Below.refl _ _).alloc (Nat.le_refl _) _).trans (hb2.mono (by simp))⟩
end Go.Proofs.YtnckaeehcldheaaGreatDoor.Ob
end

section
set_option linter.unusedVariables false
set_option linter.unusedSimpArgs false
namespace Go.Proofs.YtnckaeehcldheaaGreatDoor.Ob
open Go.RowKit Go.Shelf YtnckaeehcldheaaGreatDoorW.PrintWords
theorem bits_or_u8 (a b : UInt8) : bits .or .u8 (a.toNat : Int) (b.toNat : Int) = ((a ||| b).toNat : Int) := by
  have h : ∀ c : UInt8, BitVec.ofInt 8 (c.toNat : Int) = c.toBitVec := fun c => by
    apply BitVec.eq_of_toNat_eq
    simp
  show IntKind.u8.wrap ((BitVec.ofInt 8 (a.toNat : Int) ||| BitVec.ofInt 8 (b.toNat : Int)).toNat : Int) = _
  rw [h, h, ← UInt8.toBitVec_or, IntKind.wrap_u8]
  have := (a ||| b).toNat_lt
  simp only [UInt8.toNat_toBitVec]
  omega
theorem indexByte_lt (l : List UInt8) (c : UInt8) : Lib.indexByte l c < l.length := by
  induction l with
  | nil => simp [Lib.indexByte]
  | cons b l ih =>
    unfold Lib.indexByte
    simp only [List.length_cons]
    split
    · omega
    · split <;> omega
def hexes : List UInt8 := [48, 49, 50, 51, 52, 53, 54, 55, 56, 57, 97, 98, 99, 100, 101, 102]
def hexI (c : UInt8) : Int := Lib.indexByte hexes (c ||| 32)
theorem hexI_le (c : UInt8) : -1 ≤ hexI c ∧ hexI c ≤ 15 := by
  have := indexByte_lt hexes (c ||| 32)
  exact ⟨Lib.indexByte_ge _ _, by unfold hexI; simp [hexes] at this ⊢; omega⟩
def hexD (c : UInt8) : Option UInt8 := if hexI c < 0 ∨ c.toNat < 48 then none else some (UInt8.ofNat (hexI c).toNat)
def undL : List UInt8 → List UInt8 → Bool → Option (List UInt8)
  | [], xs, _ => some xs
  | c :: l, xs, hf => if blank c then undL l xs hf else match hexD c with
    | none => none
    | some d => if hf then undL l (xs.set (xs.length - 1) (xs.getD (xs.length - 1) 0 ||| d)) false else undL l (xs ++ [UInt8.ofNat (16 * d.toNat)]) true
theorem hex_ok (b : UInt8) (v : Int) (w : World) (h : hexI b = v) :
    Calls Tryz.prog 121 #[.string ⟨#[48, 49, 50, 51, 52, 53, 54, 55, 56, 57, 97, 98, 99, 100, 101, 102]⟩, .int .u8 (bits .or .u8 (b.toNat : Int) 32)] w fun e w' => e = .returned (.int .i64 v) ∧ w' = w := by
  subst h
  refine (Tryz.strings_IndexByte _ _ w).mono ?_
  rintro e w' ⟨rfl, rfl⟩
  refine ⟨?_, rfl⟩
  have := bits_or_u8 b 32
  simp only [show ((32 : UInt8).toNat : Int) = 32 from rfl] at this
  rw [this]
  unfold hexI
  simp
  rfl
def UndPost (w : World) (o : Option (List UInt8)) (e : Ending) (w' : World) : Prop := Below w.heap.size w w' ∧ match o with
  | none => e = .returned (.tuple #[.slice none 0 0, .bool false])
  | some l => ∃ v, e = .returned (.tuple #[v, .bool true]) ∧ w'.ownsRow w.heap.size 5 1 v (bl l).length (nums .u8 (bl l))
theorem UndPost.no {w w' : World} {o : Option (List UInt8)} (hb : Below w.heap.size w w') (h : o = none) : UndPost w o (.returned (.tuple #[.slice none 0 0, .bool false])) w' := by
  subst h; exact ⟨hb, rfl⟩
theorem UndPost.yes {w w' : World} {o : Option (List UInt8)} {v : Value} {l : List UInt8} (hb : Below w.heap.size w w') (h : o = some l) (ho : w'.ownsRow w.heap.size 5 1 v (bl l).length (nums .u8 (bl l))) : UndPost w o (.returned (.tuple #[v, .bool true])) w' := by
  subst h; exact ⟨hb, v, rfl, ho⟩
set_option maxHeartbeats 2000000 in
theorem undigits_ok (A : Option Addr) (c : Nat) (p : List UInt8) (w : World) (hp : RB w A p) (hpl : p.length < 4294967281) :
    Calls Tryz.prog 113 #[.slice A p.length c] w (UndPost w (undL p [] false)) := by
  have HP := Aside0.mk hp
  clear hp
  go_enter Tryz.func113, Tryz.ntmps113
  go_wp2
  go_loopw [4, 5, 11] (fun v h i wr => ∃ (k : Nat) (hf : Bool) (xs : List UInt8), i = .int .i64 k ∧ h = .bool hf ∧ k ≤ p.length ∧ Aside0 (wr.ownsRow w.heap.size 5 1 v (bl xs).length (nums .u8 (bl xs))) ∧ Aside0 (Below w.heap.size w wr) ∧ Aside0 (undL (p.drop k) xs hf = undL p [] false) ∧ Aside0 (hf = true → xs ≠ []) ∧ Aside0 (xs.length ≤ k)) (fun _ _ i _ => p.length - (intOf i).toNat)
  case atStart => exact ⟨0, false, [], rfl, rfl, Nat.zero_le _, ⟨own_nil _ _ _ _⟩, ⟨Below.refl _ _⟩, ⟨rfl⟩, ⟨fun h => by cases h⟩, ⟨Nat.le_refl _⟩⟩
  case round =>
    obtain ⟨k, hf, xs, rfl, rfl, hk, HO, HB, HE, HX, HL⟩ := hrel
    by_cases hlt : k < p.length
    · obtain ⟨ad, e, hc⟩ := (HP.out.below HB.out).at_ k hlt
      cases e
      obtain ⟨b, hb⟩ : ∃ b, p[k] = b := ⟨_, rfl⟩
      rw [hb] at hc
      have hE := HE.out
      rw [List.drop_eq_getElem_cons hlt, hb, undL] at hE
      have HE2 := Aside0.mk hE
      clear HE hE hb
      obtain ⟨q, hq⟩ : ∃ q, blank b = q := ⟨_, rfl⟩
      have HQ := Aside0.mk hq
      clear hq
      cases q with
      | true =>
        go_wp2_with (go_at_call 104; refine (is_in ad _ _ k ⟨#[0, 9, 10, 12, 13, 32]⟩ _ _ _ hlt hc HQ.out).mono ?_; rintro e w' ⟨rfl, rfl⟩)
        go_roundw
        case rel => exact ⟨k + 1, hf, xs, by go_num, rfl, by omega, HO, HB, ⟨by rw [← HE2.out, if_pos HQ.out]⟩, HX, ⟨by have := HL.out; omega⟩⟩
        case measure => simp [intOf]; omega
      | false =>
        obtain ⟨v, hv⟩ : ∃ v, hexI b = v := ⟨_, rfl⟩
        have HV := Aside0.mk hv
        have hv1 : -1 ≤ v := by rw [← hv]; exact (hexI_le b).1
        have hv2 : v ≤ 15 := by rw [← hv]; exact (hexI_le b).2
        clear hv
        have HE3 := Aside0.mk (show (match hexD b with
          | none => none
          | some d => if hf then undL (p.drop (k + 1)) (xs.set (xs.length - 1) (xs.getD (xs.length - 1) 0 ||| d)) false else undL (p.drop (k + 1)) (xs ++ [UInt8.ofNat (16 * d.toNat)]) true) = undL p [] false by rw [← HE2.out, if_neg (by rw [HQ.out]; simp)])
        by_cases h0 : v < 0
        · have HN := Aside0.mk (show undL p [] false = none by rw [← HE3.out, hexD, if_pos (.inl (by rw [HV.out]; exact h0))])
          clear HE2 HE3
          go_wp2_with (first | (go_at_call 104; refine (is_in ad _ _ k ⟨#[0, 9, 10, 12, 13, 32]⟩ _ _ _ hlt hc HQ.out).mono ?_; rintro e w' ⟨rfl, rfl⟩) | (go_at_call 121; refine (hex_ok b v _ HV.out).mono ?_; rintro e w' ⟨rfl, rfl⟩))
          go_ret2
          exact UndPost.no HB.out HN.out
        · by_cases h48 : b.toNat < 48
          · have HN := Aside0.mk (show undL p [] false = none by rw [← HE3.out, hexD, if_pos (.inr h48)])
            clear HE2 HE3
            go_wp2_with (first | (go_at_call 104; refine (is_in ad _ _ k ⟨#[0, 9, 10, 12, 13, 32]⟩ _ _ _ hlt hc HQ.out).mono ?_; rintro e w' ⟨rfl, rfl⟩) | (go_at_call 121; refine (hex_ok b v _ HV.out).mono ?_; rintro e w' ⟨rfl, rfl⟩))
            go_ret2
            exact UndPost.no HB.out HN.out
          · have hd : hexD b = some (UInt8.ofNat v.toNat) := by rw [hexD, if_neg (by rw [HV.out]; omega), HV.out]
            have HE4 := HE3.out
            rw [hd] at HE4
            obtain ⟨d, hdv⟩ : ∃ d : UInt8, UInt8.ofNat v.toNat = d := ⟨_, rfl⟩
            have hvd : v = (d.toNat : Int) := by rw [← hdv]; simp; omega
            rw [hdv] at HE4
            have HE5 := Aside0.mk HE4
            clear HE2 HE3 HE4 hd hdv
            cases hf with
            | true =>
              have hlen : 0 < xs.length := List.length_pos_iff.2 (HX.out rfl)
              have hL := HL.out
              obtain ⟨g, cap, hv', hgb, hgl⟩ := HO.out.form (by simpa using hlen)
              subst hv'
              obtain ⟨x0, hx0⟩ : ∃ x0 : UInt8, xs.getD (xs.length - 1) 0 = x0 := ⟨_, rfl⟩
              obtain ⟨hcell, hfro⟩ := own_at HO.out ((xs.length - 1 : Nat) : Int) (by omega) (by simp; omega)
              rw [rd_bl _ _ (by omega), show xs[xs.length - 1]'(by omega) = x0 by rw [← hx0]; simp [List.getD_eq_getElem?_getD, List.getElem?_eq_getElem (show xs.length - 1 < xs.length by omega)]] at hcell
              simp only [Int.toNat_natCast] at hcell hfro
              have HX0 := Aside0.mk hx0
              have HVD := Aside0.mk hvd
              clear hx0 hvd
              go_wp2_with (first | (go_at_call 104; refine (is_in ad _ _ k ⟨#[0, 9, 10, 12, 13, 32]⟩ _ _ _ hlt hc HQ.out).mono ?_; rintro e w' ⟨rfl, rfl⟩) | (go_at_call 121; refine (hex_ok b v _ HV.out).mono ?_; rintro e w' ⟨rfl, rfl⟩))
              have hst := (own_store HO.out ((xs.length - 1 : Nat) : Int) (bits .or .u8 (x0.toNat : Int) v)).1
              go_roundw
              case rel =>
                refine ⟨k + 1, false, xs.set (xs.length - 1) (x0 ||| d), by go_num, rfl, by omega, ⟨?_⟩, ⟨HB.out.setCell hgb _⟩, ⟨by have := HE5.out; rw [HX0.out] at this; simpa using this⟩, ⟨fun h => by cases h⟩, ⟨by simp; omega⟩⟩
                have e : (bl xs).set (xs.length - 1) (bits .or .u8 (x0.toNat : Int) v) = bl (xs.set (xs.length - 1) (x0 ||| d)) := by
                  rw [HVD.out, bits_or_u8]
                  simp [bl, List.map_set]
                simp only [Int.toNat_natCast] at hst
                rw [e] at hst
                simpa using hst
              case measure => simp [intOf]; omega
            | false =>
              have hL := HL.out
              have HVD := Aside0.mk hvd
              clear hvd
              go_wp2_with (first | (go_at_call 104; refine (is_in ad _ _ k ⟨#[0, 9, 10, 12, 13, 32]⟩ _ _ _ hlt hc HQ.out).mono ?_; rintro e w' ⟨rfl, rfl⟩) | (go_at_call 121; refine (hex_ok b v _ HV.out).mono ?_; rintro e w' ⟨rfl, rfl⟩) | (at_builtin; refine print_append_num w.heap.size rfl (.tmp 39) (.tmp 43) 22 5 .u8 1 rfl Tryz.underlying22 Tryz.info5 (by decide) _ (bl xs) _ rfl rfl HO.out HB.out HB.out.size (by simp; omega) ?_; intro v1 w1 hown hB1 hg hat))
              go_roundw
              case rel =>
                refine ⟨k + 1, true, xs ++ [UInt8.ofNat (16 * d.toNat)], by go_num, rfl, by omega, ⟨?_⟩, ⟨hB1⟩, ⟨by have := HE5.out; simpa using this⟩, ⟨fun _ => by simp⟩, ⟨by simp; omega⟩⟩
                have e : bl xs ++ [v * 16] = bl (xs ++ [UInt8.ofNat (16 * d.toNat)]) := by
                  have := HVD.out
                  simp [bl]; omega
                rw [e] at hown
                exact hown
              case measure => simp [intOf]; omega
    · obtain rfl : k = p.length := by omega
      have HS := Aside0.mk (show undL p [] false = some xs by rw [← HE.out, List.drop_length]; rfl)
      go_wp2
      go_ret2
      exact UndPost.yes HB.out HS.out HO.out
end Go.Proofs.YtnckaeehcldheaaGreatDoor.Ob
end

section
set_option linter.unusedVariables false
set_option linter.unusedSimpArgs false
namespace Go.Proofs.YtnckaeehcldheaaGreatDoor.Ob
open Go.RowKit Go.Shelf YtnckaeehcldheaaGreatDoorW.PrintWords
theorem idxb_nil (n c : Nat) (cv : Int) (w : World) :
    Calls Tryz.prog 112 #[.slice none n c, .int .u8 cv] w fun e w' => e = .returned (.int .i64 (-1)) ∧ w' = w := by
  have hx : ∀ w : World, (callFunc 134 #[.slice none n c, .int .u8 cv]).run Tryz.prog w = .ok (.value (.int .i64 (-1))) w := fun w => by
    rw [run_callFunc_extern (P := Tryz.prog) Tryz.func134 (by kernel_rfl) (by kernel_rfl) (by kernel_rfl) (e := Extern.BytealgIndexByte.indexByte) (by kernel_rfl), Lib.run_indexByteNil w n c cv]
    rfl
  go_enter Tryz.func112, Tryz.ntmps112
  go_wp2_with fail
  go_ret
  exact ⟨rfl, rfl⟩
theorem bytesOf_bl (l : List UInt8) : Lib.bytesOf (bl l) = l := by
  unfold Lib.bytesOf bl
  rw [List.map_map]
  exact (List.map_congr_left (fun b _ => by simp)).trans (List.map_id l)
theorem idxb_ok (A : Option Addr) (c n : Nat) (l : List UInt8) (b : UInt8) (v : Int) (w : World) (h : RB w A l) (hn : l.length = n) (hv : Lib.indexByte l b = v) :
    Calls Tryz.prog 112 #[.slice A n c, .int .u8 (b.toNat : Int)] w fun e w' => e = .returned (.int .i64 v) ∧ w' = w := by
  subst hv hn
  cases A with
  | none =>
    have h0 : l = [] := by
      rcases Nat.eq_zero_or_pos l.length with h0 | h0
      · exact List.eq_nil_of_length_eq_zero h0
      · obtain ⟨ad, e, _⟩ := h.at_ 0 h0
        cases e
    subst h0
    exact idxb_nil _ _ _ w
  | some ad =>
    refine (Tryz.bytes_IndexByte_at ad l.length c (bl l) (b.toNat : Int) w (by simp) (fun i hi => ?_)).mono ?_
    · obtain ⟨ad', e, hc⟩ := h.at_ i hi
      cases e
      rw [hc]
      simp [bl, List.getD_eq_getElem?_getD, List.getElem?_eq_getElem hi]
    · rintro e w' ⟨rfl, rfl⟩
      rw [bytesOf_bl]
      simp
theorem six_c {W : World} {B : Nat} {t : TypeId} {a0 a1 a2 a3 a4 a5 : Value} (h : W.heap[B]? = some (.cells #[a0, a1, a2, a3, a4, a5] t (0, 0))) :
    (W.cell? ⟨B, 0, none⟩ = some a0 ∧ W.cell? ⟨B, 1, none⟩ = some a1 ∧ W.cell? ⟨B, 2, none⟩ = some a2 ∧ W.cell? ⟨B, 3, none⟩ = some a3 ∧ W.cell? ⟨B, 4, none⟩ = some a4 ∧ W.cell? ⟨B, 5, none⟩ = some a5) ∧
    (W.frozen? ⟨B, 0, none⟩ = false ∧ W.frozen? ⟨B, 1, none⟩ = false ∧ W.frozen? ⟨B, 2, none⟩ = false ∧ W.frozen? ⟨B, 3, none⟩ = false ∧ W.frozen? ⟨B, 4, none⟩ = false ∧ W.frozen? ⟨B, 5, none⟩ = false) :=
  ⟨⟨cell_of_blk h rfl, cell_of_blk h rfl, cell_of_blk h rfl, cell_of_blk h rfl, cell_of_blk h rfl, cell_of_blk h rfl⟩, ⟨frozen_of_blk h, frozen_of_blk h, frozen_of_blk h, frozen_of_blk h, frozen_of_blk h, frozen_of_blk h⟩⟩
theorem Fr.set_new {g b : Nat} {w w' : World} (h : Fr g w w') (hb : w.heap.size ≤ b) (j : Nat) (u : Value) : Fr g w (w'.setCell ⟨b, j, none⟩ u) :=
  ⟨h.os, h.tape, h.output, by simpa [World.setCell] using h.size, fun i hi hg => (Below.heap_setCell w' ⟨b, j, none⟩ u i (by simp; omega)).trans (h.block i hi hg)⟩
theorem Rdr.set_far {w g A c p at_} (h : Rdr w g A c p at_) {b : Nat} (hb : b ≠ g) (hA : ∀ ad, A = some ad → p ≠ [] → ad.block ≠ b) (j : Nat) (u : Value) : Rdr (w.setCell ⟨b, j, none⟩ u) g A c p at_ :=
  ⟨(Below.heap_setCell w ⟨b, j, none⟩ u g (fun e => hb e.symm)).trans h.blk, h.le, h.cap, h.rb.same fun ad e hne => Below.heap_setCell w ⟨b, j, none⟩ u _ (hA ad e hne), h.far⟩
abbrev put6 (W : World) (B : Nat) (b0 b1 b2 b3 b4 b5 : Value) : World := (((((W.setCell ⟨B, 0, none⟩ b0).setCell ⟨B, 1, none⟩ b1).setCell ⟨B, 2, none⟩ b2).setCell ⟨B, 3, none⟩ b3).setCell ⟨B, 4, none⟩ b4).setCell ⟨B, 5, none⟩ b5
theorem put6_blk {W : World} {B : Nat} {t : TypeId} {a0 a1 a2 a3 a4 a5 : Value} (h : W.heap[B]? = some (.cells #[a0, a1, a2, a3, a4, a5] t (0, 0))) (b0 b1 b2 b3 b4 b5 : Value) :
    (put6 W B b0 b1 b2 b3 b4 b5).heap[B]? = some (.cells #[b0, b1, b2, b3, b4, b5] t (0, 0)) := by
  have h0 := blk_set h 0 b0
  have h1 := blk_set h0 1 b1
  have h2 := blk_set h1 2 b2
  have h3 := blk_set h2 3 b3
  have h4 := blk_set h3 4 b4
  simpa using blk_set h4 5 b5
theorem put6_fr {g b : Nat} {w w' : World} (h : Fr g w w') (hb : w.heap.size ≤ b) (b0 b1 b2 b3 b4 b5 : Value) : Fr g w (put6 w' b b0 b1 b2 b3 b4 b5) :=
  (((((h.set_new hb 0 b0).set_new hb 1 b1).set_new hb 2 b2).set_new hb 3 b3).set_new hb 4 b4).set_new hb 5 b5
theorem put6_rdr {w g A c p at_} (h : Rdr w g A c p at_) {b : Nat} (hb : b ≠ g) (hA : ∀ ad, A = some ad → p ≠ [] → ad.block ≠ b) (b0 b1 b2 b3 b4 b5 : Value) : Rdr (put6 w b b0 b1 b2 b3 b4 b5) g A c p at_ :=
  (((((h.set_far hb hA 0 b0).set_far hb hA 1 b1).set_far hb hA 2 b2).set_far hb hA 3 b3).set_far hb hA 4 b4).set_far hb hA 5 b5
theorem put6_below {B b : Nat} {w w' : World} (h : Below B w w') (hb : B ≤ b) (b0 b1 b2 b3 b4 b5 : Value) : Below B w (put6 w' b b0 b1 b2 b3 b4 b5) :=
  (((((h.setCell (p := ⟨b, 0, none⟩) hb b0).setCell (p := ⟨b, 1, none⟩) hb b1).setCell (p := ⟨b, 2, none⟩) hb b2).setCell (p := ⟨b, 3, none⟩) hb b3).setCell (p := ⟨b, 4, none⟩) hb b4).setCell (p := ⟨b, 5, none⟩) hb b5
theorem ret_put6 {P : Program} {fn : Func} {R : Ending → World → Prop} {act : Act} {W : World} {B : Nat} {t : TypeId} {a0 a1 a2 a3 a4 a5 b0 b1 b2 b3 b4 b5 v : Value} (h : W.heap[B]? = some (.cells #[a0, a1, a2, a3, a4, a5] t (0, 0)))
    (hres : ∀ W2 : World, W2.cell? ⟨B, 0, none⟩ = some b0 → W2.cell? ⟨B, 1, none⟩ = some b1 → W2.cell? ⟨B, 2, none⟩ = some b2 → W2.cell? ⟨B, 3, none⟩ = some b3 → W2.cell? ⟨B, 4, none⟩ = some b4 → W2.cell? ⟨B, 5, none⟩ = some b5 → (results fn act.tmps).run P W2 = .ok v W2)
    (hd : act.defers = []) (hR : R (.returned v) (put6 W B b0 b1 b2 b3 b4 b5)) : bodyPost P fn R Exit.ret act (put6 W B b0 b1 b2 b3 b4 b5) := by
  obtain ⟨⟨z0, z1, z2, z3, z4, z5⟩, _⟩ := six_c (put6_blk h b0 b1 b2 b3 b4 b5)
  exact bodyPost_ret (hres _ z0 z1 z2 z3 z4 z5) hd hR
theorem Rdr.lt {w g A c p at_} (h : Rdr w g A c p at_) : g < w.heap.size := (Array.getElem?_eq_some_iff.1 h.blk).1
theorem Rdr.ne_new {w g A c p at_} (h : Rdr w g A c p at_) {b : Nat} (hb : g < b) : ∀ ad, A = some ad → p ≠ [] → ad.block ≠ b := fun ad e hne => by have := h.far ad e hne; omega
theorem own_RB {w : World} {base : Nat} {v : Value} {l : List UInt8} (h : w.ownsRow base 5 1 v (bl l).length (nums .u8 (bl l))) : ∃ A c, v = .slice A l.length c ∧ RB w A l ∧ ∀ ad, A = some ad → base ≤ ad.block := by
  obtain ⟨A, c, e, hr⟩ := own_reads h
  refine ⟨A, c, by simpa using e, ?_, fun ad ha => ?_⟩
  · have := Kd.C_of_reads (d := (0 : Int)) (enc := Value.int .u8) (h1 := fun _ => rfl) hr
    rw [bl_length] at this
    exact this
  · subst ha
    exact own_base h ad.block (by rw [e]; rfl)
theorem und_no (A : Option Addr) (c : Nat) (p : List UInt8) (w : World) (hp : RB w A p) (hpl : p.length < 4294967281) (h : undL p [] false = none) :
    Calls Tryz.prog 113 #[.slice A p.length c] w fun e w' => e = .returned (.tuple #[.slice none 0 0, .bool false]) ∧ Below w.heap.size w w' := by
  refine (undigits_ok A c p w hp hpl).mono ?_
  rintro e w' ⟨hb, he⟩
  rw [h] at he
  exact ⟨he, hb⟩
theorem und_yes (A : Option Addr) (c : Nat) (p l : List UInt8) (w : World) (hp : RB w A p) (hpl : p.length < 4294967281) (h : undL p [] false = some l) :
    Calls Tryz.prog 113 #[.slice A p.length c] w fun e w' => ∃ B d, e = .returned (.tuple #[.slice B l.length d, .bool true]) ∧ Below w.heap.size w w' ∧ RB w' B l ∧ ∀ ad, B = some ad → w.heap.size ≤ ad.block := by
  refine (undigits_ok A c p w hp hpl).mono ?_
  rintro e w' ⟨hb, he⟩
  rw [h] at he
  obtain ⟨v, rfl, ho⟩ := he
  obtain ⟨B, d, rfl, hr, hB⟩ := own_RB ho
  exact ⟨B, d, rfl, hb, hr, hB⟩
def textS (p : List UInt8) (at_ : Nat) : Option (List UInt8 × Nat) :=
  let v := Lib.indexByte (p.drop at_) 62
  if v < 0 then none else (undL ((p.drop at_).take v.toNat) [] false).map fun t => (t, at_ + v.toNat + 1)
def zeroV : Value := .agg #[.int .u8 0, .int .i64 0, .int .i64 0, .string ⟨#[]⟩, .slice none 0 0, .slice none 0 0]
def TextPost (g : Nat) (A : Option Addr) (c : Nat) (p : List UInt8) (o : Option (List UInt8 × Nat)) (w : World) (e : Ending) (w' : World) : Prop :=
  Fr g w w' ∧ match o with
  | none => e = .returned (.tuple #[zeroV, .int .i64 2])
  | some (t, q) => e = .returned (.tuple #[.agg #[.int .u8 4, .int .i64 0, .int .i64 0, .string (ofL t), .slice none 0 0, .slice none 0 0], .int .i64 0]) ∧ Rdr w' g A c p q
set_option maxHeartbeats 2000000 in
set_option maxRecDepth 100000 in
theorem text_ok (g : Nat) (A : Option Addr) (c : Nat) (p : List UInt8) (at_ : Nat) (w : World) (h : Rdr w g A c p at_) (hpl : p.length < 4294967281) :
    Calls Tryz.prog 81 #[.pointer (some ⟨g, 0, none⟩)] w (TextPost g A c p (textS p at_) w) := by
  obtain ⟨v, hv⟩ : ∃ v, Lib.indexByte (p.drop at_) 62 = v := ⟨_, rfl⟩
  have hle := h.le
  have hvl : v < ((p.length - at_ : Nat) : Int) := by have := indexByte_lt (p.drop at_) 62; rw [hv] at this; simpa using this
  have H := Aside0.mk h
  have HV := Aside0.mk hv
  clear h hv
  have hA : Below w.heap.size w (w.alloc (.cells #[.int .u8 0, .int .i64 0, .int .i64 0, .string ⟨#[]⟩, .slice none 0 0, .slice none 0 0] 28)) := (Below.refl _ _).alloc (Nat.le_refl _) _
  obtain ⟨w0, hw0⟩ : ∃ w0, w0 = w.alloc (.cells #[.int .u8 0, .int .i64 0, .int .i64 0, .string ⟨#[]⟩, .slice none 0 0, .slice none 0 0] 28) := ⟨_, rfl⟩
  rw [← hw0] at hA
  have HA := Aside0.mk hA
  clear hA
  go_enter Tryz.func81, Tryz.ntmps81
  go_wp2_with fail
  rw [← hw0]
  have hblk : w0.heap[w.heap.size]? = some (.cells #[.int .u8 0, .int .i64 0, .int .i64 0, .string ⟨#[]⟩, .slice none 0 0, .slice none 0 0] 28 (0, 0)) := by rw [hw0]; exact heap_alloc_new w _
  have HL := Aside0.mk hblk
  have hne : g ≠ w.heap.size := by have := (Array.getElem?_eq_some_iff.1 H.out.blk).1; omega
  have R0 := Aside0.mk (H.out.below HA.out)
  have F0 := Aside0.mk (Fr.of_below g HA.out)
  clear hw0 hblk
  have c0 := R0.out.c0
  have c1 := R0.out.c1
  obtain ⟨A', m, c', hm, hmc, hA', hrun⟩ := RB.from_ R0.out.rb c at_ R0.out.cap hle
  have HI := Aside0.mk (fun n => idxb_ok A' c' m.length m 62 v (w0.drewN n) (hA'.drewN n) rfl (by rw [hm.out]; exact HV.out))
  clear hA'
  go_quiet ((go_at_call 112; exact Calls.quiet_of_same (HI.out _)))
  obtain ⟨W1, hW1⟩ : ∃ W, W = w0.drewN nq := ⟨_, rfl⟩
  rw [← hW1]
  have R1 := Aside0.mk (show Rdr W1 g A c p at_ from hW1 ▸ R0.out.drewN nq)
  have F1 := Aside0.mk (show Fr g w W1 from hW1 ▸ F0.out.drewN nq)
  have L1 := Aside0.mk (show W1.heap[w.heap.size]? = some (.cells #[.int .u8 0, .int .i64 0, .int .i64 0, .string ⟨#[]⟩, .slice none 0 0, .slice none 0 0] 28 (0, 0)) by rw [hW1]; exact HL.out)
  clear hW1 c0 c1 R0 F0 HL hrun HI
  have c0 := R1.out.c0
  have c1 := R1.out.c1
  by_cases hneg : v < 0
  · have HT := Aside0.mk (show textS p at_ = none by simp only [textS]; rw [HV.out, if_pos hneg])
    obtain ⟨⟨z0, z1, z2, z3, z4, z5⟩, y0, y1, y2, y3, y4, y5⟩ := six_c L1.out
    go_wp2_with fail
    refine ret_put6 (v := .tuple #[zeroV, .int .i64 2]) L1.out (fun W2 z0 z1 z2 z3 z4 z5 => by simp [results, Tryz.results81, go_sem, zeroV, z0, z1, z2, z3, z4, z5]) rfl ?_
    rw [HT.out]
    exact ⟨put6_fr F1.out (Nat.le_refl _) _ _ _ _ _ _, rfl⟩
  · obtain ⟨u, hu⟩ : ∃ u : Nat, v = (u : Int) := ⟨v.toNat, by omega⟩
    subst hu
    obtain ⟨E, hE⟩ : ∃ E, E = at_ + u := ⟨_, rfl⟩
    obtain ⟨A2, m2, c2, hm2, hmc2, hA2, hrun2⟩ := RB.cut R1.out.rb c at_ E R1.out.cap (by omega) (by omega)
    have hsum : (at_ : Int) + (u : Int) = (E : Int) := by omega
    have hpl2 := R1.out.rb.le
    have hwE : IntKind.i64.wrap (E : Int) = (E : Int) := IntWalk.i64_in _ (by omega)
    have HE := Aside0.mk hE
    have hm2l : m2.length < 4294967281 := by have := hm2.out; rw [this]; simp; omega
    cases hun : undL m2 [] false with
    | none =>
      have HU := Aside0.mk (und_no A2 c2 m2 W1.drew hA2.drew hm2l hun)
      have HT := Aside0.mk (show textS p at_ = none by
        simp only [textS]
        rw [HV.out, if_neg hneg, Int.toNat_natCast, List.take_drop, ← HE.out, ← hm2.out, hun]; rfl)
      clear hA2 hE hun
      go_wp2_with fail
      go_region_with (go_at_call 113; refine HU.out.mono ?_; rintro e w2 ⟨rfl, hb2⟩)
      all_goals
        obtain ⟨⟨z0, z1, z2, z3, z4, z5⟩, y0, y1, y2, y3, y4, y5⟩ := six_c (blk_below (w := W1.drew) hb2 L1.out)
        go_wp2_with fail
        refine ret_put6 (v := .tuple #[zeroV, .int .i64 2]) (blk_below (w := W1.drew) hb2 L1.out) (fun W2 z0 z1 z2 z3 z4 z5 => by simp [results, Tryz.results81, go_sem, zeroV, z0, z1, z2, z3, z4, z5]) rfl ?_
        rw [HT.out]
        exact ⟨put6_fr (F1.out.trans (Fr.of_below g (bt (Below.refl _ W1).drew hb2))) (Nat.le_refl _) _ _ _ _ _ _, rfl⟩
    | some l =>
      have HU := Aside0.mk (und_yes A2 c2 m2 l W1.drew hA2.drew hm2l hun)
      have HT := Aside0.mk (show textS p at_ = some (l, at_ + u + 1) by
        simp only [textS]
        rw [HV.out, if_neg hneg, Int.toNat_natCast, List.take_drop, ← HE.out, ← hm2.out, hun]; rfl)
      obtain ⟨Z, hZ⟩ : ∃ Z, Z = at_ + u + 1 := ⟨_, rfl⟩
      have hZle : Z ≤ p.length := by omega
      have hZs : (at_ : Int) + ((u : Int) + 1) = (Z : Int) := by omega
      have hZw : IntKind.i64.wrap (Z : Int) = (Z : Int) := IntWalk.i64_in _ (by omega)
      have HZ := Aside0.mk hZ
      clear hA2 hE hun hZ
      go_wp2_with fail
      go_region_with (go_at_call 113; refine HU.out.mono ?_; rintro e w2 ⟨B, d, rfl, hb2, hB, hBl⟩)
      all_goals
        have R2 := Aside0.mk (Rdr.below (w := W1.drew) R1.out.drew hb2)
        have f1 := R2.out.f1
        have c2' := R2.out.c1
        have c3' := R2.out.c0
        have hlt := R2.out.lt
        have hlt0 := H.out.lt
        have R3 := Aside0.mk (R2.out.set Z hZle)
        have hL2 := blk_below (w := W1.drew) hb2 L1.out
        have hL3 := (Below.heap_setCell w2 ⟨g, 1, none⟩ (.int .i64 (Z : Int)) w.heap.size (fun e => hne e.symm)).trans hL2
        have hB3 : RB (w2.setCell ⟨g, 1, none⟩ (.int .i64 (Z : Int))) B l := hB.same fun ad e _ => Below.heap_setCell w2 ⟨g, 1, none⟩ _ _ (by have h1 := hBl ad e; have h2 := R1.out.lt; have h3 : W1.drew.heap.size = W1.heap.size := rfl; dsimp only; omega)
        have hs3 := hB3.str d
        have F3 := Aside0.mk ((F1.out.trans (Fr.of_below g (bt (Below.refl _ W1).drew hb2))).set 1 (.int .i64 (Z : Int)))
        obtain ⟨⟨z0, z1, z2, z3, z4, z5⟩, y0, y1, y2, y3, y4, y5⟩ := six_c hL3
        have L3 := Aside0.mk hL3
        clear hL2 hL3 hB3 hB hBl hb2
        go_wp2_with fail
        refine ret_put6 (v := .tuple #[.agg #[.int .u8 4, .int .i64 0, .int .i64 0, .string (ofL l), .slice none 0 0, .slice none 0 0], .int .i64 0]) L3.out (fun W2 z0 z1 z2 z3 z4 z5 => by simp [results, Tryz.results81, go_sem, ofL, z0, z1, z2, z3, z4, z5]) rfl ?_
        rw [HT.out, ← HZ.out]
        exact ⟨put6_fr F3.out (Nat.le_refl _) _ _ _ _ _ _, rfl, put6_rdr R3.out (by omega) (H.out.ne_new H.out.lt) _ _ _ _ _ _⟩
end Go.Proofs.YtnckaeehcldheaaGreatDoor.Ob
end

section
set_option linter.unusedVariables false
set_option linter.unusedSimpArgs false
namespace Go.Proofs.YtnckaeehcldheaaGreatDoor.Ob
open Go.RowKit Go.Shelf YtnckaeehcldheaaGreatDoorW.PrintWords
def numV (k n g : Int) : Value := .agg #[.int .u8 k, .int .i64 n, .int .i64 g, .string ⟨#[]⟩, .slice none 0 0, .slice none 0 0]
def strV (k : Int) (s : ByteArray) : Value := .agg #[.int .u8 k, .int .i64 0, .int .i64 0, .string s, .slice none 0 0, .slice none 0 0]
theorem Num_ok (n : Int) (w : World) :
    Calls Tryz.prog 26 #[.int .i64 n] w fun e w' => e = .returned (numV 2 n 0) ∧ Below w.heap.size w w' := by
  go_enter Tryz.func26, Tryz.ntmps26
  go_wp2
  exact bodyPost_ret (v := numV 2 n 0) (by simp [results, Tryz.results26, go_sem, numV]) rfl ⟨rfl, (Below.refl _ _).alloc (Nat.le_refl _) _⟩
theorem Word_ok (s : ByteArray) (w : World) :
    Calls Tryz.prog 25 #[.string s] w fun e w' => e = .returned (strV 3 s) ∧ Below w.heap.size w w' := by
  go_enter Tryz.func25, Tryz.ntmps25
  go_wp2
  exact bodyPost_ret (v := strV 3 s) (by simp [results, Tryz.results25, go_sem, strV]) rfl ⟨rfl, (Below.refl _ _).alloc (Nat.le_refl _) _⟩
def signB (b : UInt8) : Bool := memB [43, 45] b
structure RefR where
  kind : Int
  num : Int
  gen : Int
  at_ : Nat
def refS (p : List UInt8) (at_ : Nat) (word : List UInt8) (n : Int) : RefR :=
  let s1 := skipAt p at_
  let gen := wordL (p.drop s1)
  let s2 := skipAt p (s1 + gen.length)
  let last := wordL (p.drop s2)
  if (numL gen).2 = 0 ∧ last = [82] ∧ (word ++ gen).any signB = false then ⟨7, n, min (numL gen).1 2147483647, s2 + last.length⟩ else ⟨2, n, 0, at_⟩
theorem mem_trimLeft {l cs : List UInt8} {b : UInt8} (hb : b ∈ l) : cs.contains b = true ∨ b ∈ Lib.trimLeftS l cs := by
  induction l with
  | nil => cases hb
  | cons c l ih =>
    unfold Lib.trimLeftS at *
    rw [List.dropWhile_cons]
    by_cases h : cs.contains c = true
    · rw [if_pos h]
      rcases List.mem_cons.1 hb with rfl | hb
      · exact .inl h
      · exact ih hb
    · rw [if_neg h]
      exact .inr hb
theorem all_trim {l cs : List UInt8} (h : Lib.trimS l cs = []) : ∀ b ∈ l, cs.contains b = true := by
  intro b hb
  unfold Lib.trimS at h
  have h1 : ∀ b ∈ Lib.trimRightS l cs, cs.contains b = true := by
    intro b hb
    rcases mem_trimLeft (cs := cs) hb with h' | h'
    · exact h'
    · rw [h] at h'; cases h'
  have h2 : b ∈ Lib.trimRightS l cs ∨ cs.contains b = true := by
    unfold Lib.trimRightS
    have := mem_trimLeft (cs := cs) (List.mem_reverse.2 hb)
    rcases this with h' | h'
    · exact .inr h'
    · exact .inl (List.mem_reverse.2 h')
  rcases h2 with h2 | h2
  · exact h1 b h2
  · exact h2
theorem numL_shape {s : List UInt8} (h : (numL s).2 = 0) : (∃ v, Lib.parseIntB 64 s = .ok v ∧ (numL s).1 = v) ∧ (∀ b ∈ Lib.trimLeftS s [43, 45], ten.contains b = true) ∧ s.length - (Lib.trimLeftS s [43, 45]).length ≤ 1 := by
  unfold numL at *
  dsimp only at *
  split at h
  · simp at h
  · rename_i h1
    split at h
    · simp at h
    · rename_i h2
      rw [if_neg h1, if_neg h2]
      cases hp : Lib.parseIntB 64 s with
      | ok v =>
        rw [hp] at h
        simp only [numP] at h ⊢
        by_cases ht : (Lib.trimS (Lib.trimLeftS s [43, 45]) ten).isEmpty = true
        · rw [if_pos ht]
          exact ⟨⟨v, rfl, rfl⟩, all_trim (List.isEmpty_iff.1 ht), by omega⟩
        · rw [if_neg ht] at h; simp at h
      | _ => rw [hp] at h; simp [numP] at h
theorem numL_ascii {s : List UInt8} (h : (numL s).2 = 0) : ∀ b ∈ s, b.toNat < 128 := by
  intro b hb
  obtain ⟨_, h2, _⟩ := numL_shape h
  rcases mem_trimLeft (cs := [43, 45]) hb with h' | h'
  · simp at h'
    rcases h' with rfl | rfl <;> decide
  · have := h2 b h'
    simp [ten] at this
    rcases this with rfl | rfl | rfl | rfl | rfl | rfl | rfl | rfl | rfl | rfl <;> decide
end Go.Proofs.YtnckaeehcldheaaGreatDoor.Ob
end

section
set_option linter.unusedVariables false
set_option linter.unusedSimpArgs false
namespace Go.Proofs.YtnckaeehcldheaaGreatDoor.Ob
open Go.RowKit Go.Shelf YtnckaeehcldheaaGreatDoorW.PrintWords
theorem any_contains (l cs : List UInt8) : decide (0 ≤ Lib.indexAny l cs) = l.any (cs.contains ·) := by
  induction l with
  | nil => rfl
  | cons b l ih =>
    have hg := Lib.indexAny_ge cs l
    rw [List.any_cons, ← ih, Lib.indexAny]
    cases cs.contains b
    · simp only [Bool.false_eq_true, if_false, Bool.false_or]
      split
      · rename_i h; simp at h; rw [h]
      · congr 1; (try (apply propext; rename_i h; simp at h; omega))
    · simp
theorem any_ok (s : ByteArray) (r : Bool) (w : World) (hs : s.size < 4294967281) (ha : ∀ b ∈ s.data.toList, b.toNat < 128) (hr : s.data.toList.any signB = r) :
    Calls Tryz.prog 141 #[.string s, .string ⟨#[43, 45]⟩] w fun e w' => e = .returned (.bool r) ∧ Below w.heap.size w w' := by
  refine (Tryz.strings_ContainsAny_laid s ⟨#[43, 45]⟩ w hs (by decide) (fun j b hb => ha b (List.mem_of_getElem? hb)) (ascii_of_all (by decide))).mono ?_
  rintro e w' ⟨rfl, hb⟩
  refine ⟨?_, hb⟩
  rw [← hr, Lib.containsAny, any_contains]
  rfl
set_option maxRecDepth 100000 in
set_option maxHeartbeats 4000000 in
theorem ref_ok (g : Nat) (A : Option Addr) (c : Nat) (p : List UInt8) (at_ : Nat) (wd : ByteArray) (n : Int) (R : RefR) (w : World) (G : Gl w) (h : Rdr w g A c p at_) (hpl : p.length < 2147483640) (hwd : ∀ b ∈ wd.data.toList, b.toNat < 128) (hwl : wd.size ≤ p.length) (hR : refS p at_ wd.data.toList n = R) :
    Calls Tryz.prog 118 #[.pointer (some ⟨g, 0, none⟩), .string wd, .int .i64 n] w fun e w' => e = .returned (numV R.kind R.num R.gen) ∧ Rdr w' g A c p R.at_ ∧ Fr g w w' := by
  have hle := h.le
  obtain ⟨s1, hs1⟩ : ∃ s1, skipAt p at_ = s1 := ⟨_, rfl⟩
  have hs1l : s1 ≤ p.length := by rw [← hs1]; exact skipAt_le hle
  obtain ⟨gen, hgen⟩ : ∃ gen, gen = ofL (wordL (p.drop s1)) := ⟨_, rfl⟩
  obtain ⟨a1, ha1⟩ : ∃ a1, s1 + (wordL (p.drop s1)).length = a1 := ⟨_, rfl⟩
  have ha1l : a1 ≤ p.length := by have := wordL_le (p.drop s1); rw [List.length_drop] at this; omega
  obtain ⟨s2, hs2⟩ : ∃ s2, skipAt p a1 = s2 := ⟨_, rfl⟩
  have hs2l : s2 ≤ p.length := by rw [← hs2]; exact skipAt_le ha1l
  obtain ⟨last, hlast⟩ : ∃ last, last = ofL (wordL (p.drop s2)) := ⟨_, rfl⟩
  obtain ⟨a2, ha2⟩ : ∃ a2, s2 + (wordL (p.drop s2)).length = a2 := ⟨_, rfl⟩
  have ha2l : a2 ≤ p.length := by have := wordL_le (p.drop s2); rw [List.length_drop] at this; omega
  have hgl : gen.size ≤ p.length := by rw [hgen, ofL_size]; have := wordL_le (p.drop s1); rw [List.length_drop] at this; omega
  have hR' : R = if (numL gen.data.toList).2 = 0 ∧ last.data.toList = [82] ∧ (wd.data.toList ++ gen.data.toList).any signB = false then ⟨7, n, min (numL gen.data.toList).1 2147483647, a2⟩ else ⟨2, n, 0, at_⟩ := by
    rw [← hR, refS]
    simp only [hs1, ha1, hs2, ha2, hgen, hlast, ofL_list]
  obtain ⟨w0, hw0⟩ : ∃ w0, w0 = w.alloc (.cells #[.int .u8 0, .int .i64 0, .int .i64 0, .string ⟨#[]⟩, .slice none 0 0, .slice none 0 0] 28) := ⟨_, rfl⟩
  have hA : Below w.heap.size w w0 := by rw [hw0]; exact (Below.refl _ _).alloc (Nat.le_refl _) _
  have HL := Aside0.mk (show w0.heap[w.heap.size]? = some (.cells #[.int .u8 0, .int .i64 0, .int .i64 0, .string ⟨#[]⟩, .slice none 0 0, .slice none 0 0] 28 (0, 0)) by rw [hw0]; exact heap_alloc_new w _)
  have hgw : g < w.heap.size := h.lt
  have H := Aside0.mk h
  have R0 := Aside0.mk (h.below hA)
  have F0 := Aside0.mk (Fr.of_below g hA)
  have G0 := Aside0.mk (G.below hA)
  have HS1 := Aside0.mk (fun k => Skip_q A c p at_ s1 (w0.drewN k) (R0.out.rb.drewN k) hle hs1)
  have HT1 := Aside0.mk (fun k => token_q A c p s1 a1 gen (w0.drewN k) (R0.out.rb.drewN k) h.cap hs1l hgen ha1)
  have HS2 := Aside0.mk (fun (W : World) (hr : RB W A p) => Skip_q A c p a1 s2 W hr ha1l hs2)
  have HT2 := Aside0.mk (fun (W : World) (hr : RB W A p) => token_q A c p s2 a2 last W hr h.cap hs2l hlast ha2)
  have HR := Aside0.mk hR'
  have HW := Aside0.mk hwd
  have c0 := R0.out.c0
  have c1 := R0.out.c1
  clear hs1 hgen ha1 hs2 hlast ha2 hR hR' hA h G hwd
  go_enter Tryz.func118, Tryz.ntmps118
  go_wp2_with fail
  rw [← hw0]
  clear hw0
  go_quiet ((first | (go_at_call 66; exact Calls.quiet_of_same (HS1.out _)) | (go_at_call 115; exact Calls.quiet_of_same (HT1.out _))))
  obtain ⟨W1, hW1⟩ : ∃ W, W = w0.drewN nq := ⟨_, rfl⟩
  rw [← hW1]
  have R1 := Aside0.mk (show Rdr W1 g A c p at_ from hW1 ▸ R0.out.drewN nq)
  have F1 := Aside0.mk (show Fr g w W1 from hW1 ▸ F0.out.drewN nq)
  have L1 := Aside0.mk (show W1.heap[w.heap.size]? = some (.cells #[.int .u8 0, .int .i64 0, .int .i64 0, .string ⟨#[]⟩, .slice none 0 0, .slice none 0 0] 28 (0, 0)) by rw [hW1]; exact HL.out)
  have G1 := Aside0.mk (G0.out.same (w' := W1) (by rw [hW1]; exact Nat.le_refl _) (fun k _ => by rw [hW1]; rfl))
  clear hW1 c0 c1 R0 F0 HL G0 HS1 HT1
  have c0 := R1.out.c0
  have c1 := R1.out.c1
  go_wp2_with fail
  go_quiet ((first | (go_at_call 66; exact Calls.quiet_of_same (HS2.out _ (R1.out.rb.drewN _))) | (go_at_call 115; exact Calls.quiet_of_same (HT2.out _ (R1.out.rb.drewN _)))))
  obtain ⟨W2, hW2⟩ : ∃ W, W = W1.drewN nq := ⟨_, rfl⟩
  rw [← hW2]
  have R2 := Aside0.mk (show Rdr W2 g A c p at_ from hW2 ▸ R1.out.drewN nq)
  have F2 := Aside0.mk (show Fr g w W2 from hW2 ▸ F1.out.drewN nq)
  have L2 := Aside0.mk (show W2.heap[w.heap.size]? = some (.cells #[.int .u8 0, .int .i64 0, .int .i64 0, .string ⟨#[]⟩, .slice none 0 0, .slice none 0 0] 28 (0, 0)) by rw [hW2]; exact L1.out)
  have G2 := Aside0.mk (G1.out.same (w' := W2) (by rw [hW2]; exact Nat.le_refl _) (fun k _ => by rw [hW2]; rfl))
  clear hW2 c0 c1 R1 F1 L1 G1 HS2 HT2
  obtain ⟨gv, hgv⟩ : ∃ v, (numL gen.data.toList).1 = v := ⟨_, rfl⟩
  obtain ⟨ge, hge⟩ : ∃ v, (numL gen.data.toList).2 = v := ⟨_, rfl⟩
  have HN := Aside0.mk (number_ok gen W2 G2.out (by omega))
  rw [hgv, hge] at HN HR
  have HGE := Aside0.mk hge
  clear hgv hge
  by_cases k1 : ge = 0
  · have e1 : (ge == 0) = true := by simp [k1]
    have e1' : (ge != 0) = false := by simp [k1]
    have HA := Aside0.mk (numL_ascii (HGE.out.trans k1))
    have K1 := Aside0.mk k1
    clear k1
    by_cases k2 : last.data.toList = [82]
    · have e2 : (last.toList == [82]) = true := by rw [Lib.toList_data, k2]; rfl
      have e2' : (last.toList != [82]) = false := by rw [Lib.toList_data, k2]; rfl
      have K2 := Aside0.mk k2
      clear k2
      obtain ⟨q, hq⟩ : ∃ q, (wd.data.toList ++ gen.data.toList).any signB = q := ⟨_, rfl⟩
      have HQ := Aside0.mk hq
      have happ : (wd ++ gen).data.toList = wd.data.toList ++ gen.data.toList := by simp
      have HY := Aside0.mk (fun W => any_ok (wd ++ gen) q W (by rw [ByteArray.size_append]; omega) (fun b hb => by rw [happ] at hb; rcases List.mem_append.1 hb with hb | hb; exact HW.out b hb; exact HA.out b hb) (by rw [happ]; exact hq))
      clear hq happ
      cases q with
      | true =>
        have HRR := Aside0.mk (show R = ⟨2, n, 0, at_⟩ by rw [HR.out, if_neg (by rw [HQ.out]; simp)])
        go_wp2_with (first | (go_at_call 117; refine HN.out.mono ?_; rintro e w3 ⟨rfl, hb3⟩; have R3 := Aside0.mk (R2.out.below hb3); have F3 := Aside0.mk (F2.out.trans (Fr.of_below g hb3)); have L3 := Aside0.mk (blk_below hb3 L2.out); have c1 := R3.out.c1; have f1 := R3.out.f1; obtain ⟨⟨z0, z1, z2, z3, z4, z5⟩, y0, y1, y2, y3, y4, y5⟩ := six_c L3.out) | (go_at_call 141; refine (HY.out _).mono ?_; rintro e w4 ⟨rfl, hb4⟩; have R4 := Aside0.mk (R3.out.below hb4); have F4 := Aside0.mk (F3.out.trans (Fr.of_below g hb4)); have L4 := Aside0.mk (blk_below hb4 L3.out); have c2 := R4.out.c1; have f2 := R4.out.f1; obtain ⟨⟨x0, x1, x2, x3, x4, x5⟩, t0, t1, t2, t3, t4, t5⟩ := six_c L4.out) | (go_at_call 26; refine (Num_ok n _).mono ?_; rintro e w5 ⟨rfl, hb5⟩; unfold numV; have R5 := Aside0.mk (R4.out.below hb5); have F5 := Aside0.mk (F4.out.trans (Fr.of_below g hb5)); have L5 := Aside0.mk (blk_below hb5 L4.out); obtain ⟨⟨u0, u1, u2, u3, u4, u5⟩, v0, v1, v2, v3, v4, v5⟩ := six_c L5.out))
        refine ret_put6 (v := numV 2 n 0) L5.out (fun W2 z0 z1 z2 z3 z4 z5 => by simp [results, Tryz.results118, go_sem, numV, z0, z1, z2, z3, z4, z5]) rfl ?_
        rw [HRR.out]
        exact ⟨rfl, put6_rdr R5.out (by omega) (H.out.ne_new H.out.lt) _ _ _ _ _ _, put6_fr F5.out (Nat.le_refl _) _ _ _ _ _ _⟩
      | false =>
        have HRR := Aside0.mk (show R = ⟨7, n, min gv 2147483647, a2⟩ by rw [HR.out, if_pos ⟨K1.out, K2.out, HQ.out⟩])
        go_wp2_with (first | (go_at_call 117; refine HN.out.mono ?_; rintro e w3 ⟨rfl, hb3⟩; have R3 := Aside0.mk (R2.out.below hb3); have F3 := Aside0.mk (F2.out.trans (Fr.of_below g hb3)); have L3 := Aside0.mk (blk_below hb3 L2.out); have c1 := R3.out.c1; have f1 := R3.out.f1; obtain ⟨⟨z0, z1, z2, z3, z4, z5⟩, y0, y1, y2, y3, y4, y5⟩ := six_c L3.out) | (go_at_call 141; refine (HY.out _).mono ?_; rintro e w4 ⟨rfl, hb4⟩; have R4 := Aside0.mk (R3.out.below hb4); have F4 := Aside0.mk (F3.out.trans (Fr.of_below g hb4)); have L4 := Aside0.mk (blk_below hb4 L3.out); have c2 := R4.out.c1; have f2 := R4.out.f1; obtain ⟨⟨x0, x1, x2, x3, x4, x5⟩, t0, t1, t2, t3, t4, t5⟩ := six_c L4.out))
        have R5 := Aside0.mk (R4.out.set a2 ha2l)
        have F5 := Aside0.mk (F4.out.set 1 (.int .i64 (a2 : Int)))
        have L5 := Aside0.mk ((Below.heap_setCell w4 ⟨g, 1, none⟩ (.int .i64 (a2 : Int)) w.heap.size (by simp; omega)).trans L4.out)
        refine ret_put6 (v := numV 7 n (min gv 2147483647)) L5.out (fun W2 z0 z1 z2 z3 z4 z5 => by simp [results, Tryz.results118, go_sem, numV, z0, z1, z2, z3, z4, z5]) rfl ?_
        rw [HRR.out]
        exact ⟨rfl, put6_rdr R5.out (by omega) (H.out.ne_new H.out.lt) _ _ _ _ _ _, put6_fr F5.out (Nat.le_refl _) _ _ _ _ _ _⟩
    · have e2 : (last.toList == [82]) = false := by rw [Lib.toList_data]; simp [k2]
      have e2' : (last.toList != [82]) = true := by rw [Lib.toList_data]; simp [k2]
      have HRR := Aside0.mk (show R = ⟨2, n, 0, at_⟩ by rw [HR.out, if_neg (fun h => k2 h.2.1)])
      clear k2
      go_wp2_with (first | (go_at_call 117; refine HN.out.mono ?_; rintro e w3 ⟨rfl, hb3⟩; have R3 := Aside0.mk (R2.out.below hb3); have F3 := Aside0.mk (F2.out.trans (Fr.of_below g hb3)); have L3 := Aside0.mk (blk_below hb3 L2.out); have c1 := R3.out.c1; have f1 := R3.out.f1; obtain ⟨⟨z0, z1, z2, z3, z4, z5⟩, y0, y1, y2, y3, y4, y5⟩ := six_c L3.out) | (go_at_call 26; refine (Num_ok n _).mono ?_; rintro e w5 ⟨rfl, hb5⟩; unfold numV; have R5 := Aside0.mk (R3.out.below hb5); have F5 := Aside0.mk (F3.out.trans (Fr.of_below g hb5)); have L5 := Aside0.mk (blk_below hb5 L3.out); obtain ⟨⟨u0, u1, u2, u3, u4, u5⟩, v0, v1, v2, v3, v4, v5⟩ := six_c L5.out))
      refine ret_put6 (v := numV 2 n 0) L5.out (fun W2 z0 z1 z2 z3 z4 z5 => by simp [results, Tryz.results118, go_sem, numV, z0, z1, z2, z3, z4, z5]) rfl ?_
      rw [HRR.out]
      exact ⟨rfl, put6_rdr R5.out (by omega) (H.out.ne_new H.out.lt) _ _ _ _ _ _, put6_fr F5.out (Nat.le_refl _) _ _ _ _ _ _⟩
  · have e1 : (ge == 0) = false := by simp [k1]
    have e1' : (ge != 0) = true := by simp [k1]
    have HRR := Aside0.mk (show R = ⟨2, n, 0, at_⟩ by rw [HR.out, if_neg (fun h => k1 h.1)])
    clear k1
    go_wp2_with (first | (go_at_call 117; refine HN.out.mono ?_; rintro e w3 ⟨rfl, hb3⟩; have R3 := Aside0.mk (R2.out.below hb3); have F3 := Aside0.mk (F2.out.trans (Fr.of_below g hb3)); have L3 := Aside0.mk (blk_below hb3 L2.out); have c1 := R3.out.c1; have f1 := R3.out.f1; obtain ⟨⟨z0, z1, z2, z3, z4, z5⟩, y0, y1, y2, y3, y4, y5⟩ := six_c L3.out) | (go_at_call 26; refine (Num_ok n _).mono ?_; rintro e w5 ⟨rfl, hb5⟩; unfold numV; have R5 := Aside0.mk (R3.out.below hb5); have F5 := Aside0.mk (F3.out.trans (Fr.of_below g hb5)); have L5 := Aside0.mk (blk_below hb5 L3.out); obtain ⟨⟨u0, u1, u2, u3, u4, u5⟩, v0, v1, v2, v3, v4, v5⟩ := six_c L5.out))
    refine ret_put6 (v := numV 2 n 0) L5.out (fun W2 z0 z1 z2 z3 z4 z5 => by simp [results, Tryz.results118, go_sem, numV, z0, z1, z2, z3, z4, z5]) rfl ?_
    rw [HRR.out]
    exact ⟨rfl, put6_rdr R5.out (by omega) (H.out.ne_new H.out.lt) _ _ _ _ _ _, put6_fr F5.out (Nat.le_refl _) _ _ _ _ _ _⟩
end Go.Proofs.YtnckaeehcldheaaGreatDoor.Ob
end

section
set_option linter.unusedVariables false
set_option linter.unusedSimpArgs false
namespace Go.Proofs.YtnckaeehcldheaaGreatDoor.Ob
open Go.RowKit Go.Shelf YtnckaeehcldheaaGreatDoorW.PrintWords
theorem setCell_size (w : World) (p : Addr) (u : Value) : (w.setCell p u).heap.size = w.heap.size := by simp [World.setCell]
theorem ret_put6_alloc {P : Program} {fn : Func} {R : Ending → World → Prop} {act : Act} {W : World} {B : Nat} {t : TypeId} {a0 a1 a2 a3 a4 a5 b0 b1 b2 b3 b4 b5 v : Value} {o : Obj} (h : W.heap[B]? = some (.cells #[a0, a1, a2, a3, a4, a5] t (0, 0)))
    (hres : ∀ W2 : World, W2.cell? ⟨B, 0, none⟩ = some b0 → W2.cell? ⟨B, 1, none⟩ = some b1 → W2.cell? ⟨B, 2, none⟩ = some b2 → W2.cell? ⟨B, 3, none⟩ = some b3 → W2.cell? ⟨B, 4, none⟩ = some b4 → W2.cell? ⟨B, 5, none⟩ = some b5 → (results fn act.tmps).run P W2 = .ok v W2)
    (hd : act.defers = []) (hR : R (.returned v) ((put6 W B b0 b1 b2 b3 b4 b5).alloc o)) : bodyPost P fn R Exit.ret act ((put6 W B b0 b1 b2 b3 b4 b5).alloc o) := by
  obtain ⟨⟨z0, z1, z2, z3, z4, z5⟩, _⟩ := six_c (blk_below ((Below.refl _ _).alloc (Nat.le_refl _) o) (put6_blk h b0 b1 b2 b3 b4 b5))
  exact bodyPost_ret (hres _ z0 z1 z2 z3 z4 z5) hd hR
def nullL : List UInt8 := [110, 117, 108, 108]
def trueL : List UInt8 := [116, 114, 117, 101]
def falseL : List UInt8 := [102, 97, 108, 115, 101]
def wordS (p : List UInt8) (at_ : Nat) : Int × RefR :=
  let s := wordL (p.drop at_)
  let e := at_ + s.length
  if s = nullL then (0, ⟨0, 0, 0, e⟩)
  else if s = trueL then (0, ⟨1, 1, 0, e⟩)
  else if s = falseL then (0, ⟨1, 0, 0, e⟩)
  else if (numL s).2 = 0 then (0, refS p e s (numL s).1)
  else ((numL s).2, ⟨0, 0, 0, at_⟩)
set_option maxRecDepth 100000 in
set_option maxHeartbeats 4000000 in
theorem word_ok (g : Nat) (A : Option Addr) (c : Nat) (p : List UInt8) (at_ : Nat) (er : Int) (R : RefR) (w : World) (G : Gl w) (hg9 : 9 ≤ g) (h : Rdr w g A c p at_) (hpl : p.length < 2147483640) (hR : wordS p at_ = (er, R)) :
    Calls Tryz.prog 84 #[.pointer (some ⟨g, 0, none⟩)] w fun e w' => e = .returned (.tuple #[numV R.kind R.num R.gen, .int .i64 er]) ∧ Rdr w' g A c p R.at_ ∧ Fr g w w' := by
  have hle := h.le
  obtain ⟨s, hs⟩ : ∃ s, s = ofL (wordL (p.drop at_)) := ⟨_, rfl⟩
  obtain ⟨a1, ha1⟩ : ∃ a1, at_ + (wordL (p.drop at_)).length = a1 := ⟨_, rfl⟩
  have ha1l : a1 ≤ p.length := by have := wordL_le (p.drop at_); rw [List.length_drop] at this; omega
  have hsl : s.size ≤ p.length := by rw [hs, ofL_size]; have := wordL_le (p.drop at_); rw [List.length_drop] at this; omega
  have hR' : (er, R) = if s.data.toList = nullL then (0, ⟨0, 0, 0, a1⟩) else if s.data.toList = trueL then (0, ⟨1, 1, 0, a1⟩) else if s.data.toList = falseL then (0, ⟨1, 0, 0, a1⟩)
      else if (numL s.data.toList).2 = 0 then (0, refS p a1 s.data.toList (numL s.data.toList).1) else ((numL s.data.toList).2, ⟨0, 0, 0, at_⟩) := by
    rw [← hR, wordS]
    simp only [ha1, hs, ofL_list]
  obtain ⟨w0, hw0⟩ : ∃ w0, w0 = w.alloc (.cells #[.int .u8 0, .int .i64 0, .int .i64 0, .string ⟨#[]⟩, .slice none 0 0, .slice none 0 0] 28) := ⟨_, rfl⟩
  have hA : Below w.heap.size w w0 := by rw [hw0]; exact (Below.refl _ _).alloc (Nat.le_refl _) _
  have HL := Aside0.mk (show w0.heap[w.heap.size]? = some (.cells #[.int .u8 0, .int .i64 0, .int .i64 0, .string ⟨#[]⟩, .slice none 0 0, .slice none 0 0] 28 (0, 0)) by rw [hw0]; exact heap_alloc_new w _)
  have hgw : g < w.heap.size := h.lt
  have hgne : w.heap.size ≠ g := by omega
  have H := Aside0.mk h
  have R0 := Aside0.mk (h.below hA)
  have F0 := Aside0.mk (Fr.of_below g hA)
  have G0 := Aside0.mk (G.below hA)
  have HT1 := Aside0.mk (fun k => token_q A c p at_ a1 s (w0.drewN k) (R0.out.rb.drewN k) h.cap hle hs ha1)
  have HR := Aside0.mk hR'
  have c0 := R0.out.c0
  have c1 := R0.out.c1
  clear hs ha1 hR hR' hA h G
  go_enter Tryz.func84, Tryz.ntmps84
  go_wp2_with fail
  rw [← hw0]
  clear hw0
  go_quiet ((go_at_call 115; exact Calls.quiet_of_same (HT1.out _)))
  obtain ⟨W1, hW1⟩ : ∃ W, W = w0.drewN nq := ⟨_, rfl⟩
  rw [← hW1]
  have R1 := Aside0.mk (show Rdr W1 g A c p at_ from hW1 ▸ R0.out.drewN nq)
  have F1 := Aside0.mk (show Fr g w W1 from hW1 ▸ F0.out.drewN nq)
  have L1 := Aside0.mk (show W1.heap[w.heap.size]? = some (.cells #[.int .u8 0, .int .i64 0, .int .i64 0, .string ⟨#[]⟩, .slice none 0 0, .slice none 0 0] 28 (0, 0)) by rw [hW1]; exact HL.out)
  have G1 := Aside0.mk (G0.out.same (w' := W1) (by rw [hW1]; exact Nat.le_refl _) (fun k _ => by rw [hW1]; rfl))
  clear hW1 c0 c1 R0 F0 HL G0 HT1
  have c1 := R1.out.c1
  have f1 := R1.out.f1
  obtain ⟨⟨z0, z1, z2, z3, z4, z5⟩, y0, y1, y2, y3, y4, y5⟩ := six_c L1.out
  have hWl : w.heap.size < W1.heap.size := (Array.getElem?_eq_some_iff.1 L1.out).1
  have R2 := Aside0.mk (R1.out.set a1 ha1l)
  have F2 := Aside0.mk (F1.out.set 1 (.int .i64 (a1 : Int)))
  have L2 := Aside0.mk ((Below.heap_setCell W1 ⟨g, 1, none⟩ (.int .i64 (a1 : Int)) w.heap.size (by simp; omega)).trans L1.out)
  by_cases k1 : s.data.toList = nullL
  · have e1 : (s.toList == [110, 117, 108, 108]) = true := by rw [Lib.toList_data, k1]; rfl
    have HRR := Aside0.mk (show (er, R) = (0, ⟨0, 0, 0, a1⟩) by rw [HR.out, if_pos k1])
    clear k1
    obtain ⟨rfl, rfl⟩ := Prod.mk.inj HRR.out
    go_wp2_with fail
    refine ret_put6 (v := .tuple #[numV 0 0 0, .int .i64 0]) L2.out (fun W2 z0 z1 z2 z3 z4 z5 => by simp [results, Tryz.results84, go_sem, numV, z0, z1, z2, z3, z4, z5]) rfl ?_
    exact ⟨rfl, put6_rdr R2.out (by omega) (H.out.ne_new H.out.lt) _ _ _ _ _ _, put6_fr F2.out (Nat.le_refl _) _ _ _ _ _ _⟩
  · have e1 : (s.toList == [110, 117, 108, 108]) = false := by rw [Lib.toList_data]; exact beq_eq_false_iff_ne.mpr k1
    by_cases k2 : s.data.toList = trueL
    · have e2 : (s.toList == [116, 114, 117, 101]) = true := by rw [Lib.toList_data, k2]; rfl
      have HRR := Aside0.mk (show (er, R) = (0, ⟨1, 1, 0, a1⟩) by rw [HR.out, if_neg k1, if_pos k2])
      clear k1 k2
      obtain ⟨rfl, rfl⟩ := Prod.mk.inj HRR.out
      go_wp2_with fail
      refine ret_put6_alloc (v := .tuple #[numV 1 1 0, .int .i64 0]) L2.out (fun W2 z0 z1 z2 z3 z4 z5 => by simp [results, Tryz.results84, go_sem, numV, z0, z1, z2, z3, z4, z5]) rfl ?_
      have R4 := put6_rdr R2.out (b := w.heap.size) (by omega) (H.out.ne_new H.out.lt) (.int .u8 1) (.int .i64 1) (.int .i64 0) (.string ⟨#[]⟩) (.slice none 0 0) (.slice none 0 0)
      have F4 := put6_fr F2.out (Nat.le_refl _) (.int .u8 1) (.int .i64 1) (.int .i64 0) (.string ⟨#[]⟩) (.slice none 0 0) (.slice none 0 0)
      exact ⟨rfl, R4.below ((Below.refl _ _).alloc (Nat.le_refl _) _), F4.trans (Fr.of_below g ((Below.refl _ _).alloc (Nat.le_refl _) _))⟩
    · have e2 : (s.toList == [116, 114, 117, 101]) = false := by rw [Lib.toList_data]; exact beq_eq_false_iff_ne.mpr k2
      by_cases k3 : s.data.toList = falseL
      · have e3 : (s.toList == [102, 97, 108, 115, 101]) = true := by rw [Lib.toList_data, k3]; rfl
        have HRR := Aside0.mk (show (er, R) = (0, ⟨1, 0, 0, a1⟩) by rw [HR.out, if_neg k1, if_neg k2, if_pos k3])
        clear k1 k2 k3
        obtain ⟨rfl, rfl⟩ := Prod.mk.inj HRR.out
        go_wp2_with fail
        refine ret_put6_alloc (v := .tuple #[numV 1 0 0, .int .i64 0]) L2.out (fun W2 z0 z1 z2 z3 z4 z5 => by simp [results, Tryz.results84, go_sem, numV, z0, z1, z2, z3, z4, z5]) rfl ?_
        have R4 := put6_rdr R2.out (b := w.heap.size) (by omega) (H.out.ne_new H.out.lt) (.int .u8 1) (.int .i64 0) (.int .i64 0) (.string ⟨#[]⟩) (.slice none 0 0) (.slice none 0 0)
        have F4 := put6_fr F2.out (Nat.le_refl _) (.int .u8 1) (.int .i64 0) (.int .i64 0) (.string ⟨#[]⟩) (.slice none 0 0) (.slice none 0 0)
        exact ⟨rfl, R4.below ((Below.refl _ _).alloc (Nat.le_refl _) _), F4.trans (Fr.of_below g ((Below.refl _ _).alloc (Nat.le_refl _) _))⟩
      · have e3 : (s.toList == [102, 97, 108, 115, 101]) = false := by rw [Lib.toList_data]; exact beq_eq_false_iff_ne.mpr k3
        obtain ⟨nv, hnv⟩ : ∃ v, (numL s.data.toList).1 = v := ⟨_, rfl⟩
        obtain ⟨ne, hne⟩ : ∃ v, (numL s.data.toList).2 = v := ⟨_, rfl⟩
        have HN := Aside0.mk (number_ok s W1 G1.out (by omega))
        have hrr := HR.out
        rw [if_neg k1, if_neg k2, if_neg k3, hnv, hne] at hrr
        rw [hnv, hne] at HN
        have HNE := Aside0.mk hne
        clear k1 k2 k3 hnv hne R2 F2 L2
        by_cases k4 : ne = 0
        · have e4 : (ne == 0) = true := by simp [k4]
          have e4' : (ne != 0) = false := by simp [k4]
          rw [if_pos k4] at hrr
          obtain ⟨rfl, hr⟩ := Prod.mk.inj hrr
          have HA := Aside0.mk (numL_ascii (HNE.out.trans k4))
          have HRf := Aside0.mk (fun W hG hR => ref_ok g A c p a1 s nv R W hG hR hpl HA.out hsl hr.symm)
          clear k4 hrr hr
          go_wp2_with (first | (go_at_call 117; refine HN.out.mono ?_; rintro e w3 ⟨rfl, hb3⟩; have R3 := Aside0.mk (R1.out.below hb3); have F3 := Aside0.mk (F1.out.trans (Fr.of_below g hb3)); have L3 := Aside0.mk (blk_below hb3 L1.out); have G3 := Aside0.mk (G1.out.below hb3); have c1 := R3.out.c1; have f1 := R3.out.f1) | (go_at_call 118; refine (HRf.out _ (G3.out.fr (g := g) hg9 ((Fr.refl g _).set 1 _)) (R3.out.set a1 ha1l)).mono ?_; rintro e w5 ⟨rfl, hR5, hF5⟩; unfold numV; have R5 := Aside0.mk hR5; have F5 := Aside0.mk ((F3.out.set 1 (.int .i64 (a1 : Int))).trans hF5); have L5 := Aside0.mk ((hF5.block _ (by rw [setCell_size]; exact (Array.getElem?_eq_some_iff.1 L3.out).1) hgne).trans ((Below.heap_setCell w3 ⟨g, 1, none⟩ (.int .i64 (a1 : Int)) w.heap.size hgne).trans L3.out)); obtain ⟨⟨z0, z1, z2, z3, z4, z5⟩, y0, y1, y2, y3, y4, y5⟩ := six_c L5.out; clear hR5 hF5))
          refine ret_put6 (v := .tuple #[numV R.kind R.num R.gen, .int .i64 0]) L5.out (fun W2 z0 z1 z2 z3 z4 z5 => by simp [results, Tryz.results84, go_sem, numV, z0, z1, z2, z3, z4, z5]) rfl ?_
          exact ⟨rfl, put6_rdr R5.out (by omega) (H.out.ne_new H.out.lt) _ _ _ _ _ _, put6_fr F5.out (Nat.le_refl _) _ _ _ _ _ _⟩
        · have e4 : (ne == 0) = false := by simp [k4]
          have e4' : (ne != 0) = true := by simp [k4]
          rw [if_neg k4] at hrr
          obtain ⟨rfl, rfl⟩ := Prod.mk.inj hrr
          clear k4 hrr
          go_wp2_with (first | (go_at_call 117; refine HN.out.mono ?_; rintro e w3 ⟨rfl, hb3⟩; have R3 := Aside0.mk (R1.out.below hb3); have F3 := Aside0.mk (F1.out.trans (Fr.of_below g hb3)); have L3 := Aside0.mk (blk_below hb3 L1.out); obtain ⟨⟨z0, z1, z2, z3, z4, z5⟩, y0, y1, y2, y3, y4, y5⟩ := six_c L3.out))
          refine ret_put6 (v := .tuple #[numV 0 0 0, .int .i64 er]) L3.out (fun W2 z0 z1 z2 z3 z4 z5 => by simp [results, Tryz.results84, go_sem, numV, z0, z1, z2, z3, z4, z5]) rfl ?_
          exact ⟨rfl, put6_rdr R3.out (by omega) (H.out.ne_new H.out.lt) _ _ _ _ _ _, put6_fr F3.out (Nat.le_refl _) _ _ _ _ _ _⟩
end Go.Proofs.YtnckaeehcldheaaGreatDoor.Ob
end

section
set_option linter.unusedVariables false
set_option linter.unusedSimpArgs false
namespace Go.Proofs.YtnckaeehcldheaaGreatDoor.Ob
open Go.RowKit Go.Shelf YtnckaeehcldheaaGreatDoorW.PrintWords
abbrev PR := Except Int (S28 × Nat)
def ofRef (x : Int × RefR) : PR := if x.1 = 0 then .ok (⟨x.2.kind, x.2.num, x.2.gen, ⟨#[]⟩, [], []⟩, x.2.at_) else .error x.1
def ofText (x : Option (List UInt8 × Nat)) : PR := match x with
  | none => .error 2
  | some (t, q) => .ok (⟨4, 0, 0, ofL t, [], []⟩, q)
def ofName (p : List UInt8) (at_ : Nat) : PR :=
  let s := wordL (p.drop at_)
  if (nameS s).2 = 0 then .ok (⟨3, 0, 0, ofL (nameS s).1, [], []⟩, at_ + s.length) else .error (nameS s).2
def pre (p : List UInt8) (q : Nat) (s : List UInt8) : Bool := Lib.hasPrefix (p.drop q) s
mutual
def valueF (p : List UInt8) : Nat → Nat → Nat → Option PR
  | 0, _, _ => none
  | f + 1, at_, deep =>
    let q := skipAt p at_
    if 32 < deep then some (.error 2)
    else if pre p q [60, 60] = true then listF p f (q + 2) 6 [62, 62] deep [] []
    else if pre p q [91] = true then listF p f (q + 1) 5 [93] deep [] []
    else if pre p q [60] = true then some (ofText (textS p (q + 1)))
    else if pre p q [40] = true then some (.error 14)
    else if pre p q [47] = true then some (ofName p (q + 1))
    else some (ofRef (wordS p q))
def listF (p : List UInt8) : Nat → Nat → Int → List UInt8 → Nat → List S28 → List ByteArray → Option PR
  | 0, _, _, _, _, _, _ => none
  | f + 1, at_, kind, fin, deep, xs, ks =>
    let q := skipAt p at_
    if pre p q fin = true then some (.ok (⟨kind, 0, 0, ⟨#[]⟩, xs, ks⟩, q + fin.length))
    else if kind = 6 then
      if pre p q [47] = true then
        let s := wordL (p.drop (q + 1))
        if (nameS s).2 = 0 then
          match valueF p f (q + 1 + s.length) (deep + 1) with
          | none => none
          | some (.error e) => some (.error e)
          | some (.ok (x, q2)) => listF p f q2 kind fin deep (xs ++ [x]) (ks ++ [ofL (nameS s).1])
        else some (.error (nameS s).2)
      else some (.error 2)
    else match valueF p f q (deep + 1) with
      | none => none
      | some (.error e) => some (.error e)
      | some (.ok (x, q2)) => listF p f q2 kind fin deep (xs ++ [x]) ks
end
theorem skipL_skip (l : List UInt8) : ∀ b, skipL (l.drop (skipL l b)) false = 0 := by
  induction l with
  | nil => intro b; rfl
  | cons c l ih =>
    intro b
    cases b with
    | true =>
      have := ih (!newline c)
      rw [skipL, Nat.add_comm, List.drop_succ_cons]
      exact this
    | false =>
      rw [skipL]
      by_cases h1 : (c == 37) = true
      · rw [if_pos h1, Nat.add_comm, List.drop_succ_cons]; exact ih true
      · rw [if_neg h1]
        by_cases h2 : blank c = true
        · rw [if_pos h2, Nat.add_comm, List.drop_succ_cons]; exact ih false
        · rw [if_neg h2, List.drop_zero, skipL, if_neg h1, if_neg h2]
theorem skipAt_idem (p : List UInt8) (at_ : Nat) : skipAt p (skipAt p at_) = skipAt p at_ := by
  have := skipL_skip (p.drop at_) false
  rw [List.drop_drop] at this
  unfold skipAt
  omega
theorem take_no (g : Nat) (A : Option Addr) (c : Nat) (p : List UInt8) (at_ q : Nat) (s : ByteArray) (w : World) (h : Rdr w g A c p at_) (hs : s.size ≤ 4294967281) (hq : skipAt p at_ = q) (hr : pre p q s.data.toList = false) :
    Calls Tryz.prog 79 #[.pointer (some ⟨g, 0, none⟩), .string s] w fun e w' => e = .returned (.bool false) ∧ Rdr w' g A c p q ∧ Fr g w w' := by
  refine (take_ok g A c p at_ q false s w h hs hq hr).mono ?_
  rintro e w' ⟨h1, h2, h3⟩
  exact ⟨h1, by simpa using h2, h3⟩
theorem take_yes (g : Nat) (A : Option Addr) (c : Nat) (p : List UInt8) (at_ q n : Nat) (s : ByteArray) (w : World) (h : Rdr w g A c p at_) (hs : s.size ≤ 4294967281) (hq : skipAt p at_ = q) (hr : pre p q s.data.toList = true) (hn : q + s.size = n) :
    Calls Tryz.prog 79 #[.pointer (some ⟨g, 0, none⟩), .string s] w fun e w' => e = .returned (.bool true) ∧ Rdr w' g A c p n ∧ Fr g w w' := by
  refine (take_ok g A c p at_ q true s w h hs hq hr).mono ?_
  rintro e w' ⟨h1, h2, h3⟩
  exact ⟨h1, by rw [← hn]; simpa using h2, h3⟩
def ValPost (g : Nat) (A : Option Addr) (c : Nat) (p : List UInt8) (r : PR) (w : World) (e : Ending) (w' : World) : Prop :=
  Fr g w w' ∧ match r with
  | .error er => er ≠ 0 ∧ e = .returned (.tuple #[zeroV, .int .i64 er])
  | .ok (v, q) => ∃ v4 v5, e = .returned (.tuple #[.agg #[.int .u8 v.f0, .int .i64 v.f1, .int .i64 v.f2, .string v.f3, v4, v5], .int .i64 0]) ∧ k28.R 28 w' w.heap.size (fun k => k ≠ g) v4 v.f4 ∧ Kd.string.R 9 w' w.heap.size (fun k => k ≠ g) v5 v.f5 ∧ Rdr w' g A c p q
def VC (p : List UInt8) (f : Nat) : Prop := ∀ (at_ deep g : Nat) (A : Option Addr) (c : Nat) (r : PR) (w : World), valueF p f at_ deep = some r → Gl w → 9 ≤ g → Rdr w g A c p at_ → deep ≤ 33 →
  Calls Tryz.prog 49 #[.pointer (some ⟨g, 0, none⟩), .int .i64 (deep : Int)] w (ValPost g A c p r w)
def LC (p : List UInt8) (f : Nat) : Prop := ∀ (at_ deep g : Nat) (A : Option Addr) (c : Nat) (kind : Int) (fin : ByteArray) (r : PR) (w : World), listF p f at_ kind fin.data.toList deep [] [] = some r → Gl w → 9 ≤ g → Rdr w g A c p at_ → deep ≤ 32 → (kind = 5 ∨ kind = 6) → fin.size ≤ 2 →
  Calls Tryz.prog 80 #[.pointer (some ⟨g, 0, none⟩), .int .u8 kind, .string fin, .int .i64 (deep : Int)] w (ValPost g A c p r w)
end Go.Proofs.YtnckaeehcldheaaGreatDoor.Ob
end

section
set_option linter.unusedVariables false
set_option linter.unusedSimpArgs false
namespace Go.Proofs.YtnckaeehcldheaaGreatDoor.Ob
open Go.RowKit Go.Shelf YtnckaeehcldheaaGreatDoorW.PrintWords
theorem blk_fr {w w' : World} {g B : Nat} {o : Obj} (hf : Fr g w w') (hne : B ≠ g) (h : w.heap[B]? = some o) : w'.heap[B]? = some o := (hf.block _ (Array.getElem?_eq_some_iff.1 h).1 hne).trans h
theorem skip_no (g : Nat) (A : Option Addr) (c : Nat) (p : List UInt8) (at_ q : Nat) (s : ByteArray) (w : World) (r : Bool) (h : Rdr w g A c p at_) (hs : s.size ≤ 4294967281) (hq : skipAt p at_ = q) (hr : pre p q s.data.toList = r) :
    Calls Tryz.prog 82 #[.pointer (some ⟨g, 0, none⟩), .string s] w fun e w' => e = .returned (.bool r) ∧ Rdr w' g A c p q ∧ Fr g w w' :=
  skip_ok g A c p at_ q r s w h (by omega) hq hr
theorem put6_ne {W : World} {B k : Nat} (hk : k ≠ B) (b0 b1 b2 b3 b4 b5 : Value) : (put6 W B b0 b1 b2 b3 b4 b5).heap[k]? = W.heap[k]? := by
  unfold put6
  rw [Below.heap_setCell _ _ _ _ hk, Below.heap_setCell _ _ _ _ hk, Below.heap_setCell _ _ _ _ hk, Below.heap_setCell _ _ _ _ hk, Below.heap_setCell _ _ _ _ hk, Below.heap_setCell _ _ _ _ hk]
theorem R_put6 {α : Type} {d : Kd α} {e : Nat} {w : World} {base B : Nat} {ok : Nat → Prop} {v : Value} {xs : List α} (h : d.R e w base ok v xs) (hB : B < base) (b0 b1 b2 b3 b4 b5 : Value) : d.R e (put6 w B b0 b1 b2 b3 b4 b5) base ok v xs :=
  Kd.R_mono (Kd.R_move (Kd.R_bound h) (fun k hk => put6_ne (by have := hk.2.1; omega) _ _ _ _ _ _)) (fun _ hk => hk.1)
theorem wordS_zero (p : List UInt8) (q : Nat) (h : (wordS p q).1 ≠ 0) : (wordS p q).2.kind = 0 ∧ (wordS p q).2.num = 0 ∧ (wordS p q).2.gen = 0 := by
  unfold wordS at *
  dsimp only at *
  repeat' split at h
  all_goals simp_all
set_option maxRecDepth 100000 in
set_option maxHeartbeats 16000000 in
theorem vb1 (p : List UInt8) (hpl : p.length < 2147483640) (f : Nat) (HL : Aside0 (LC p f)) (at_ deep g : Nat) (A : Option Addr) (c : Nat) (r : PR) (w : World) (q : Nat) (hr : listF p f (q + 2) 6 [62, 62] deep [] [] = some r) (G : Gl w) (hg9 : 9 ≤ g) (h : Rdr w g A c p at_) (hd32 : deep ≤ 32) (hle : at_ ≤ p.length) (hq : skipAt p at_ = q) (B1 : Aside0 (pre p q [60, 60] = true)) :
    Calls Tryz.prog 49 #[.pointer (some ⟨g, 0, none⟩), .int .i64 (deep : Int)] w (ValPost g A c p r w) := by
  have hqle : q ≤ p.length := by rw [← hq]; exact skipAt_le hle
  have HQ := Aside0.mk hq
  have HQQ := Aside0.mk (show skipAt p q = q by rw [← hq]; exact skipAt_idem p at_)
  obtain ⟨w0, hw0⟩ : ∃ w0, w0 = w.alloc (.cells #[.int .u8 0, .int .i64 0, .int .i64 0, .string ⟨#[]⟩, .slice none 0 0, .slice none 0 0] 28) := ⟨_, rfl⟩
  have hA : Below w.heap.size w w0 := by rw [hw0]; exact (Below.refl _ _).alloc (Nat.le_refl _) _
  have L0 := Aside0.mk (show w0.heap[w.heap.size]? = some (.cells #[.int .u8 0, .int .i64 0, .int .i64 0, .string ⟨#[]⟩, .slice none 0 0, .slice none 0 0] 28 (0, 0)) by rw [hw0]; exact heap_alloc_new w _)
  have hgw : g < w.heap.size := h.lt
  have hgne : w.heap.size ≠ g := by omega
  have H := Aside0.mk h
  have R0 := Aside0.mk (h.below hA)
  have F0 := Aside0.mk (Fr.of_below g hA)
  have G0 := Aside0.mk (G.below hA)
  clear hq hA h G
  have HLL := Aside0.mk (fun W G R => HL.out (q + 2) deep g A c 6 ⟨#[62, 62]⟩ r W hr G hg9 R hd32 (.inr rfl) (by decide))
  clear hr
  cases r with
  | error er =>
    go_enter Tryz.func49, Tryz.ntmps49
    go_wp2_with fail
    rw [← hw0]
    clear hw0
    go_wp2_with (first | (go_at_call 79; (with_reducible refine (take_yes g A c p at_ q (q + 2) ⟨#[60, 60]⟩ _ R0.out (by decide) HQ.out B1.out rfl).mono ?_); rintro e w1 ⟨rfl, hR1, hF1⟩; have R1 := Aside0.mk hR1; have F1 := Aside0.mk (F0.out.trans hF1); have L1 := Aside0.mk (blk_fr hF1 hgne L0.out); have G1 := Aside0.mk (G0.out.fr hg9 hF1); clear hR1 hF1) | (go_at_call 80; refine (HLL.out _ G1.out R1.out).mono ?_; rintro e w2 ⟨hF2, her, rfl⟩; unfold zeroV; have F2 := Aside0.mk (F1.out.trans hF2); have L2 := Aside0.mk (blk_fr hF2 hgne L1.out); clear hF2; obtain ⟨⟨z0, z1, z2, z3, z4, z5⟩, y0, y1, y2, y3, y4, y5⟩ := six_c L2.out))
    refine ret_put6 (v := .tuple #[zeroV, .int .i64 er]) L2.out (fun W2 z0 z1 z2 z3 z4 z5 => by simp [results, Tryz.results49, go_sem, zeroV, numV, strV, ofL, z0, z1, z2, z3, z4, z5]) rfl ?_
    exact ⟨put6_fr F2.out (Nat.le_refl _) _ _ _ _ _ _, by first | decide | exact her, rfl⟩
  | ok vq =>
    obtain ⟨v, qq⟩ := vq
    go_enter Tryz.func49, Tryz.ntmps49
    go_wp2_with fail
    rw [← hw0]
    clear hw0
    go_wp2_with (first | (go_at_call 79; (with_reducible refine (take_yes g A c p at_ q (q + 2) ⟨#[60, 60]⟩ _ R0.out (by decide) HQ.out B1.out rfl).mono ?_); rintro e w1 ⟨rfl, hR1, hF1⟩; have R1 := Aside0.mk hR1; have F1 := Aside0.mk (F0.out.trans hF1); have L1 := Aside0.mk (blk_fr hF1 hgne L0.out); have G1 := Aside0.mk (G0.out.fr hg9 hF1); clear hR1 hF1) | (go_at_call 80; refine (HLL.out _ G1.out R1.out).mono ?_; rintro e w2 ⟨hF2, v4, v5, rfl, hv4, hv5, hR2⟩; have HV4 := Aside0.mk hv4; have HV5 := Aside0.mk hv5; obtain ⟨A4, c4, rfl, hl4⟩ := hv4.2.slice_; obtain ⟨A5, c5, rfl, hl5⟩ := hv5.2.slice_; clear hv4 hv5 hl4 hl5; have R2 := Aside0.mk hR2; have F2 := Aside0.mk (F1.out.trans hF2); have L2 := Aside0.mk (blk_fr hF2 hgne L1.out); have G2 := Aside0.mk (G1.out.fr hg9 hF2); clear hR2 hF2; obtain ⟨⟨z0, z1, z2, z3, z4, z5⟩, y0, y1, y2, y3, y4, y5⟩ := six_c L2.out))
    have hBl : w.heap.size < w1.heap.size := (Array.getElem?_eq_some_iff.1 L1.out).1
    refine ret_put6 (v := .tuple #[.agg #[.int .u8 v.f0, .int .i64 v.f1, .int .i64 v.f2, .string v.f3, .slice A4 v.f4.length c4, .slice A5 v.f5.length c5], .int .i64 0]) L2.out (fun W2 z0 z1 z2 z3 z4 z5 => by simp [results, Tryz.results49, go_sem, zeroV, numV, strV, ofL, z0, z1, z2, z3, z4, z5]) rfl ?_
    exact ⟨put6_fr F2.out (Nat.le_refl _) _ _ _ _ _ _, _, _, rfl, Kd.R_lower (R_put6 HV4.out hBl _ _ _ _ _ _) (Nat.le_of_lt hBl), Kd.R_lower (R_put6 HV5.out hBl _ _ _ _ _ _) (Nat.le_of_lt hBl), put6_rdr R2.out hgne (H.out.ne_new H.out.lt) _ _ _ _ _ _⟩
set_option maxRecDepth 100000 in
set_option maxHeartbeats 16000000 in
theorem vb2 (p : List UInt8) (hpl : p.length < 2147483640) (f : Nat) (HL : Aside0 (LC p f)) (at_ deep g : Nat) (A : Option Addr) (c : Nat) (r : PR) (w : World) (q : Nat) (hr : listF p f (q + 1) 5 [93] deep [] [] = some r) (G : Gl w) (hg9 : 9 ≤ g) (h : Rdr w g A c p at_) (hd32 : deep ≤ 32) (hle : at_ ≤ p.length) (hq : skipAt p at_ = q) (B1 : Aside0 (pre p q [60, 60] = false)) (B2 : Aside0 (pre p q [91] = true)) :
    Calls Tryz.prog 49 #[.pointer (some ⟨g, 0, none⟩), .int .i64 (deep : Int)] w (ValPost g A c p r w) := by
  have hqle : q ≤ p.length := by rw [← hq]; exact skipAt_le hle
  have HQ := Aside0.mk hq
  have HQQ := Aside0.mk (show skipAt p q = q by rw [← hq]; exact skipAt_idem p at_)
  obtain ⟨w0, hw0⟩ : ∃ w0, w0 = w.alloc (.cells #[.int .u8 0, .int .i64 0, .int .i64 0, .string ⟨#[]⟩, .slice none 0 0, .slice none 0 0] 28) := ⟨_, rfl⟩
  have hA : Below w.heap.size w w0 := by rw [hw0]; exact (Below.refl _ _).alloc (Nat.le_refl _) _
  have L0 := Aside0.mk (show w0.heap[w.heap.size]? = some (.cells #[.int .u8 0, .int .i64 0, .int .i64 0, .string ⟨#[]⟩, .slice none 0 0, .slice none 0 0] 28 (0, 0)) by rw [hw0]; exact heap_alloc_new w _)
  have hgw : g < w.heap.size := h.lt
  have hgne : w.heap.size ≠ g := by omega
  have H := Aside0.mk h
  have R0 := Aside0.mk (h.below hA)
  have F0 := Aside0.mk (Fr.of_below g hA)
  have G0 := Aside0.mk (G.below hA)
  clear hq hA h G
  have HLL := Aside0.mk (fun W G R => HL.out (q + 1) deep g A c 5 ⟨#[93]⟩ r W hr G hg9 R hd32 (.inl rfl) (by decide))
  clear hr
  cases r with
  | error er =>
    go_enter Tryz.func49, Tryz.ntmps49
    go_wp2_with fail
    rw [← hw0]
    clear hw0
    go_wp2_with (first | (go_at_call 79; (with_reducible refine (take_no g A c p at_ q ⟨#[60, 60]⟩ _ R0.out (by decide) HQ.out B1.out).mono ?_); rintro e w1 ⟨rfl, hR1, hF1⟩; have R1 := Aside0.mk hR1; have F1 := Aside0.mk (F0.out.trans hF1); have L1 := Aside0.mk (blk_fr hF1 hgne L0.out); have G1 := Aside0.mk (G0.out.fr hg9 hF1); clear hR1 hF1) | (go_at_call 79; (with_reducible refine (take_yes g A c p q q (q + 1) ⟨#[91]⟩ _ R1.out (by decide) HQQ.out B2.out rfl).mono ?_); rintro e w2 ⟨rfl, hR2, hF2⟩; have R2 := Aside0.mk hR2; have F2 := Aside0.mk (F1.out.trans hF2); have L2 := Aside0.mk (blk_fr hF2 hgne L1.out); have G2 := Aside0.mk (G1.out.fr hg9 hF2); clear hR2 hF2) | (go_at_call 80; refine (HLL.out _ G2.out R2.out).mono ?_; rintro e w3 ⟨hF3, her, rfl⟩; unfold zeroV; have F3 := Aside0.mk (F2.out.trans hF3); have L3 := Aside0.mk (blk_fr hF3 hgne L2.out); clear hF3; obtain ⟨⟨z0, z1, z2, z3, z4, z5⟩, y0, y1, y2, y3, y4, y5⟩ := six_c L3.out))
    refine ret_put6 (v := .tuple #[zeroV, .int .i64 er]) L3.out (fun W2 z0 z1 z2 z3 z4 z5 => by simp [results, Tryz.results49, go_sem, zeroV, numV, strV, ofL, z0, z1, z2, z3, z4, z5]) rfl ?_
    exact ⟨put6_fr F3.out (Nat.le_refl _) _ _ _ _ _ _, by first | decide | exact her, rfl⟩
  | ok vq =>
    obtain ⟨v, qq⟩ := vq
    go_enter Tryz.func49, Tryz.ntmps49
    go_wp2_with fail
    rw [← hw0]
    clear hw0
    go_wp2_with (first | (go_at_call 79; (with_reducible refine (take_no g A c p at_ q ⟨#[60, 60]⟩ _ R0.out (by decide) HQ.out B1.out).mono ?_); rintro e w1 ⟨rfl, hR1, hF1⟩; have R1 := Aside0.mk hR1; have F1 := Aside0.mk (F0.out.trans hF1); have L1 := Aside0.mk (blk_fr hF1 hgne L0.out); have G1 := Aside0.mk (G0.out.fr hg9 hF1); clear hR1 hF1) | (go_at_call 79; (with_reducible refine (take_yes g A c p q q (q + 1) ⟨#[91]⟩ _ R1.out (by decide) HQQ.out B2.out rfl).mono ?_); rintro e w2 ⟨rfl, hR2, hF2⟩; have R2 := Aside0.mk hR2; have F2 := Aside0.mk (F1.out.trans hF2); have L2 := Aside0.mk (blk_fr hF2 hgne L1.out); have G2 := Aside0.mk (G1.out.fr hg9 hF2); clear hR2 hF2) | (go_at_call 80; refine (HLL.out _ G2.out R2.out).mono ?_; rintro e w3 ⟨hF3, v4, v5, rfl, hv4, hv5, hR3⟩; have HV4 := Aside0.mk hv4; have HV5 := Aside0.mk hv5; obtain ⟨A4, c4, rfl, hl4⟩ := hv4.2.slice_; obtain ⟨A5, c5, rfl, hl5⟩ := hv5.2.slice_; clear hv4 hv5 hl4 hl5; have R3 := Aside0.mk hR3; have F3 := Aside0.mk (F2.out.trans hF3); have L3 := Aside0.mk (blk_fr hF3 hgne L2.out); have G3 := Aside0.mk (G2.out.fr hg9 hF3); clear hR3 hF3; obtain ⟨⟨z0, z1, z2, z3, z4, z5⟩, y0, y1, y2, y3, y4, y5⟩ := six_c L3.out))
    have hBl : w.heap.size < w2.heap.size := (Array.getElem?_eq_some_iff.1 L2.out).1
    refine ret_put6 (v := .tuple #[.agg #[.int .u8 v.f0, .int .i64 v.f1, .int .i64 v.f2, .string v.f3, .slice A4 v.f4.length c4, .slice A5 v.f5.length c5], .int .i64 0]) L3.out (fun W2 z0 z1 z2 z3 z4 z5 => by simp [results, Tryz.results49, go_sem, zeroV, numV, strV, ofL, z0, z1, z2, z3, z4, z5]) rfl ?_
    exact ⟨put6_fr F3.out (Nat.le_refl _) _ _ _ _ _ _, _, _, rfl, Kd.R_lower (R_put6 HV4.out hBl _ _ _ _ _ _) (Nat.le_of_lt hBl), Kd.R_lower (R_put6 HV5.out hBl _ _ _ _ _ _) (Nat.le_of_lt hBl), put6_rdr R3.out hgne (H.out.ne_new H.out.lt) _ _ _ _ _ _⟩
set_option maxRecDepth 100000 in
set_option maxHeartbeats 16000000 in
theorem vb3 (p : List UInt8) (hpl : p.length < 2147483640) (f : Nat) (HL : Aside0 (LC p f)) (at_ deep g : Nat) (A : Option Addr) (c : Nat) (r : PR) (w : World) (q : Nat) (hr : some (ofText (textS p (q + 1))) = some r) (G : Gl w) (hg9 : 9 ≤ g) (h : Rdr w g A c p at_) (hd32 : deep ≤ 32) (hle : at_ ≤ p.length) (hq : skipAt p at_ = q) (B1 : Aside0 (pre p q [60, 60] = false)) (B2 : Aside0 (pre p q [91] = false)) (B3 : Aside0 (pre p q [60] = true)) :
    Calls Tryz.prog 49 #[.pointer (some ⟨g, 0, none⟩), .int .i64 (deep : Int)] w (ValPost g A c p r w) := by
  have hqle : q ≤ p.length := by rw [← hq]; exact skipAt_le hle
  have HQ := Aside0.mk hq
  have HQQ := Aside0.mk (show skipAt p q = q by rw [← hq]; exact skipAt_idem p at_)
  obtain ⟨w0, hw0⟩ : ∃ w0, w0 = w.alloc (.cells #[.int .u8 0, .int .i64 0, .int .i64 0, .string ⟨#[]⟩, .slice none 0 0, .slice none 0 0] 28) := ⟨_, rfl⟩
  have hA : Below w.heap.size w w0 := by rw [hw0]; exact (Below.refl _ _).alloc (Nat.le_refl _) _
  have L0 := Aside0.mk (show w0.heap[w.heap.size]? = some (.cells #[.int .u8 0, .int .i64 0, .int .i64 0, .string ⟨#[]⟩, .slice none 0 0, .slice none 0 0] 28 (0, 0)) by rw [hw0]; exact heap_alloc_new w _)
  have hgw : g < w.heap.size := h.lt
  have hgne : w.heap.size ≠ g := by omega
  have H := Aside0.mk h
  have R0 := Aside0.mk (h.below hA)
  have F0 := Aside0.mk (Fr.of_below g hA)
  have G0 := Aside0.mk (G.below hA)
  clear hq hA h G
  have HT := Aside0.mk (fun W R => text_ok g A c p (q + 1) W R (by omega))
  cases ht : textS p (q + 1) with
  | none =>
    rw [ht] at HT hr
    obtain rfl := Option.some.inj hr
    clear hr ht
    go_enter Tryz.func49, Tryz.ntmps49
    go_wp2_with fail
    rw [← hw0]
    clear hw0
    go_wp2_with (first | (go_at_call 79; (with_reducible refine (take_no g A c p at_ q ⟨#[60, 60]⟩ _ R0.out (by decide) HQ.out B1.out).mono ?_); rintro e w1 ⟨rfl, hR1, hF1⟩; have R1 := Aside0.mk hR1; have F1 := Aside0.mk (F0.out.trans hF1); have L1 := Aside0.mk (blk_fr hF1 hgne L0.out); have G1 := Aside0.mk (G0.out.fr hg9 hF1); clear hR1 hF1) | (go_at_call 79; (with_reducible refine (take_no g A c p q q ⟨#[91]⟩ _ R1.out (by decide) HQQ.out B2.out).mono ?_); rintro e w2 ⟨rfl, hR2, hF2⟩; have R2 := Aside0.mk hR2; have F2 := Aside0.mk (F1.out.trans hF2); have L2 := Aside0.mk (blk_fr hF2 hgne L1.out); have G2 := Aside0.mk (G1.out.fr hg9 hF2); clear hR2 hF2) | (go_at_call 79; (with_reducible refine (take_yes g A c p q q (q + 1) ⟨#[60]⟩ _ R2.out (by decide) HQQ.out B3.out rfl).mono ?_); rintro e w3 ⟨rfl, hR3, hF3⟩; have R3 := Aside0.mk hR3; have F3 := Aside0.mk (F2.out.trans hF3); have L3 := Aside0.mk (blk_fr hF3 hgne L2.out); have G3 := Aside0.mk (G2.out.fr hg9 hF3); clear hR3 hF3) | (go_at_call 81; refine (HT.out _ R3.out).mono ?_; rintro e w4 ⟨hF4, rfl⟩; unfold zeroV; have F4 := Aside0.mk (F3.out.trans hF4); have L4 := Aside0.mk (blk_fr hF4 hgne L3.out); clear hF4; obtain ⟨⟨z0, z1, z2, z3, z4, z5⟩, y0, y1, y2, y3, y4, y5⟩ := six_c L4.out))
    refine ret_put6 (v := .tuple #[zeroV, .int .i64 2]) L4.out (fun W2 z0 z1 z2 z3 z4 z5 => by simp [results, Tryz.results49, go_sem, zeroV, numV, strV, ofL, z0, z1, z2, z3, z4, z5]) rfl ?_
    exact ⟨put6_fr F4.out (Nat.le_refl _) _ _ _ _ _ _, by first | decide | exact her, rfl⟩
  | some tq =>
    obtain ⟨t, qq⟩ := tq
    rw [ht] at HT hr
    obtain rfl := Option.some.inj hr
    clear hr ht
    go_enter Tryz.func49, Tryz.ntmps49
    go_wp2_with fail
    rw [← hw0]
    clear hw0
    go_wp2_with (first | (go_at_call 79; (with_reducible refine (take_no g A c p at_ q ⟨#[60, 60]⟩ _ R0.out (by decide) HQ.out B1.out).mono ?_); rintro e w1 ⟨rfl, hR1, hF1⟩; have R1 := Aside0.mk hR1; have F1 := Aside0.mk (F0.out.trans hF1); have L1 := Aside0.mk (blk_fr hF1 hgne L0.out); have G1 := Aside0.mk (G0.out.fr hg9 hF1); clear hR1 hF1) | (go_at_call 79; (with_reducible refine (take_no g A c p q q ⟨#[91]⟩ _ R1.out (by decide) HQQ.out B2.out).mono ?_); rintro e w2 ⟨rfl, hR2, hF2⟩; have R2 := Aside0.mk hR2; have F2 := Aside0.mk (F1.out.trans hF2); have L2 := Aside0.mk (blk_fr hF2 hgne L1.out); have G2 := Aside0.mk (G1.out.fr hg9 hF2); clear hR2 hF2) | (go_at_call 79; (with_reducible refine (take_yes g A c p q q (q + 1) ⟨#[60]⟩ _ R2.out (by decide) HQQ.out B3.out rfl).mono ?_); rintro e w3 ⟨rfl, hR3, hF3⟩; have R3 := Aside0.mk hR3; have F3 := Aside0.mk (F2.out.trans hF3); have L3 := Aside0.mk (blk_fr hF3 hgne L2.out); have G3 := Aside0.mk (G2.out.fr hg9 hF3); clear hR3 hF3) | (go_at_call 81; refine (HT.out _ R3.out).mono ?_; rintro e w4 ⟨hF4, rfl, hR4⟩; have R4 := Aside0.mk hR4; have F4 := Aside0.mk (F3.out.trans hF4); have L4 := Aside0.mk (blk_fr hF4 hgne L3.out); have G4 := Aside0.mk (G3.out.fr hg9 hF4); clear hR4 hF4; obtain ⟨⟨z0, z1, z2, z3, z4, z5⟩, y0, y1, y2, y3, y4, y5⟩ := six_c L4.out))
    refine ret_put6 (v := .tuple #[strV 4 (ofL t), .int .i64 0]) L4.out (fun W2 z0 z1 z2 z3 z4 z5 => by simp [results, Tryz.results49, go_sem, zeroV, numV, strV, ofL, z0, z1, z2, z3, z4, z5]) rfl ?_
    exact ⟨put6_fr F4.out (Nat.le_refl _) _ _ _ _ _ _, .slice none 0 0, .slice none 0 0, rfl, Kd.R_nil _ _ _ _ _, Kd.R_nil _ _ _ _ _, put6_rdr R4.out hgne (H.out.ne_new H.out.lt) _ _ _ _ _ _⟩
set_option maxRecDepth 100000 in
set_option maxHeartbeats 16000000 in
theorem vb4 (p : List UInt8) (hpl : p.length < 2147483640) (f : Nat) (HL : Aside0 (LC p f)) (at_ deep g : Nat) (A : Option Addr) (c : Nat) (r : PR) (w : World) (q : Nat) (hr : some (.error 14) = some r) (G : Gl w) (hg9 : 9 ≤ g) (h : Rdr w g A c p at_) (hd32 : deep ≤ 32) (hle : at_ ≤ p.length) (hq : skipAt p at_ = q) (B1 : Aside0 (pre p q [60, 60] = false)) (B2 : Aside0 (pre p q [91] = false)) (B3 : Aside0 (pre p q [60] = false)) (B4 : Aside0 (pre p q [40] = true)) :
    Calls Tryz.prog 49 #[.pointer (some ⟨g, 0, none⟩), .int .i64 (deep : Int)] w (ValPost g A c p r w) := by
  have hqle : q ≤ p.length := by rw [← hq]; exact skipAt_le hle
  have HQ := Aside0.mk hq
  have HQQ := Aside0.mk (show skipAt p q = q by rw [← hq]; exact skipAt_idem p at_)
  obtain ⟨w0, hw0⟩ : ∃ w0, w0 = w.alloc (.cells #[.int .u8 0, .int .i64 0, .int .i64 0, .string ⟨#[]⟩, .slice none 0 0, .slice none 0 0] 28) := ⟨_, rfl⟩
  have hA : Below w.heap.size w w0 := by rw [hw0]; exact (Below.refl _ _).alloc (Nat.le_refl _) _
  have L0 := Aside0.mk (show w0.heap[w.heap.size]? = some (.cells #[.int .u8 0, .int .i64 0, .int .i64 0, .string ⟨#[]⟩, .slice none 0 0, .slice none 0 0] 28 (0, 0)) by rw [hw0]; exact heap_alloc_new w _)
  have hgw : g < w.heap.size := h.lt
  have hgne : w.heap.size ≠ g := by omega
  have H := Aside0.mk h
  have R0 := Aside0.mk (h.below hA)
  have F0 := Aside0.mk (Fr.of_below g hA)
  have G0 := Aside0.mk (G.below hA)
  clear hq hA h G
  obtain rfl := Option.some.inj hr
  clear hr
  go_enter Tryz.func49, Tryz.ntmps49
  go_wp2_with fail
  rw [← hw0]
  clear hw0
  go_wp2_with (first | (go_at_call 79; (with_reducible refine (take_no g A c p at_ q ⟨#[60, 60]⟩ _ R0.out (by decide) HQ.out B1.out).mono ?_); rintro e w1 ⟨rfl, hR1, hF1⟩; have R1 := Aside0.mk hR1; have F1 := Aside0.mk (F0.out.trans hF1); have L1 := Aside0.mk (blk_fr hF1 hgne L0.out); have G1 := Aside0.mk (G0.out.fr hg9 hF1); clear hR1 hF1) | (go_at_call 79; (with_reducible refine (take_no g A c p q q ⟨#[91]⟩ _ R1.out (by decide) HQQ.out B2.out).mono ?_); rintro e w2 ⟨rfl, hR2, hF2⟩; have R2 := Aside0.mk hR2; have F2 := Aside0.mk (F1.out.trans hF2); have L2 := Aside0.mk (blk_fr hF2 hgne L1.out); have G2 := Aside0.mk (G1.out.fr hg9 hF2); clear hR2 hF2) | (go_at_call 79; (with_reducible refine (take_no g A c p q q ⟨#[60]⟩ _ R2.out (by decide) HQQ.out B3.out).mono ?_); rintro e w3 ⟨rfl, hR3, hF3⟩; have R3 := Aside0.mk hR3; have F3 := Aside0.mk (F2.out.trans hF3); have L3 := Aside0.mk (blk_fr hF3 hgne L2.out); have G3 := Aside0.mk (G2.out.fr hg9 hF3); clear hR3 hF3) | (go_at_call 82; refine (skip_no g A c p q q ⟨#[40]⟩ _ _ R3.out (by decide) HQQ.out B4.out).mono ?_; rintro e w4 ⟨rfl, hR4, hF4⟩; have R4 := Aside0.mk hR4; have F4 := Aside0.mk (F3.out.trans hF4); have L4 := Aside0.mk (blk_fr hF4 hgne L3.out); have G4 := Aside0.mk (G3.out.fr hg9 hF4); clear hR4 hF4; obtain ⟨⟨z0, z1, z2, z3, z4, z5⟩, y0, y1, y2, y3, y4, y5⟩ := six_c L4.out))
  refine ret_put6 (v := .tuple #[zeroV, .int .i64 14]) L4.out (fun W2 z0 z1 z2 z3 z4 z5 => by simp [results, Tryz.results49, go_sem, zeroV, numV, strV, ofL, z0, z1, z2, z3, z4, z5]) rfl ?_
  exact ⟨put6_fr F4.out (Nat.le_refl _) _ _ _ _ _ _, by first | decide | exact her, rfl⟩
set_option maxRecDepth 100000 in
set_option maxHeartbeats 16000000 in
theorem vb5 (p : List UInt8) (hpl : p.length < 2147483640) (f : Nat) (HL : Aside0 (LC p f)) (at_ deep g : Nat) (A : Option Addr) (c : Nat) (r : PR) (w : World) (q : Nat) (hr : some (ofName p (q + 1)) = some r) (G : Gl w) (hg9 : 9 ≤ g) (h : Rdr w g A c p at_) (hd32 : deep ≤ 32) (hle : at_ ≤ p.length) (hq : skipAt p at_ = q) (B1 : Aside0 (pre p q [60, 60] = false)) (B2 : Aside0 (pre p q [91] = false)) (B3 : Aside0 (pre p q [60] = false)) (B4 : Aside0 (pre p q [40] = false)) (B5 : Aside0 (pre p q [47] = true)) :
    Calls Tryz.prog 49 #[.pointer (some ⟨g, 0, none⟩), .int .i64 (deep : Int)] w (ValPost g A c p r w) := by
  have hqle : q ≤ p.length := by rw [← hq]; exact skipAt_le hle
  have HQ := Aside0.mk hq
  have HQQ := Aside0.mk (show skipAt p q = q by rw [← hq]; exact skipAt_idem p at_)
  obtain ⟨w0, hw0⟩ : ∃ w0, w0 = w.alloc (.cells #[.int .u8 0, .int .i64 0, .int .i64 0, .string ⟨#[]⟩, .slice none 0 0, .slice none 0 0] 28) := ⟨_, rfl⟩
  have hA : Below w.heap.size w w0 := by rw [hw0]; exact (Below.refl _ _).alloc (Nat.le_refl _) _
  have L0 := Aside0.mk (show w0.heap[w.heap.size]? = some (.cells #[.int .u8 0, .int .i64 0, .int .i64 0, .string ⟨#[]⟩, .slice none 0 0, .slice none 0 0] 28 (0, 0)) by rw [hw0]; exact heap_alloc_new w _)
  have hgw : g < w.heap.size := h.lt
  have hgne : w.heap.size ≠ g := by omega
  have H := Aside0.mk h
  have R0 := Aside0.mk (h.below hA)
  have F0 := Aside0.mk (Fr.of_below g hA)
  have G0 := Aside0.mk (G.below hA)
  clear hq hA h G
  obtain ⟨s, hs⟩ : ∃ s, s = ofL (wordL (p.drop (q + 1))) := ⟨_, rfl⟩
  obtain ⟨a1, ha1⟩ : ∃ a1, q + 1 + (wordL (p.drop (q + 1))).length = a1 := ⟨_, rfl⟩
  obtain ⟨t, ht⟩ : ∃ t, t = ofL (nameS s.data.toList).1 := ⟨_, rfl⟩
  obtain ⟨er, her⟩ : ∃ v, (nameS s.data.toList).2 = v := ⟨_, rfl⟩
  have HN := Aside0.mk (fun W R => name_ok g A c p (q + 1) a1 s t er W R (by omega) hs ha1 (by rw [ht, ofL_list, ← her]))
  rw [ofName] at hr
  simp only [ha1] at hr
  rw [show nameS (wordL (p.drop (q + 1))) = nameS s.data.toList by rw [hs, ofL_list], ← ht, her] at hr
  clear hs ha1 ht
  by_cases k1 : er = 0
  · have e1 : (er == 0) = true := by simp [k1]
    have e1' : (er != 0) = false := by simp [k1]
    rw [if_pos k1] at hr
    obtain rfl := Option.some.inj hr
    have HN2 := Aside0.mk (fun W R => by have := HN.out W R; rw [if_pos k1] at this; exact this)
    clear hr k1 HN her
    go_enter Tryz.func49, Tryz.ntmps49
    go_wp2_with fail
    rw [← hw0]
    clear hw0
    go_wp2_with (first | (go_at_call 79; (with_reducible refine (take_no g A c p at_ q ⟨#[60, 60]⟩ _ R0.out (by decide) HQ.out B1.out).mono ?_); rintro e w1 ⟨rfl, hR1, hF1⟩; have R1 := Aside0.mk hR1; have F1 := Aside0.mk (F0.out.trans hF1); have L1 := Aside0.mk (blk_fr hF1 hgne L0.out); have G1 := Aside0.mk (G0.out.fr hg9 hF1); clear hR1 hF1) | (go_at_call 79; (with_reducible refine (take_no g A c p q q ⟨#[91]⟩ _ R1.out (by decide) HQQ.out B2.out).mono ?_); rintro e w2 ⟨rfl, hR2, hF2⟩; have R2 := Aside0.mk hR2; have F2 := Aside0.mk (F1.out.trans hF2); have L2 := Aside0.mk (blk_fr hF2 hgne L1.out); have G2 := Aside0.mk (G1.out.fr hg9 hF2); clear hR2 hF2) | (go_at_call 79; (with_reducible refine (take_no g A c p q q ⟨#[60]⟩ _ R2.out (by decide) HQQ.out B3.out).mono ?_); rintro e w3 ⟨rfl, hR3, hF3⟩; have R3 := Aside0.mk hR3; have F3 := Aside0.mk (F2.out.trans hF3); have L3 := Aside0.mk (blk_fr hF3 hgne L2.out); have G3 := Aside0.mk (G2.out.fr hg9 hF3); clear hR3 hF3) | (go_at_call 82; refine (skip_no g A c p q q ⟨#[40]⟩ _ _ R3.out (by decide) HQQ.out B4.out).mono ?_; rintro e w4 ⟨rfl, hR4, hF4⟩; have R4 := Aside0.mk hR4; have F4 := Aside0.mk (F3.out.trans hF4); have L4 := Aside0.mk (blk_fr hF4 hgne L3.out); have G4 := Aside0.mk (G3.out.fr hg9 hF4); clear hR4 hF4) | (go_at_call 79; (with_reducible refine (take_yes g A c p q q (q + 1) ⟨#[47]⟩ _ R4.out (by decide) HQQ.out B5.out rfl).mono ?_); rintro e w5 ⟨rfl, hR5, hF5⟩; have R5 := Aside0.mk hR5; have F5 := Aside0.mk (F4.out.trans hF5); have L5 := Aside0.mk (blk_fr hF5 hgne L4.out); have G5 := Aside0.mk (G4.out.fr hg9 hF5); clear hR5 hF5) | (go_at_call 83; refine (HN2.out _ R5.out).mono ?_; rintro e w6 ⟨rfl, hR6, hF6⟩; have R6 := Aside0.mk hR6; have F6 := Aside0.mk (F5.out.trans hF6); have L6 := Aside0.mk (blk_fr hF6 hgne L5.out); have G6 := Aside0.mk (G5.out.fr hg9 hF6); clear hR6 hF6) | (go_at_call 25; refine (Word_ok t _).mono ?_; rintro e w7 ⟨rfl, hb7⟩; unfold strV; have hR7 := R6.out.below hb7; have hF7 := Fr.of_below g hb7; have R7 := Aside0.mk hR7; have F7 := Aside0.mk (F6.out.trans hF7); have L7 := Aside0.mk (blk_fr hF7 hgne L6.out); have G7 := Aside0.mk (G6.out.fr hg9 hF7); clear hR7 hF7; obtain ⟨⟨z0, z1, z2, z3, z4, z5⟩, y0, y1, y2, y3, y4, y5⟩ := six_c L7.out))
    refine ret_put6 (v := .tuple #[strV 3 t, .int .i64 0]) L7.out (fun W2 z0 z1 z2 z3 z4 z5 => by simp [results, Tryz.results49, go_sem, zeroV, numV, strV, ofL, z0, z1, z2, z3, z4, z5]) rfl ?_
    exact ⟨put6_fr F7.out (Nat.le_refl _) _ _ _ _ _ _, .slice none 0 0, .slice none 0 0, rfl, Kd.R_nil _ _ _ _ _, Kd.R_nil _ _ _ _ _, put6_rdr R7.out hgne (H.out.ne_new H.out.lt) _ _ _ _ _ _⟩
  · have e1 : (er == 0) = false := by simp [k1]
    have e1' : (er != 0) = true := by simp [k1]
    rw [if_neg k1] at hr
    obtain rfl := Option.some.inj hr
    have HN2 := Aside0.mk (fun W R => by have := HN.out W R; rw [if_neg k1] at this; exact this)
    have HK := Aside0.mk k1
    clear hr k1 HN her
    go_enter Tryz.func49, Tryz.ntmps49
    go_wp2_with fail
    rw [← hw0]
    clear hw0
    go_wp2_with (first | (go_at_call 79; (with_reducible refine (take_no g A c p at_ q ⟨#[60, 60]⟩ _ R0.out (by decide) HQ.out B1.out).mono ?_); rintro e w1 ⟨rfl, hR1, hF1⟩; have R1 := Aside0.mk hR1; have F1 := Aside0.mk (F0.out.trans hF1); have L1 := Aside0.mk (blk_fr hF1 hgne L0.out); have G1 := Aside0.mk (G0.out.fr hg9 hF1); clear hR1 hF1) | (go_at_call 79; (with_reducible refine (take_no g A c p q q ⟨#[91]⟩ _ R1.out (by decide) HQQ.out B2.out).mono ?_); rintro e w2 ⟨rfl, hR2, hF2⟩; have R2 := Aside0.mk hR2; have F2 := Aside0.mk (F1.out.trans hF2); have L2 := Aside0.mk (blk_fr hF2 hgne L1.out); have G2 := Aside0.mk (G1.out.fr hg9 hF2); clear hR2 hF2) | (go_at_call 79; (with_reducible refine (take_no g A c p q q ⟨#[60]⟩ _ R2.out (by decide) HQQ.out B3.out).mono ?_); rintro e w3 ⟨rfl, hR3, hF3⟩; have R3 := Aside0.mk hR3; have F3 := Aside0.mk (F2.out.trans hF3); have L3 := Aside0.mk (blk_fr hF3 hgne L2.out); have G3 := Aside0.mk (G2.out.fr hg9 hF3); clear hR3 hF3) | (go_at_call 82; refine (skip_no g A c p q q ⟨#[40]⟩ _ _ R3.out (by decide) HQQ.out B4.out).mono ?_; rintro e w4 ⟨rfl, hR4, hF4⟩; have R4 := Aside0.mk hR4; have F4 := Aside0.mk (F3.out.trans hF4); have L4 := Aside0.mk (blk_fr hF4 hgne L3.out); have G4 := Aside0.mk (G3.out.fr hg9 hF4); clear hR4 hF4) | (go_at_call 79; (with_reducible refine (take_yes g A c p q q (q + 1) ⟨#[47]⟩ _ R4.out (by decide) HQQ.out B5.out rfl).mono ?_); rintro e w5 ⟨rfl, hR5, hF5⟩; have R5 := Aside0.mk hR5; have F5 := Aside0.mk (F4.out.trans hF5); have L5 := Aside0.mk (blk_fr hF5 hgne L4.out); have G5 := Aside0.mk (G4.out.fr hg9 hF5); clear hR5 hF5) | (go_at_call 83; refine (HN2.out _ R5.out).mono ?_; rintro e w6 ⟨rfl, hR6, hF6⟩; have R6 := Aside0.mk hR6; have F6 := Aside0.mk (F5.out.trans hF6); have L6 := Aside0.mk (blk_fr hF6 hgne L5.out); have G6 := Aside0.mk (G5.out.fr hg9 hF6); clear hR6 hF6; obtain ⟨⟨z0, z1, z2, z3, z4, z5⟩, y0, y1, y2, y3, y4, y5⟩ := six_c L6.out))
    have her := HK.out
    refine ret_put6 (v := .tuple #[zeroV, .int .i64 er]) L6.out (fun W2 z0 z1 z2 z3 z4 z5 => by simp [results, Tryz.results49, go_sem, zeroV, numV, strV, ofL, z0, z1, z2, z3, z4, z5]) rfl ?_
    exact ⟨put6_fr F6.out (Nat.le_refl _) _ _ _ _ _ _, by first | decide | exact her, rfl⟩
set_option maxRecDepth 100000 in
set_option maxHeartbeats 16000000 in
theorem vb6 (p : List UInt8) (hpl : p.length < 2147483640) (f : Nat) (HL : Aside0 (LC p f)) (at_ deep g : Nat) (A : Option Addr) (c : Nat) (r : PR) (w : World) (q : Nat) (hr : some (ofRef (wordS p q)) = some r) (G : Gl w) (hg9 : 9 ≤ g) (h : Rdr w g A c p at_) (hd32 : deep ≤ 32) (hle : at_ ≤ p.length) (hq : skipAt p at_ = q) (B1 : Aside0 (pre p q [60, 60] = false)) (B2 : Aside0 (pre p q [91] = false)) (B3 : Aside0 (pre p q [60] = false)) (B4 : Aside0 (pre p q [40] = false)) (B5 : Aside0 (pre p q [47] = false)) :
    Calls Tryz.prog 49 #[.pointer (some ⟨g, 0, none⟩), .int .i64 (deep : Int)] w (ValPost g A c p r w) := by
  have hqle : q ≤ p.length := by rw [← hq]; exact skipAt_le hle
  have HQ := Aside0.mk hq
  have HQQ := Aside0.mk (show skipAt p q = q by rw [← hq]; exact skipAt_idem p at_)
  obtain ⟨w0, hw0⟩ : ∃ w0, w0 = w.alloc (.cells #[.int .u8 0, .int .i64 0, .int .i64 0, .string ⟨#[]⟩, .slice none 0 0, .slice none 0 0] 28) := ⟨_, rfl⟩
  have hA : Below w.heap.size w w0 := by rw [hw0]; exact (Below.refl _ _).alloc (Nat.le_refl _) _
  have L0 := Aside0.mk (show w0.heap[w.heap.size]? = some (.cells #[.int .u8 0, .int .i64 0, .int .i64 0, .string ⟨#[]⟩, .slice none 0 0, .slice none 0 0] 28 (0, 0)) by rw [hw0]; exact heap_alloc_new w _)
  have hgw : g < w.heap.size := h.lt
  have hgne : w.heap.size ≠ g := by omega
  have H := Aside0.mk h
  have R0 := Aside0.mk (h.below hA)
  have F0 := Aside0.mk (Fr.of_below g hA)
  have G0 := Aside0.mk (G.below hA)
  clear hq hA h G
  obtain ⟨er, her⟩ : ∃ v, (wordS p q).1 = v := ⟨_, rfl⟩
  obtain ⟨R, hRR⟩ : ∃ v, (wordS p q).2 = v := ⟨_, rfl⟩
  have HW := Aside0.mk (fun W G Rd => word_ok g A c p q er R W G hg9 Rd hpl (by rw [← her, ← hRR]))
  rw [ofRef, her, hRR] at hr
  have hz := Aside0.mk (wordS_zero p q)
  rw [her, hRR] at hz
  by_cases k1 : er = 0
  · rw [if_pos k1] at hr
    obtain rfl := Option.some.inj hr
    have e1 := Aside0.mk k1
    clear hr k1 her hRR
    go_enter Tryz.func49, Tryz.ntmps49
    go_wp2_with fail
    rw [← hw0]
    clear hw0
    go_wp2_with (first | (go_at_call 79; (with_reducible refine (take_no g A c p at_ q ⟨#[60, 60]⟩ _ R0.out (by decide) HQ.out B1.out).mono ?_); rintro e w1 ⟨rfl, hR1, hF1⟩; have R1 := Aside0.mk hR1; have F1 := Aside0.mk (F0.out.trans hF1); have L1 := Aside0.mk (blk_fr hF1 hgne L0.out); have G1 := Aside0.mk (G0.out.fr hg9 hF1); clear hR1 hF1) | (go_at_call 79; (with_reducible refine (take_no g A c p q q ⟨#[91]⟩ _ R1.out (by decide) HQQ.out B2.out).mono ?_); rintro e w2 ⟨rfl, hR2, hF2⟩; have R2 := Aside0.mk hR2; have F2 := Aside0.mk (F1.out.trans hF2); have L2 := Aside0.mk (blk_fr hF2 hgne L1.out); have G2 := Aside0.mk (G1.out.fr hg9 hF2); clear hR2 hF2) | (go_at_call 79; (with_reducible refine (take_no g A c p q q ⟨#[60]⟩ _ R2.out (by decide) HQQ.out B3.out).mono ?_); rintro e w3 ⟨rfl, hR3, hF3⟩; have R3 := Aside0.mk hR3; have F3 := Aside0.mk (F2.out.trans hF3); have L3 := Aside0.mk (blk_fr hF3 hgne L2.out); have G3 := Aside0.mk (G2.out.fr hg9 hF3); clear hR3 hF3) | (go_at_call 82; refine (skip_no g A c p q q ⟨#[40]⟩ _ _ R3.out (by decide) HQQ.out B4.out).mono ?_; rintro e w4 ⟨rfl, hR4, hF4⟩; have R4 := Aside0.mk hR4; have F4 := Aside0.mk (F3.out.trans hF4); have L4 := Aside0.mk (blk_fr hF4 hgne L3.out); have G4 := Aside0.mk (G3.out.fr hg9 hF4); clear hR4 hF4) | (go_at_call 79; (with_reducible refine (take_no g A c p q q ⟨#[47]⟩ _ R4.out (by decide) HQQ.out B5.out).mono ?_); rintro e w5 ⟨rfl, hR5, hF5⟩; have R5 := Aside0.mk hR5; have F5 := Aside0.mk (F4.out.trans hF5); have L5 := Aside0.mk (blk_fr hF5 hgne L4.out); have G5 := Aside0.mk (G4.out.fr hg9 hF5); clear hR5 hF5) | (go_at_call 84; refine (HW.out _ G5.out R5.out).mono ?_; rintro e w6 ⟨rfl, hR6, hF6⟩; unfold numV; have R6 := Aside0.mk hR6; have F6 := Aside0.mk (F5.out.trans hF6); have L6 := Aside0.mk (blk_fr hF6 hgne L5.out); have G6 := Aside0.mk (G5.out.fr hg9 hF6); clear hR6 hF6; obtain ⟨⟨z0, z1, z2, z3, z4, z5⟩, y0, y1, y2, y3, y4, y5⟩ := six_c L6.out))
    obtain rfl := e1.out
    refine ret_put6 (v := .tuple #[numV R.kind R.num R.gen, .int .i64 0]) L6.out (fun W2 z0 z1 z2 z3 z4 z5 => by simp [results, Tryz.results49, go_sem, zeroV, numV, strV, ofL, z0, z1, z2, z3, z4, z5]) rfl ?_
    exact ⟨put6_fr F6.out (Nat.le_refl _) _ _ _ _ _ _, .slice none 0 0, .slice none 0 0, rfl, Kd.R_nil _ _ _ _ _, Kd.R_nil _ _ _ _ _, put6_rdr R6.out hgne (H.out.ne_new H.out.lt) _ _ _ _ _ _⟩
  · rw [if_neg k1] at hr
    obtain rfl := Option.some.inj hr
    obtain ⟨hz0, hz1, hz2⟩ := hz.out k1
    have e1 := Aside0.mk k1
    have Z0 := Aside0.mk hz0
    have Z1 := Aside0.mk hz1
    have Z2 := Aside0.mk hz2
    clear hr k1 her hRR hz0 hz1 hz2
    go_enter Tryz.func49, Tryz.ntmps49
    go_wp2_with fail
    rw [← hw0]
    clear hw0
    go_wp2_with (first | (go_at_call 79; (with_reducible refine (take_no g A c p at_ q ⟨#[60, 60]⟩ _ R0.out (by decide) HQ.out B1.out).mono ?_); rintro e w1 ⟨rfl, hR1, hF1⟩; have R1 := Aside0.mk hR1; have F1 := Aside0.mk (F0.out.trans hF1); have L1 := Aside0.mk (blk_fr hF1 hgne L0.out); have G1 := Aside0.mk (G0.out.fr hg9 hF1); clear hR1 hF1) | (go_at_call 79; (with_reducible refine (take_no g A c p q q ⟨#[91]⟩ _ R1.out (by decide) HQQ.out B2.out).mono ?_); rintro e w2 ⟨rfl, hR2, hF2⟩; have R2 := Aside0.mk hR2; have F2 := Aside0.mk (F1.out.trans hF2); have L2 := Aside0.mk (blk_fr hF2 hgne L1.out); have G2 := Aside0.mk (G1.out.fr hg9 hF2); clear hR2 hF2) | (go_at_call 79; (with_reducible refine (take_no g A c p q q ⟨#[60]⟩ _ R2.out (by decide) HQQ.out B3.out).mono ?_); rintro e w3 ⟨rfl, hR3, hF3⟩; have R3 := Aside0.mk hR3; have F3 := Aside0.mk (F2.out.trans hF3); have L3 := Aside0.mk (blk_fr hF3 hgne L2.out); have G3 := Aside0.mk (G2.out.fr hg9 hF3); clear hR3 hF3) | (go_at_call 82; refine (skip_no g A c p q q ⟨#[40]⟩ _ _ R3.out (by decide) HQQ.out B4.out).mono ?_; rintro e w4 ⟨rfl, hR4, hF4⟩; have R4 := Aside0.mk hR4; have F4 := Aside0.mk (F3.out.trans hF4); have L4 := Aside0.mk (blk_fr hF4 hgne L3.out); have G4 := Aside0.mk (G3.out.fr hg9 hF4); clear hR4 hF4) | (go_at_call 79; (with_reducible refine (take_no g A c p q q ⟨#[47]⟩ _ R4.out (by decide) HQQ.out B5.out).mono ?_); rintro e w5 ⟨rfl, hR5, hF5⟩; have R5 := Aside0.mk hR5; have F5 := Aside0.mk (F4.out.trans hF5); have L5 := Aside0.mk (blk_fr hF5 hgne L4.out); have G5 := Aside0.mk (G4.out.fr hg9 hF5); clear hR5 hF5) | (go_at_call 84; refine (HW.out _ G5.out R5.out).mono ?_; rintro e w6 ⟨rfl, hR6, hF6⟩; unfold numV; rw [Z0.out, Z1.out, Z2.out]; have R6 := Aside0.mk hR6; have F6 := Aside0.mk (F5.out.trans hF6); have L6 := Aside0.mk (blk_fr hF6 hgne L5.out); have G6 := Aside0.mk (G5.out.fr hg9 hF6); clear hR6 hF6; obtain ⟨⟨z0, z1, z2, z3, z4, z5⟩, y0, y1, y2, y3, y4, y5⟩ := six_c L6.out))
    have her := e1.out
    refine ret_put6 (v := .tuple #[zeroV, .int .i64 er]) L6.out (fun W2 z0 z1 z2 z3 z4 z5 => by simp [results, Tryz.results49, go_sem, zeroV, numV, strV, ofL, z0, z1, z2, z3, z4, z5]) rfl ?_
    exact ⟨put6_fr F6.out (Nat.le_refl _) _ _ _ _ _ _, by first | decide | exact her, rfl⟩
set_option maxHeartbeats 4000000 in
theorem vdeep (p : List UInt8) (at_ deep g : Nat) (A : Option Addr) (c : Nat) (w : World) (hg9 : 9 ≤ g) (h : Rdr w g A c p at_) (hd : 32 < deep) (hd33 : deep ≤ 33) :
    Calls Tryz.prog 49 #[.pointer (some ⟨g, 0, none⟩), .int .i64 (deep : Int)] w (ValPost g A c p (.error 2) w) := by
  obtain ⟨w0, hw0⟩ : ∃ w0, w0 = w.alloc (.cells #[.int .u8 0, .int .i64 0, .int .i64 0, .string ⟨#[]⟩, .slice none 0 0, .slice none 0 0] 28) := ⟨_, rfl⟩
  have hA : Below w.heap.size w w0 := by rw [hw0]; exact (Below.refl _ _).alloc (Nat.le_refl _) _
  have L0 := Aside0.mk (show w0.heap[w.heap.size]? = some (.cells #[.int .u8 0, .int .i64 0, .int .i64 0, .string ⟨#[]⟩, .slice none 0 0, .slice none 0 0] 28 (0, 0)) by rw [hw0]; exact heap_alloc_new w _)
  have F0 := Aside0.mk (Fr.of_below g hA)
  have hgw : g < w.heap.size := h.lt
  have hgne : w.heap.size ≠ g := by omega
  have H := Aside0.mk h
  clear hA h
  go_enter Tryz.func49, Tryz.ntmps49
  go_wp2_with fail
  rw [← hw0]
  clear hw0
  obtain ⟨⟨z0, z1, z2, z3, z4, z5⟩, y0, y1, y2, y3, y4, y5⟩ := six_c L0.out
  refine bodyPost_ret (v := .tuple #[zeroV, .int .i64 2]) (by simp [results, Tryz.results49, go_sem, zeroV, z0, z1, z2, z3, z4, z5]) rfl ⟨F0.out, by decide, rfl⟩
theorem value_of_list (p : List UInt8) (hpl : p.length < 2147483640) (f : Nat) (hL : LC p f) : VC p (f + 1) := by
  intro at_ deep g A c r w hr G hg9 h hdeep
  rw [valueF] at hr
  obtain ⟨q, hq⟩ : ∃ q, skipAt p at_ = q := ⟨_, rfl⟩
  rw [hq] at hr
  by_cases k0 : 32 < deep
  · rw [if_pos k0] at hr
    obtain rfl := Option.some.inj hr
    exact vdeep p at_ deep g A c w hg9 h k0 hdeep
  rw [if_neg k0] at hr
  have hd32 : deep ≤ 32 := by omega
  cases t1 : pre p q [60, 60] with
  | true => rw [if_pos t1] at hr; exact vb1 p hpl f (Aside0.mk hL) at_ deep g A c r w q hr G hg9 h hd32 h.le hq ⟨t1⟩
  | false =>
  rw [if_neg (by simp [t1])] at hr
  cases t2 : pre p q [91] with
  | true => rw [if_pos t2] at hr; exact vb2 p hpl f (Aside0.mk hL) at_ deep g A c r w q hr G hg9 h hd32 h.le hq ⟨t1⟩ ⟨t2⟩
  | false =>
  rw [if_neg (by simp [t2])] at hr
  cases t3 : pre p q [60] with
  | true => rw [if_pos t3] at hr; exact vb3 p hpl f (Aside0.mk hL) at_ deep g A c r w q hr G hg9 h hd32 h.le hq ⟨t1⟩ ⟨t2⟩ ⟨t3⟩
  | false =>
  rw [if_neg (by simp [t3])] at hr
  cases t4 : pre p q [40] with
  | true => rw [if_pos t4] at hr; exact vb4 p hpl f (Aside0.mk hL) at_ deep g A c r w q hr G hg9 h hd32 h.le hq ⟨t1⟩ ⟨t2⟩ ⟨t3⟩ ⟨t4⟩
  | false =>
  rw [if_neg (by simp [t4])] at hr
  cases t5 : pre p q [47] with
  | true => rw [if_pos t5] at hr; exact vb5 p hpl f (Aside0.mk hL) at_ deep g A c r w q hr G hg9 h hd32 h.le hq ⟨t1⟩ ⟨t2⟩ ⟨t3⟩ ⟨t4⟩ ⟨t5⟩
  | false =>
  rw [if_neg (by simp [t5])] at hr
  exact vb6 p hpl f (Aside0.mk hL) at_ deep g A c r w q hr G hg9 h hd32 h.le hq ⟨t1⟩ ⟨t2⟩ ⟨t3⟩ ⟨t4⟩ ⟨t5⟩
end Go.Proofs.YtnckaeehcldheaaGreatDoor.Ob
end

section
set_option linter.unusedVariables false
set_option linter.unusedSimpArgs false
namespace Go.Proofs.YtnckaeehcldheaaGreatDoor.Ob
open Go.RowKit Go.Shelf YtnckaeehcldheaaGreatDoorW.PrintWords
def okK (g B k : Nat) : Prop := k ≠ g ∧ k ≠ B ∧ k ≠ B + 1
def okL (g B : Nat) (kv : Value) (k : Nat) : Prop := okK g B k ∧ some k ≠ kv.ownBlock
structure LB (g : Nat) (A : Option Addr) (c : Nat) (p : List UInt8) (kind : Int) (w wr : World) (at_ : Nat) (xs : List S28) (ks : List ByteArray) (lv kv : Value) : Prop where
  fr : Fr g w wr
  gl : Gl wr
  rd : Rdr wr g A c p at_
  hgw : g < w.heap.size
  blk : wr.heap[w.heap.size]? = some (.cells #[.int .u8 0, .int .i64 0, .int .i64 0, .string ⟨#[]⟩, .slice none 0 0, .slice none 0 0] 28 (0, 0))
  cur : wr.heap[w.heap.size + 1]? = some (.cells #[.int .u8 kind, .int .i64 0, .int .i64 0, .string ⟨#[]⟩, lv, kv] 28 (0, 0))
  rl : k28.R 28 wr w.heap.size (okL g w.heap.size kv) lv xs
  rk : Kd.string.R 9 wr w.heap.size (okK g w.heap.size) kv ks
theorem LB.start {g A c p kind w at_} (h : Rdr w g A c p at_) (G : Gl w) :
    LB g A c p kind w ((w.alloc (.cells #[.int .u8 0, .int .i64 0, .int .i64 0, .string ⟨#[]⟩, .slice none 0 0, .slice none 0 0] 28)).alloc (.cells #[.int .u8 kind, .int .i64 0, .int .i64 0, .string ⟨#[]⟩, .slice none 0 0, .slice none 0 0] 28)) at_ [] [] (.slice none 0 0) (.slice none 0 0) := by
  have hA : Below w.heap.size w ((w.alloc (.cells #[.int .u8 0, .int .i64 0, .int .i64 0, .string ⟨#[]⟩, .slice none 0 0, .slice none 0 0] 28)).alloc (.cells #[.int .u8 kind, .int .i64 0, .int .i64 0, .string ⟨#[]⟩, .slice none 0 0, .slice none 0 0] 28)) :=
    ((Below.refl _ _).alloc (Nat.le_refl _) _).alloc (by rw [World.size_alloc]; omega) _
  exact ⟨Fr.of_below g hA, G.below hA, h.below hA, h.lt, blk_alloc (blk_new _ _) _, by have := blk_new (w.alloc (.cells #[.int .u8 0, .int .i64 0, .int .i64 0, .string ⟨#[]⟩, .slice none 0 0, .slice none 0 0] 28)) (.cells #[.int .u8 kind, .int .i64 0, .int .i64 0, .string ⟨#[]⟩, .slice none 0 0, .slice none 0 0] 28); rwa [World.size_alloc] at this, Kd.R_nil _ _ _ _ _, Kd.R_nil _ _ _ _ _⟩
theorem LB.step {g A c p kind w wr w1 a a' xs ks lv kv} (h : LB g A c p kind w wr a xs ks lv kv) (hg9 : 9 ≤ g) (hF : Fr g wr w1) (hR : Rdr w1 g A c p a') : LB g A c p kind w w1 a' xs ks lv kv where
  fr := h.fr.trans hF
  gl := h.gl.fr hg9 hF
  rd := hR
  hgw := h.hgw
  blk := blk_fr hF (by have := h.hgw; omega) h.blk
  cur := blk_fr hF (by have := h.hgw; omega) h.cur
  rl := Kd.R_step h.rl (fun k hk hlt => hF.block k hlt hk.1.1)
  rk := Kd.R_step h.rk (fun k hk hlt => hF.block k hlt hk.1)
theorem R_base_own {α : Type} {d : Kd α} {e : Nat} {w : World} {base : Nat} {ok : Nat → Prop} {v : Value} {xs : List α} (h : d.R e w base ok v xs) {k : Nat} (hk : v.ownBlock = some k) : ok k ∧ base ≤ k ∧ k < w.heap.size := by
  have := (Kd.R_bound h).1 k hk
  exact ⟨this.1, this.2.1, this.2.2.1⟩
theorem LB.alloc {g A c p kind w wr a xs ks lv kv} (h : LB g A c p kind w wr a xs ks lv kv) (o : Obj) : LB g A c p kind w (wr.alloc o) a xs ks lv kv :=
  have hb : Below wr.heap.size wr (wr.alloc o) := (Below.refl _ _).alloc (Nat.le_refl _) _
  ⟨h.fr.trans (Fr.of_below g hb), h.gl.below hb, h.rd.below hb, h.hgw, blk_alloc h.blk _, blk_alloc h.cur _, Kd.R_below h.rl hb, Kd.R_below h.rk hb⟩
theorem LB.lt {g A c p kind w wr a xs ks lv kv} (h : LB g A c p kind w wr a xs ks lv kv) : w.heap.size + 1 < wr.heap.size := blk_lt h.cur
theorem info28 : (Tryz.prog.info? 28).map (fun i => (i.zero, i.size, i.bytes)) = some (some (.agg #[.int .u8 0, .int .i64 0, .int .i64 0, .string ⟨#[]⟩, .slice none 0 0, .slice none 0 0]), 6, 88) := by kernel_rfl
theorem R_own {e : Nat} {w : World} {base : Nat} {ok : Nat → Prop} {v : Value} {xs : List ByteArray} (h : Kd.string.R e w base ok v xs) : Kd.string.R e w base (fun k => ok k ∧ some k = v.ownBlock) v xs :=
  ⟨fun k hk => ⟨h.1 k hk, hk.symm⟩, h.2⟩
theorem LB.pushed {g A c p kind w W w1 a xs ks lv kv} {v1 : Value} {ys : List S28} (h : LB g A c p kind w W a xs ks lv kv) (hg9 : 9 ≤ g) (hg : W.grownBy w1 lv.ownBlock) (hR : k28.R 28 w1 w.heap.size (okL g w.heap.size kv) v1 ys) (hB : Below w.heap.size W w1) :
    LB g A c p kind w (w1.setCell ⟨w.heap.size + 1, 4, none⟩ v1) a ys ks v1 kv := by
  have hgw := h.hgw
  have hne : ∀ k, ¬ okL g w.heap.size kv k → some k ≠ lv.ownBlock := fun k hk he => hk (R_base_own h.rl he.symm).1
  have n1 : some w.heap.size ≠ lv.ownBlock := hne _ (fun h => h.1.2.1 rfl)
  have n2 : some (w.heap.size + 1) ≠ lv.ownBlock := hne _ (fun h => h.1.2.2 rfl)
  have fr1 : Fr g w w1 := ⟨hB.os.trans h.fr.os, hB.tape.trans h.fr.tape, hB.output.trans h.fr.output, Nat.le_trans h.fr.size hB.size, fun k hk hn => (hB.block k hk).trans (h.fr.block k hk hn)⟩
  exact {
    fr := fr1.set_new (by omega) 4 v1
    gl := h.gl.same (by rw [setCell_size]; exact hB.size) (fun k hk => (Below.heap_setCell w1 _ v1 k (by show k ≠ w.heap.size + 1; omega)).trans (hB.block k (by omega)))
    rd := Rdr.set_far ⟨(hB.block g hgw).trans h.rd.blk, h.rd.le, h.rd.cap, h.rd.rb.same fun ad e hne => hB.block _ (Nat.lt_trans (h.rd.far ad e hne) hgw), h.rd.far⟩ (by omega) (h.rd.ne_new (by omega)) 4 v1
    hgw := hgw
    blk := blk_far (blk_grown h.blk hg n1) (by show w.heap.size ≠ w.heap.size + 1; omega) v1
    cur := blk_put (blk_grown h.cur hg n2) 4 v1 (by simp)
    rl := Kd.R_far hR (fun k hk => hk.1.2.2) v1
    rk := by
      have hs := R_own h.rk
      have := Kd.R_grown hs hg (fun k hk => by
        intro he
        have := (R_base_own h.rl he.symm).1.2
        exact this hk.2)
      exact Kd.R_mono (Kd.R_far this (fun k hk => hk.1.2.2) v1) (fun k hk => hk.1) }
theorem LB.n2 {g A c p kind w W a xs ks lv kv} (h : LB g A c p kind w W a xs ks lv kv) : some (w.heap.size + 1) ≠ lv.ownBlock := fun he => (R_base_own h.rl he.symm).1.1.2.2 rfl
theorem LB.n3 {g A c p kind w W a xs ks lv kv} (h : LB g A c p kind w W a xs ks lv kv) : some (w.heap.size + 1) ≠ kv.ownBlock := fun he => (R_base_own h.rk he.symm).1.2.2 rfl
def okX (g : Nat) (w1 w2 : World) (k : Nat) : Prop := k ≠ g ∧ w1.heap.size ≤ k ∧ k < w2.heap.size
theorem LB.val {g A c p kind w w1 w2 a xs ks lv kv} {x : S28} {v4 v5 : Value} (h : LB g A c p kind w w1 a xs ks lv kv) (h4 : k28.R 28 w2 w1.heap.size (fun k => k ≠ g) v4 x.f4) (h5 : Kd.string.R 9 w2 w1.heap.size (fun k => k ≠ g) v5 x.f5) (o : Obj) :
    k28.M (w2.alloc o) w.heap.size (okX g w1 w2) x [.int .u8 x.f0, .int .i64 x.f1, .int .i64 x.f2, .string x.f3, v4, v5] :=
  have hb : Below w2.heap.size w2 (w2.alloc o) := (Below.refl _ _).alloc (Nat.le_refl _) _
  k28_mkM _ _ _ x (Kd.R_below (Kd.R_lower (Kd.R_mono (Kd.R_bound h4) (fun k hk => ⟨hk.1, hk.2.1, hk.2.2.1⟩)) h.fr.size) hb) (Kd.R_below (Kd.R_lower (Kd.R_mono (Kd.R_bound h5) (fun k hk => ⟨hk.1, hk.2.1, hk.2.2.1⟩)) h.fr.size) hb)
theorem LB.okX {g A c p kind w w1 w2 a xs ks lv kv} (h : LB g A c p kind w w1 a xs ks lv kv) : ∀ k, okX g w1 w2 k → okL g w.heap.size kv k ∧ some k ≠ lv.ownBlock := by
  intro k ⟨h1, h2, h3⟩
  have := h.lt
  refine ⟨⟨⟨h1, by omega, by omega⟩, fun he => ?_⟩, fun he => ?_⟩
  · have := (R_base_own h.rk he.symm).2.2; omega
  · have := (R_base_own h.rl he.symm).2.2; omega
theorem LB.fresh {g A c p kind w W a xs ks lv kv} (h : LB g A c p kind w W a xs ks lv kv) : ∀ k, W.heap.size ≤ k → okL g w.heap.size kv k := by
  intro k hk
  have := h.lt
  have := h.hgw
  refine ⟨⟨by omega, by omega, by omega⟩, fun he => ?_⟩
  have := (R_base_own h.rk he.symm).2.2; omega
theorem LB.keyed {g A c p kind w W w1 a xs ks lv kv} {v1 : Value} {ys : List ByteArray} (h : LB g A c p kind w W a xs ks lv kv) (hg9 : 9 ≤ g) (hg : W.grownBy w1 kv.ownBlock) (hR : Kd.string.R 9 w1 w.heap.size (okK g w.heap.size) v1 ys) (hB : Below w.heap.size W w1) (hat : v1.ownBlock = kv.ownBlock ∨ ∃ b, v1.ownBlock = some b ∧ W.heap.size ≤ b) :
    LB g A c p kind w (w1.setCell ⟨w.heap.size + 1, 5, none⟩ v1) a xs ys lv v1 := by
  have hgw := h.hgw
  have hne : ∀ k, ¬ okK g w.heap.size k → some k ≠ kv.ownBlock := fun k hk he => hk (R_base_own h.rk he.symm).1
  have n1 : some w.heap.size ≠ kv.ownBlock := hne _ (fun h => h.2.1 rfl)
  have n2 : some (w.heap.size + 1) ≠ kv.ownBlock := hne _ (fun h => h.2.2 rfl)
  have fr1 : Fr g w w1 := ⟨hB.os.trans h.fr.os, hB.tape.trans h.fr.tape, hB.output.trans h.fr.output, Nat.le_trans h.fr.size hB.size, fun k hk hn => (hB.block k hk).trans (h.fr.block k hk hn)⟩
  exact {
    fr := fr1.set_new (by omega) 5 v1
    gl := h.gl.same (by rw [setCell_size]; exact hB.size) (fun k hk => (Below.heap_setCell w1 _ v1 k (by show k ≠ w.heap.size + 1; omega)).trans (hB.block k (by omega)))
    rd := Rdr.set_far ⟨(hB.block g hgw).trans h.rd.blk, h.rd.le, h.rd.cap, h.rd.rb.same fun ad e hne => hB.block _ (Nat.lt_trans (h.rd.far ad e hne) hgw), h.rd.far⟩ (by omega) (h.rd.ne_new (by omega)) 5 v1
    hgw := hgw
    blk := blk_far (blk_grown h.blk hg n1) (by show w.heap.size ≠ w.heap.size + 1; omega) v1
    cur := blk_put (blk_grown h.cur hg n2) 5 v1 (by simp)
    rl := by
      have hs := Kd.R_bound (Kd.R_grown h.rl hg (fun k hk => hk.2))
      have hs0 := Kd.R_bound h.rl
      have hs1 := Kd.R_far (Kd.R_grown hs0 hg (fun k hk => hk.1.2)) (p := ⟨w.heap.size + 1, 5, none⟩) (fun k hk => hk.1.1.2.2) v1
      refine Kd.R_mono hs1 (fun k hk => ⟨hk.1.1, ?_⟩)
      rcases hat with hat | ⟨b, hb, hle⟩
      · rw [hat]; exact hk.1.2
      · rw [hb]; intro he; injection he with he; have := hk.2.2.1; omega
    rk := Kd.R_far hR (fun k hk => hk.2.2) v1 }
end Go.Proofs.YtnckaeehcldheaaGreatDoor.Ob
end

section
set_option linter.unusedVariables false
set_option linter.unusedSimpArgs false
namespace Go.Proofs.YtnckaeehcldheaaGreatDoor.Ob
open Go.RowKit Go.Shelf YtnckaeehcldheaaGreatDoorW.PrintWords
set_option maxRecDepth 100000 in
set_option maxHeartbeats 16000000 in
theorem list_arr (p : List UInt8) (hpl : p.length < 2147483640) (f : Nat) (hf : f ≤ 100000000000) (HV : Aside0 (∀ k, k < f → VC p k)) (at_ deep g : Nat) (A : Option Addr) (c : Nat) (fin : ByteArray) (r : PR) (w : World) (hr : listF p f at_ 5 fin.data.toList deep [] [] = some r) (G : Gl w) (hg9 : 9 ≤ g) (h : Rdr w g A c p at_) (hd32 : deep ≤ 32) (hfin : fin.size ≤ 2) :
    Calls Tryz.prog 80 #[.pointer (some ⟨g, 0, none⟩), .int .u8 5, .string fin, .int .i64 (deep : Int)] w (ValPost g A c p r w) := by
  have S0 := Aside0.mk (LB.start (kind := 5) h G)
  have HR := Aside0.mk hr
  have hgw : g < w.heap.size := h.lt
  have hgne : w.heap.size ≠ g := by omega
  have hw1 : IntKind.i64.wrap ((deep : Int) + 1) = (deep : Int) + 1 := IntWalk.i64_in _ (by omega)
  clear h G hr
  go_enter Tryz.func80, Tryz.ntmps80
  go_wp2_with fail
  go_loopg [9] f (fun k s9 wr => s9 = .int .i64 0 ∧ k ≤ f ∧ Aside0 (∃ a xs ks lv kv, (listF p k a 5 fin.data.toList deep xs ks = some r ∧ xs.length + k ≤ f ∧ ks.length ≤ xs.length) ∧ LB g A c p 5 w wr a xs ks lv kv))
  case atStart =>
    exact ⟨rfl, Nat.le_refl _, ⟨_, _, _, _, _, ⟨HR.out, by simp, by simp⟩, S0.out⟩⟩
  case round =>
    obtain ⟨rfl, hkf, hrel⟩ := hrel
    obtain ⟨a, xs, ks, lv, kv, ⟨he, hxl, hkl⟩, hS⟩ := hrel.out
    clear hrel HR S0
    obtain ⟨Al, cl, rfl, -⟩ := hS.rl.2.slice_
    obtain ⟨Ak, ck, rfl, -⟩ := hS.rk.2.slice_
    cases gk with
    | zero => simp [listF] at he
    | succ k =>
    rw [listF] at he
    obtain ⟨q, hq⟩ : ∃ q, skipAt p a = q := ⟨_, rfl⟩
    have HQ := Aside0.mk hq
    have HQQ := Aside0.mk (show skipAt p q = q by rw [← hq]; exact skipAt_idem p a)
    rw [hq] at he
    have S0 := Aside0.mk hS
    have hls : xs.length ≤ 100000000000 := by omega
    have HXL := Aside0.mk hxl
    clear hS hq
    cases t1 : pre p q fin.data.toList with
    | true =>
      rw [if_pos t1] at he
      obtain rfl := Option.some.inj he
      have B1 := Aside0.mk t1
      clear he t1
      go_wp2_with (first | (go_at_call 79; (with_reducible refine (take_yes g A c p a q (q + fin.size) fin _ S0.out.rd (by first | omega | decide) HQ.out B1.out rfl).mono ?_); rintro e w1 ⟨rfl, hR1, hF1⟩; have S1 := Aside0.mk (S0.out.step hg9 hF1 hR1); clear hR1 hF1; obtain ⟨⟨z0, z1, z2, z3, z4, z5⟩, y0, y1, y2, y3, y4, y5⟩ := six_c S1.out.blk; obtain ⟨⟨u0, u1, u2, u3, u4, u5⟩, t0, t1, t2, t3, t4, t5⟩ := six_c S1.out.cur))
      refine ret_put6 (v := .tuple #[.agg #[.int .u8 5, .int .i64 0, .int .i64 0, .string ⟨#[]⟩, .slice Al xs.length cl, .slice Ak ks.length ck], .int .i64 0]) S1.out.blk (fun W2 z0 z1 z2 z3 z4 z5 => by simp [results, Tryz.results80, go_sem, zeroV, z0, z1, z2, z3, z4, z5]) rfl ?_
      exact ⟨put6_fr S1.out.fr (Nat.le_refl _) _ _ _ _ _ _, _, _, rfl, Kd.R_mono (Kd.R_move S1.out.rl (fun k hk => put6_ne hk.1.2.1 _ _ _ _ _ _)) (fun k hk => hk.1.1), Kd.R_mono (Kd.R_move S1.out.rk (fun k hk => put6_ne hk.2.1 _ _ _ _ _ _)) (fun k hk => hk.1), put6_rdr S1.out.rd hgne (S1.out.rd.ne_new hgw) _ _ _ _ _ _⟩
    | false =>
      rw [if_neg (by simp [t1])] at he
      have B1 := Aside0.mk t1
      clear t1
      rw [if_neg (by decide)] at he
      cases hv : valueF p k q (deep + 1) with
      | none => rw [hv] at he; exact absurd he (by simp)
      | some x =>
      rw [hv] at he
      have HVV := Aside0.mk (fun W G R => HV.out k (by omega) q (deep + 1) g A c x W hv G hg9 R (by omega))
      rw [show ((deep + 1 : Nat) : Int) = (deep : Int) + 1 by omega] at HVV
      clear hv HV
      cases x with
      | error er =>
        obtain rfl := Option.some.inj he
        clear he
        go_wp2_with (first | (go_at_call 79; (with_reducible refine (take_no g A c p a q fin _ S0.out.rd (by first | omega | decide) HQ.out B1.out).mono ?_); rintro e w1 ⟨rfl, hR1, hF1⟩; have S1 := Aside0.mk (S0.out.step hg9 hF1 hR1); clear hR1 hF1) | (go_at_call 49; refine (HVV.out _ S1.out.gl S1.out.rd).mono ?_; rintro e w2 ⟨hF2, her, rfl⟩; have HER := Aside0.mk her; have e1 : (er == 0) = false := (by simp [her]); have e1' : (er != 0) = true := (by simp [her]); clear her; unfold zeroV; have F2 := Aside0.mk (S1.out.fr.trans hF2); have L2 := Aside0.mk (blk_fr hF2 (by omega) S1.out.blk); clear hF2; have L3 := Aside0.mk (blk_alloc L2.out (.cells #[.int .u8 0, .int .i64 0, .int .i64 0, .string ⟨#[]⟩, .slice none 0 0, .slice none 0 0] 28)); obtain ⟨⟨z0, z1, z2, z3, z4, z5⟩, y0, y1, y2, y3, y4, y5⟩ := six_c L3.out))
        refine ret_put6 (v := .tuple #[zeroV, .int .i64 er]) L3.out (fun W2 z0 z1 z2 z3 z4 z5 => by simp [results, Tryz.results80, go_sem, zeroV, z0, z1, z2, z3, z4, z5]) rfl ?_
        exact ⟨put6_fr (F2.out.trans (Fr.of_below g ((Below.refl _ _).alloc (Nat.le_refl _) _))) (Nat.le_refl _) _ _ _ _ _ _, HER.out, rfl⟩
      | ok x =>
        obtain ⟨x, q2⟩ := x
        have he2 := Aside0.mk he
        clear he
        go_wp2_with (first | (go_at_call 79; (with_reducible refine (take_no g A c p a q fin _ S0.out.rd (by first | omega | decide) HQ.out B1.out).mono ?_); rintro e w1 ⟨rfl, hR1, hF1⟩; have S1 := Aside0.mk (S0.out.step hg9 hF1 hR1); clear hR1 hF1) | (go_at_call 49; refine (HVV.out _ S1.out.gl S1.out.rd).mono ?_; rintro e w2 ⟨hF2, v4, v5, rfl, hv4, hv5, hR2⟩; have HV4 := Aside0.mk hv4; have HV5 := Aside0.mk hv5; obtain ⟨A4, c4, rfl, hl4⟩ := hv4.2.slice_; obtain ⟨A5, c5, rfl, hl5⟩ := hv5.2.slice_; clear hv4 hv5 hl4 hl5; have S2 := Aside0.mk (S1.out.step hg9 hF2 hR2); clear hR2 hF2; have SX := Aside0.mk (S2.out.alloc (.cells #[.int .u8 x.f0, .int .i64 x.f1, .int .i64 x.f2, .string x.f3, .slice A4 x.f4.length c4, .slice A5 x.f5.length c5] 28)); obtain ⟨⟨z0, z1, z2, z3, z4, z5⟩, y0, y1, y2, y3, y4, y5⟩ := six_c (blk_new w2 (.cells #[.int .u8 x.f0, .int .i64 x.f1, .int .i64 x.f2, .string x.f3, .slice A4 x.f4.length c4, .slice A5 x.f5.length c5] 28)); obtain ⟨⟨u0, u1, u2, u3, u4, u5⟩, t0, t1, t2, t3, t4, t5⟩ := six_c SX.out.cur; have HXM := Aside0.mk (S1.out.val HV4.out HV5.out (.cells #[.int .u8 x.f0, .int .i64 x.f1, .int .i64 x.f2, .string x.f3, .slice A4 x.f4.length c4, .slice A5 x.f5.length c5] 28))) | (at_builtin; refine Kd.R_append k28 (w0 := w2.alloc (.cells #[.int .u8 x.f0, .int .i64 x.f1, .int .i64 x.f2, .string x.f3, .slice A4 x.f4.length c4, .slice A5 x.f5.length c5] 28)) w.heap.size rfl (.tmp 54) (.tmp 56) 25 28 (.agg #[.int .u8 0, .int .i64 0, .int .i64 0, .string ⟨#[]⟩, .slice none 0 0, .slice none 0 0]) 88 rfl Tryz.underlying25 info28 rfl (by decide) (by decide) _ xs x [.int .u8 x.f0, .int .i64 x.f1, .int .i64 x.f2, .string x.f3, .slice A4 x.f4.length c4, .slice A5 x.f5.length c5] (okL g w.heap.size (.slice Ak ks.length ck)) (okX g w1 w2) rfl (by rw [World.size_alloc]; rfl) HXM.out S1.out.okX SX.out.fresh SX.out.rl (Below.refl _ _) SX.out.fr.size (by omega) ?_; intro v1 w3 hR3 hB3 hG3 hat3; obtain ⟨A1, c1, rfl, -⟩ := hR3.2.slice_; simp only [List.length_append, List.length_singleton] at hR3; have RR := Aside0.mk hR3; have HB := Aside0.mk hB3; have HG := Aside0.mk hG3; have HC3 := blk_grown SX.out.cur hG3 (LB.n2 SX.out); obtain ⟨⟨s0, s1, s2, s3, s4, s5⟩, r0, r1, r2, r3, r4, r5⟩ := six_c HC3; clear hR3 hB3 hG3 hat3 HC3))
        go_roundg k
        case measure => omega
        case rel => exact ⟨rfl, by omega, ⟨_, _, _, _, _, ⟨he2.out, by rw [List.length_append, List.length_singleton]; have := HXL.out; omega, by rw [List.length_append, List.length_singleton]; omega⟩, LB.pushed SX.out hg9 HG.out RR.out HB.out⟩⟩
end Go.Proofs.YtnckaeehcldheaaGreatDoor.Ob
end

section
set_option linter.unusedVariables false
set_option linter.unusedSimpArgs false
namespace Go.Proofs.YtnckaeehcldheaaGreatDoor.Ob
open Go.RowKit Go.Shelf YtnckaeehcldheaaGreatDoorW.PrintWords
set_option maxRecDepth 100000 in
set_option maxHeartbeats 16000000 in
theorem list_dict (p : List UInt8) (hpl : p.length < 2147483640) (f : Nat) (hf : f ≤ 100000000000) (HV : Aside0 (∀ k, k < f → VC p k)) (at_ deep g : Nat) (A : Option Addr) (c : Nat) (fin : ByteArray) (r : PR) (w : World) (hr : listF p f at_ 6 fin.data.toList deep [] [] = some r) (G : Gl w) (hg9 : 9 ≤ g) (h : Rdr w g A c p at_) (hd32 : deep ≤ 32) (hfin : fin.size ≤ 2) :
    Calls Tryz.prog 80 #[.pointer (some ⟨g, 0, none⟩), .int .u8 6, .string fin, .int .i64 (deep : Int)] w (ValPost g A c p r w) := by
  have S0 := Aside0.mk (LB.start (kind := 6) h G)
  have HR := Aside0.mk hr
  have hgw : g < w.heap.size := h.lt
  have hgne : w.heap.size ≠ g := by omega
  have hw1 : IntKind.i64.wrap ((deep : Int) + 1) = (deep : Int) + 1 := IntWalk.i64_in _ (by omega)
  clear h G hr
  go_enter Tryz.func80, Tryz.ntmps80
  go_wp2_with fail
  go_loopg [9] f (fun k s9 wr => s9 = .int .i64 0 ∧ k ≤ f ∧ Aside0 (∃ a xs ks lv kv, (listF p k a 6 fin.data.toList deep xs ks = some r ∧ xs.length + k ≤ f ∧ ks.length ≤ xs.length) ∧ LB g A c p 6 w wr a xs ks lv kv))
  case atStart =>
    exact ⟨rfl, Nat.le_refl _, ⟨_, _, _, _, _, ⟨HR.out, by simp, by simp⟩, S0.out⟩⟩
  case round =>
    obtain ⟨rfl, hkf, hrel⟩ := hrel
    obtain ⟨a, xs, ks, lv, kv, ⟨he, hxl, hkl⟩, hS⟩ := hrel.out
    clear hrel HR S0
    obtain ⟨Al, cl, rfl, -⟩ := hS.rl.2.slice_
    obtain ⟨Ak, ck, rfl, -⟩ := hS.rk.2.slice_
    cases gk with
    | zero => simp [listF] at he
    | succ k =>
    rw [listF] at he
    obtain ⟨q, hq⟩ : ∃ q, skipAt p a = q := ⟨_, rfl⟩
    have HQ := Aside0.mk hq
    have HQQ := Aside0.mk (show skipAt p q = q by rw [← hq]; exact skipAt_idem p a)
    rw [hq] at he
    have S0 := Aside0.mk hS
    have hls : xs.length ≤ 100000000000 := by omega
    have HXL := Aside0.mk hxl
    clear hS hq
    cases t1 : pre p q fin.data.toList with
    | true =>
      rw [if_pos t1] at he
      obtain rfl := Option.some.inj he
      have B1 := Aside0.mk t1
      clear he t1
      go_wp2_with (first | (go_at_call 79; (with_reducible refine (take_yes g A c p a q (q + fin.size) fin _ S0.out.rd (by first | omega | decide) HQ.out B1.out rfl).mono ?_); rintro e w1 ⟨rfl, hR1, hF1⟩; have S1 := Aside0.mk (S0.out.step hg9 hF1 hR1); clear hR1 hF1; obtain ⟨⟨z0, z1, z2, z3, z4, z5⟩, y0, y1, y2, y3, y4, y5⟩ := six_c S1.out.blk; obtain ⟨⟨u0, u1, u2, u3, u4, u5⟩, t0, t1, t2, t3, t4, t5⟩ := six_c S1.out.cur))
      refine ret_put6 (v := .tuple #[.agg #[.int .u8 6, .int .i64 0, .int .i64 0, .string ⟨#[]⟩, .slice Al xs.length cl, .slice Ak ks.length ck], .int .i64 0]) S1.out.blk (fun W2 z0 z1 z2 z3 z4 z5 => by simp [results, Tryz.results80, go_sem, zeroV, z0, z1, z2, z3, z4, z5]) rfl ?_
      exact ⟨put6_fr S1.out.fr (Nat.le_refl _) _ _ _ _ _ _, _, _, rfl, Kd.R_mono (Kd.R_move S1.out.rl (fun k hk => put6_ne hk.1.2.1 _ _ _ _ _ _)) (fun k hk => hk.1.1), Kd.R_mono (Kd.R_move S1.out.rk (fun k hk => put6_ne hk.2.1 _ _ _ _ _ _)) (fun k hk => hk.1), put6_rdr S1.out.rd hgne (S1.out.rd.ne_new hgw) _ _ _ _ _ _⟩
    | false =>
      rw [if_neg (by simp [t1])] at he
      have B1 := Aside0.mk t1
      clear t1
      rw [if_pos rfl] at he
      cases t2 : pre p q [47] with
      | false =>
        rw [if_neg (by simp [t2])] at he
        obtain rfl := Option.some.inj he
        have B2 := Aside0.mk t2
        clear he t2 HV
        go_wp2_with (first | (go_at_call 79; (with_reducible refine (take_no g A c p a q fin _ S0.out.rd (by first | omega | decide) HQ.out B1.out).mono ?_); rintro e w1 ⟨rfl, hR1, hF1⟩; have S1 := Aside0.mk (S0.out.step hg9 hF1 hR1); clear hR1 hF1) | (go_at_call 79; (with_reducible refine (take_no g A c p q q ⟨#[47]⟩ _ S1.out.rd (by first | omega | decide) HQQ.out B2.out).mono ?_); rintro e w2 ⟨rfl, hR2, hF2⟩; have S2 := Aside0.mk (S1.out.step hg9 hF2 hR2); clear hR2 hF2; obtain ⟨⟨z0, z1, z2, z3, z4, z5⟩, y0, y1, y2, y3, y4, y5⟩ := six_c S2.out.blk; obtain ⟨⟨u0, u1, u2, u3, u4, u5⟩, t0, t1, t2, t3, t4, t5⟩ := six_c S2.out.cur))
        refine ret_put6 (v := .tuple #[zeroV, .int .i64 2]) S2.out.blk (fun W2 z0 z1 z2 z3 z4 z5 => by simp [results, Tryz.results80, go_sem, zeroV, z0, z1, z2, z3, z4, z5]) rfl ?_
        exact ⟨put6_fr S2.out.fr (Nat.le_refl _) _ _ _ _ _ _, by decide, rfl⟩
      | true =>
        rw [if_pos t2] at he
        have B2 := Aside0.mk t2
        clear t2
        dsimp only at he
        obtain ⟨s, hs⟩ : ∃ s, s = ofL (wordL (p.drop (q + 1))) := ⟨_, rfl⟩
        obtain ⟨a1, ha1⟩ : ∃ a1, q + 1 + (wordL (p.drop (q + 1))).length = a1 := ⟨_, rfl⟩
        obtain ⟨t, ht⟩ : ∃ t, t = ofL (nameS s.data.toList).1 := ⟨_, rfl⟩
        obtain ⟨er, her⟩ : ∃ v, (nameS s.data.toList).2 = v := ⟨_, rfl⟩
        have HN := Aside0.mk (fun W R => name_ok g A c p (q + 1) a1 s t er W R (by omega) hs ha1 (by rw [ht, ofL_list, ← her]))
        simp only [ha1] at he
        rw [show nameS (wordL (p.drop (q + 1))) = nameS s.data.toList by rw [hs, ofL_list], ← ht, her] at he
        clear hs ha1 ht her
        by_cases k1 : er = 0
        · have e1 : (er == 0) = true := by simp [k1]
          have e1' : (er != 0) = false := by simp [k1]
          rw [if_pos k1] at he
          have HN2 := Aside0.mk (fun W R => by have := HN.out W R; rw [if_pos k1] at this; exact this)
          clear k1 HN
          cases hv : valueF p k a1 (deep + 1) with
          | none => rw [hv] at he; exact absurd he (by simp)
          | some x =>
          rw [hv] at he
          have HVV := Aside0.mk (fun W G R => HV.out k (by omega) a1 (deep + 1) g A c x W hv G hg9 R (by omega))
          rw [show ((deep + 1 : Nat) : Int) = (deep : Int) + 1 by omega] at HVV
          clear hv HV
          cases x with
          | error er2 =>
            obtain rfl := Option.some.inj he
            clear he
            go_wp2_with (first | (go_at_call 79; (with_reducible refine (take_no g A c p a q fin _ S0.out.rd (by first | omega | decide) HQ.out B1.out).mono ?_); rintro e w1 ⟨rfl, hR1, hF1⟩; have S1 := Aside0.mk (S0.out.step hg9 hF1 hR1); clear hR1 hF1) | (go_at_call 79; (with_reducible refine (take_yes g A c p q q (q + 1) ⟨#[47]⟩ _ S1.out.rd (by first | omega | decide) HQQ.out B2.out rfl).mono ?_); rintro e w2 ⟨rfl, hR2, hF2⟩; have S2 := Aside0.mk (S1.out.step hg9 hF2 hR2); clear hR2 hF2) | (go_at_call 83; refine (HN2.out _ S2.out.rd).mono ?_; rintro e w3 ⟨rfl, hR3, hF3⟩; have S3 := Aside0.mk (S2.out.step hg9 hF3 hR3); clear hR3 hF3; obtain ⟨⟨u0, u1, u2, u3, u4, u5⟩, t0, t1, t2, t3, t4, t5⟩ := six_c S3.out.cur) | (at_builtin; refine Kd.R_append Kd.string (w0 := w3) w.heap.size rfl (.tmp 37) (.tmp 39) 26 9 (.string ⟨#[]⟩) 16 rfl Tryz.underlying26 info9 rfl (by decide) (by decide) (.slice Ak ks.length ck) ks t [.string t] (okK g w.heap.size) (fun _ => False) rfl rfl rfl (fun _ h => h.elim) (fun k hk => (S3.out.fresh k hk).1) S3.out.rk (Below.refl _ _) S3.out.fr.size (by omega) ?_; intro v1 w4 hR4 hB4 hG4 hat4; obtain ⟨A1, c1, rfl, -⟩ := hR4.2.slice_; simp only [List.length_append, List.length_singleton] at hR4; have hat5 := Aside0.mk hat4; clear hat4; have HC4 := blk_grown S3.out.cur hG4 (LB.n3 S3.out); obtain ⟨⟨u0, u1, u2, u3, u4, u5⟩, t0, t1, t2, t3, t4, t5⟩ := six_c HC4; have S4 := Aside0.mk (LB.keyed S3.out hg9 hG4 hR4 hB4 (by have := hat5.out; simpa only [List.length_append, List.length_singleton] using this)); clear hR4 hB4 hG4 HC4 hat5) | (go_at_call 49; refine (HVV.out _ S4.out.gl S4.out.rd).mono ?_; rintro e w5 ⟨hF5, her, rfl⟩; have HER := Aside0.mk her; have q1 : (er2 == 0) = false := (by simp [her]); have q1' : (er2 != 0) = true := (by simp [her]); clear her; unfold zeroV; have F5 := Aside0.mk (S4.out.fr.trans hF5); have L5 := Aside0.mk (blk_fr hF5 (by omega) S4.out.blk); clear hF5; have L9 := Aside0.mk (blk_alloc L5.out (.cells #[.int .u8 0, .int .i64 0, .int .i64 0, .string ⟨#[]⟩, .slice none 0 0, .slice none 0 0] 28)); obtain ⟨⟨z0, z1, z2, z3, z4, z5⟩, y0, y1, y2, y3, y4, y5⟩ := six_c L9.out))
            refine ret_put6 (v := .tuple #[zeroV, .int .i64 er2]) L9.out (fun W2 z0 z1 z2 z3 z4 z5 => by simp [results, Tryz.results80, go_sem, zeroV, z0, z1, z2, z3, z4, z5]) rfl ?_
            exact ⟨put6_fr (F5.out.trans (Fr.of_below g ((Below.refl _ _).alloc (Nat.le_refl _) _))) (Nat.le_refl _) _ _ _ _ _ _, HER.out, rfl⟩
          | ok x =>
            obtain ⟨x, q2⟩ := x
            have he2 := Aside0.mk he
            clear he
            go_wp2_with (first | (go_at_call 79; (with_reducible refine (take_no g A c p a q fin _ S0.out.rd (by first | omega | decide) HQ.out B1.out).mono ?_); rintro e w1 ⟨rfl, hR1, hF1⟩; have S1 := Aside0.mk (S0.out.step hg9 hF1 hR1); clear hR1 hF1) | (go_at_call 79; (with_reducible refine (take_yes g A c p q q (q + 1) ⟨#[47]⟩ _ S1.out.rd (by first | omega | decide) HQQ.out B2.out rfl).mono ?_); rintro e w2 ⟨rfl, hR2, hF2⟩; have S2 := Aside0.mk (S1.out.step hg9 hF2 hR2); clear hR2 hF2) | (go_at_call 83; refine (HN2.out _ S2.out.rd).mono ?_; rintro e w3 ⟨rfl, hR3, hF3⟩; have S3 := Aside0.mk (S2.out.step hg9 hF3 hR3); clear hR3 hF3; obtain ⟨⟨u0, u1, u2, u3, u4, u5⟩, t0, t1, t2, t3, t4, t5⟩ := six_c S3.out.cur) | (at_builtin; refine Kd.R_append Kd.string (w0 := w3) w.heap.size rfl (.tmp 37) (.tmp 39) 26 9 (.string ⟨#[]⟩) 16 rfl Tryz.underlying26 info9 rfl (by decide) (by decide) (.slice Ak ks.length ck) ks t [.string t] (okK g w.heap.size) (fun _ => False) rfl rfl rfl (fun _ h => h.elim) (fun k hk => (S3.out.fresh k hk).1) S3.out.rk (Below.refl _ _) S3.out.fr.size (by omega) ?_; intro v1 w4 hR4 hB4 hG4 hat4; obtain ⟨A1, c1, rfl, -⟩ := hR4.2.slice_; simp only [List.length_append, List.length_singleton] at hR4; have hat5 := Aside0.mk hat4; clear hat4; have HC4 := blk_grown S3.out.cur hG4 (LB.n3 S3.out); obtain ⟨⟨u0, u1, u2, u3, u4, u5⟩, t0, t1, t2, t3, t4, t5⟩ := six_c HC4; have S4 := Aside0.mk (LB.keyed S3.out hg9 hG4 hR4 hB4 (by have := hat5.out; simpa only [List.length_append, List.length_singleton] using this)); clear hR4 hB4 hG4 HC4 hat5) | (go_at_call 49; refine (HVV.out _ S4.out.gl S4.out.rd).mono ?_; rintro e w5 ⟨hF5, v4, v5, rfl, hv4, hv5, hR5⟩; have HV4 := Aside0.mk hv4; have HV5 := Aside0.mk hv5; obtain ⟨A4, c4, rfl, hl4⟩ := hv4.2.slice_; obtain ⟨A5, c5, rfl, hl5⟩ := hv5.2.slice_; clear hv4 hv5 hl4 hl5; have S5 := Aside0.mk (S4.out.step hg9 hF5 hR5); clear hR5 hF5; have SX := Aside0.mk (S5.out.alloc (.cells #[.int .u8 x.f0, .int .i64 x.f1, .int .i64 x.f2, .string x.f3, .slice A4 x.f4.length c4, .slice A5 x.f5.length c5] 28)); obtain ⟨⟨z0, z1, z2, z3, z4, z5⟩, y0, y1, y2, y3, y4, y5⟩ := six_c (blk_new w5 (.cells #[.int .u8 x.f0, .int .i64 x.f1, .int .i64 x.f2, .string x.f3, .slice A4 x.f4.length c4, .slice A5 x.f5.length c5] 28)); obtain ⟨⟨u0, u1, u2, u3, u4, u5⟩, t0, t1, t2, t3, t4, t5⟩ := six_c SX.out.cur; have HXM := Aside0.mk (S4.out.val HV4.out HV5.out (.cells #[.int .u8 x.f0, .int .i64 x.f1, .int .i64 x.f2, .string x.f3, .slice A4 x.f4.length c4, .slice A5 x.f5.length c5] 28)); have HOX := Aside0.mk (S4.out.okX (w2 := w5))) | (at_builtin; refine Kd.R_append k28 (w0 := w5.alloc (.cells #[.int .u8 x.f0, .int .i64 x.f1, .int .i64 x.f2, .string x.f3, .slice A4 x.f4.length c4, .slice A5 x.f5.length c5] 28)) w.heap.size rfl (.tmp 54) (.tmp 56) 25 28 (.agg #[.int .u8 0, .int .i64 0, .int .i64 0, .string ⟨#[]⟩, .slice none 0 0, .slice none 0 0]) 88 rfl Tryz.underlying25 info28 rfl (by decide) (by decide) _ xs x [.int .u8 x.f0, .int .i64 x.f1, .int .i64 x.f2, .string x.f3, .slice A4 x.f4.length c4, .slice A5 x.f5.length c5] (okL g w.heap.size (.slice A1 (ks.length + 1) c1)) (okX g _ w5) rfl (by rw [World.size_alloc]; rfl) HXM.out HOX.out SX.out.fresh SX.out.rl (Below.refl _ _) SX.out.fr.size (by omega) ?_; intro v1 w6 hR6 hB6 hG6 hat6; obtain ⟨A2, c2, rfl, -⟩ := hR6.2.slice_; simp only [List.length_append, List.length_singleton] at hR6; have RR := Aside0.mk hR6; have HB := Aside0.mk hB6; have HG := Aside0.mk hG6; have HC6 := blk_grown SX.out.cur hG6 (LB.n2 SX.out); obtain ⟨⟨s0, s1, s2, s3, s4, s5⟩, r0, r1, r2, r3, r4, r5⟩ := six_c HC6; clear hR6 hB6 hG6 hat6 HC6))
            go_roundg k
            case measure => omega
            case rel => exact ⟨rfl, by omega, ⟨_, _, _, _, _, ⟨he2.out, by rw [List.length_append, List.length_singleton]; have := HXL.out; omega, by rw [List.length_append, List.length_append, List.length_singleton, List.length_singleton]; omega⟩, LB.pushed SX.out hg9 HG.out RR.out HB.out⟩⟩
        · have e1 : (er == 0) = false := by simp [k1]
          have e1' : (er != 0) = true := by simp [k1]
          rw [if_neg k1] at he
          obtain rfl := Option.some.inj he
          have HN2 := Aside0.mk (fun W R => by have := HN.out W R; rw [if_neg k1] at this; exact this)
          have HK := Aside0.mk k1
          clear he k1 HN HV
          go_wp2_with (first | (go_at_call 79; (with_reducible refine (take_no g A c p a q fin _ S0.out.rd (by first | omega | decide) HQ.out B1.out).mono ?_); rintro e w1 ⟨rfl, hR1, hF1⟩; have S1 := Aside0.mk (S0.out.step hg9 hF1 hR1); clear hR1 hF1) | (go_at_call 79; (with_reducible refine (take_yes g A c p q q (q + 1) ⟨#[47]⟩ _ S1.out.rd (by first | omega | decide) HQQ.out B2.out rfl).mono ?_); rintro e w2 ⟨rfl, hR2, hF2⟩; have S2 := Aside0.mk (S1.out.step hg9 hF2 hR2); clear hR2 hF2) | (go_at_call 83; refine (HN2.out _ S2.out.rd).mono ?_; rintro e w3 ⟨rfl, hR3, hF3⟩; have S3 := Aside0.mk (S2.out.step hg9 hF3 hR3); clear hR3 hF3; obtain ⟨⟨z0, z1, z2, z3, z4, z5⟩, y0, y1, y2, y3, y4, y5⟩ := six_c S3.out.blk))
          refine ret_put6 (v := .tuple #[zeroV, .int .i64 er]) S3.out.blk (fun W2 z0 z1 z2 z3 z4 z5 => by simp [results, Tryz.results80, go_sem, zeroV, z0, z1, z2, z3, z4, z5]) rfl ?_
          exact ⟨put6_fr S3.out.fr (Nat.le_refl _) _ _ _ _ _ _, HK.out, rfl⟩
end Go.Proofs.YtnckaeehcldheaaGreatDoor.Ob
end

section
set_option linter.unusedVariables false
set_option linter.unusedSimpArgs false
namespace Go.Proofs.YtnckaeehcldheaaGreatDoor.Ob
open Go.RowKit Go.Shelf YtnckaeehcldheaaGreatDoorW.PrintWords
theorem list_of_value (p : List UInt8) (hpl : p.length < 2147483640) (f : Nat) (hf : f ≤ 100000000000) (hV : ∀ k, k < f → VC p k) : LC p f := by
  intro at_ deep g A c kind fin r w hr G hg9 h hd hk hfin
  rcases hk with rfl | rfl
  · exact list_arr p hpl f hf ⟨hV⟩ at_ deep g A c fin r w hr G hg9 h hd hfin
  · exact list_dict p hpl f hf ⟨hV⟩ at_ deep g A c fin r w hr G hg9 h hd hfin
theorem VC_all (p : List UInt8) (hpl : p.length < 2147483640) : ∀ f, f ≤ 100000000000 → VC p f := by
  intro f
  induction f using Nat.strongRecOn with
  | _ f ih =>
    intro hf
    cases f with
    | zero => intro at_ deep g A c r w hr; simp [valueF] at hr
    | succ f => exact value_of_list p hpl f (list_of_value p hpl f (by omega) (fun k hk => ih k (by omega) (by omega)))
theorem le_skipAt (p : List UInt8) (a : Nat) : a ≤ skipAt p a := by unfold skipAt; omega
theorem word_end_le (p : List UInt8) (a : Nat) (h : a ≤ p.length) : a + (wordL (p.drop a)).length ≤ p.length := by
  have := wordL_le (p.drop a)
  rw [List.length_drop] at this
  omega
theorem pre_le {p : List UInt8} {q : Nat} {s : List UInt8} (h : pre p q s = true) (hs : s ≠ []) : q + s.length ≤ p.length := by
  unfold pre Lib.hasPrefix at h
  have h1 := (List.isPrefixOf_iff_prefix.1 h).length_le
  rw [List.length_drop] at h1
  have := List.length_pos_iff.2 hs
  omega
theorem numL_nil : (numL []).2 ≠ 0 := by decide
theorem wordS_far {p : List UInt8} {q : Nat} (hq : q ≤ p.length) (h : (wordS p q).1 = 0) : q < (wordS p q).2.at_ ∧ (wordS p q).2.at_ ≤ p.length := by
  have hw := word_end_le p q hq
  unfold wordS at *
  dsimp only at *
  obtain ⟨s, hs⟩ : ∃ s, wordL (p.drop q) = s := ⟨_, rfl⟩
  rw [hs] at h hw ⊢
  split
  · next e => subst e; exact ⟨by simp [nullL], hw⟩
  split
  · next e => subst e; exact ⟨by simp [trueL], hw⟩
  split
  · next e => subst e; exact ⟨by simp [falseL], hw⟩
  split
  · next e0 e1 e2 e =>
    have hne : s ≠ [] := by rintro rfl; exact numL_nil e
    have := List.length_pos_iff.2 hne
    unfold refS
    dsimp only
    have h1 := le_skipAt p (q + s.length)
    have h1' := skipAt_le hw
    have h2 := word_end_le p _ h1'
    have h3 := le_skipAt p (skipAt p (q + s.length) + (wordL (p.drop (skipAt p (q + s.length)))).length)
    have h3' := skipAt_le h2
    have h4 := word_end_le p _ h3'
    split
    · exact ⟨by show q < _ + _; omega, h4⟩
    · exact ⟨by show q < q + s.length; omega, hw⟩
  · next e0 e1 e2 e => simp only [e0, e1, e2, e, if_false] at h
theorem textS_far {p : List UInt8} {q : Nat} {t : List UInt8} {k : Nat} (hq : q ≤ p.length) (h : textS p q = some (t, k)) : q < k ∧ k ≤ p.length := by
  unfold textS at h
  dsimp only at h
  have hl := indexByte_lt (p.drop q) 62
  rw [List.length_drop] at hl
  split at h
  · cases h
  · next hv =>
    obtain ⟨u, -, hu⟩ := Option.map_eq_some_iff.1 h
    injection hu with _ hu
    omega
theorem ofRef_far {p : List UInt8} {q : Nat} {x : S28} {k : Nat} (hq : q ≤ p.length) (h : ofRef (wordS p q) = .ok (x, k)) : q < k ∧ k ≤ p.length := by
  unfold ofRef at h
  split at h
  · next e => injection h with h; injection h with _ h; rw [← h]; exact wordS_far hq e
  · cases h
theorem ofName_far {p : List UInt8} {q : Nat} {x : S28} {k : Nat} (hq : q ≤ p.length) (h : ofName p q = .ok (x, k)) : q ≤ k ∧ k ≤ p.length := by
  unfold ofName at h
  dsimp only at h
  split at h
  · injection h with h; injection h with _ h; have := word_end_le p q hq; omega
  · cases h
theorem ofText_far {p : List UInt8} {q : Nat} {x : S28} {k : Nat} (hq : q ≤ p.length) (h : ofText (textS p q) = .ok (x, k)) : q < k ∧ k ≤ p.length := by
  cases ht : textS p q with
  | none => rw [ht] at h; cases h
  | some tk =>
    obtain ⟨t, j⟩ := tk
    rw [ht] at h
    injection h with h
    injection h with _ h
    have := textS_far hq ht
    omega
def Fine (p : List UInt8) (at_ : Nat) (o : Option PR) : Prop := ∃ r, o = some r ∧ ∀ x k, r = .ok (x, k) → at_ < k ∧ k ≤ p.length
theorem Fine.mk' {p : List UInt8} {at_ : Nat} {r : PR} (h : ∀ x k, r = .ok (x, k) → at_ < k ∧ k ≤ p.length) : Fine p at_ (some r) := ⟨r, rfl, h⟩
theorem Fine.up {p : List UInt8} {a b : Nat} {o : Option PR} (h : Fine p b o) (hab : a ≤ b) : Fine p a o := by
  obtain ⟨r, e, hr⟩ := h
  exact ⟨r, e, fun x k hk => by have := hr x k hk; omega⟩
theorem fine_all (p : List UInt8) : ∀ f, (∀ at_ deep, at_ ≤ p.length → 2 * (p.length - at_) + 1 ≤ f → Fine p at_ (valueF p f at_ deep)) ∧ (∀ at_ kind fin deep xs ks, fin ≠ [] → at_ ≤ p.length → 2 * (p.length - at_) + 2 ≤ f → Fine p at_ (listF p f at_ kind fin deep xs ks)) := by
  intro f
  induction f with
  | zero => exact ⟨fun _ _ _ h => by omega, fun _ _ _ _ _ _ _ _ h => by omega⟩
  | succ f ih =>
    obtain ⟨ihv, ihl⟩ := ih
    refine ⟨?_, ?_⟩
    · intro at_ deep hat hf
      rw [valueF]
      obtain ⟨q, hq⟩ : ∃ q, skipAt p at_ = q := ⟨_, rfl⟩
      have hq1 : at_ ≤ q := by rw [← hq]; exact le_skipAt p at_
      have hq2 : q ≤ p.length := by rw [← hq]; exact skipAt_le hat
      rw [hq]
      split
      · exact Fine.mk' (fun _ _ h => by cases h)
      split
      · next h => have := pre_le h (by simp); simp at this; exact (ihl (q + 2) 6 _ deep _ _ (by simp) (by omega) (by omega)).up (by omega)
      split
      · next h => have := pre_le h (by simp); simp at this; exact (ihl (q + 1) 5 _ deep _ _ (by simp) (by omega) (by omega)).up (by omega)
      split
      · next h => have := pre_le h (by simp); simp at this; exact Fine.mk' (fun x k hk => by have := ofText_far (by omega) hk; omega)
      split
      · exact Fine.mk' (fun _ _ h => by cases h)
      split
      · next h => have := pre_le h (by simp); simp at this; exact Fine.mk' (fun x k hk => by have := ofName_far (by omega) hk; omega)
      · exact Fine.mk' (fun x k hk => by have := ofRef_far hq2 hk; omega)
    · intro at_ kind fin deep xs ks hfin hat hf
      rw [listF]
      obtain ⟨q, hq⟩ : ∃ q, skipAt p at_ = q := ⟨_, rfl⟩
      have hq1 : at_ ≤ q := by rw [← hq]; exact le_skipAt p at_
      have hq2 : q ≤ p.length := by rw [← hq]; exact skipAt_le hat
      rw [hq]
      dsimp only
      have hfl := List.length_pos_iff.2 hfin
      have key : ∀ a (ys : List S28) (js : List ByteArray), q ≤ a → a ≤ p.length → Fine p at_ (match valueF p f a (deep + 1) with
          | none => none
          | some (.error e) => some (.error e)
          | some (.ok (x, q2)) => listF p f q2 kind fin deep (xs ++ [x]) js) := by
        intro a ys js ha1 ha2
        obtain ⟨r, hr, hb⟩ := ihv a (deep + 1) ha2 (by omega)
        rw [hr]
        cases r with
        | error e => exact Fine.mk' (fun _ _ h => by cases h)
        | ok x =>
          obtain ⟨x, k⟩ := x
          have := hb x k rfl
          exact (ihl k kind fin deep _ _ hfin this.2 (by omega)).up (by omega)
      split
      · next h => have := pre_le h hfin; exact Fine.mk' (fun x k hk => by injection hk with hk; injection hk with _ hk; omega)
      split
      · split
        · next h =>
          have := pre_le h (by simp); simp at this
          have hw := word_end_le p (q + 1) (by omega)
          split
          · exact key _ [] _ (by omega) hw
          · exact Fine.mk' (fun _ _ h => by cases h)
        · exact Fine.mk' (fun _ _ h => by cases h)
      · exact key _ [] _ (Nat.le_refl _) hq2
def parseV (p : List UInt8) : PR := (valueF p (2 * p.length + 1) 0 0).getD (.error 2)
theorem parseV_eq (p : List UInt8) : valueF p (2 * p.length + 1) 0 0 = some (parseV p) := by
  obtain ⟨r, h, _⟩ := (fine_all p (2 * p.length + 1)).1 0 0 (by omega) (by omega)
  unfold parseV
  rw [h]
  rfl
theorem value0_ok (p : List UInt8) (hpl : p.length < 2147483640) (g : Nat) (A : Option Addr) (c : Nat) (w : World) (G : Gl w) (hg9 : 9 ≤ g) (h : Rdr w g A c p 0) :
    Calls Tryz.prog 49 #[.pointer (some ⟨g, 0, none⟩), .int .i64 0] w (ValPost g A c p (parseV p) w) :=
  VC_all p hpl (2 * p.length + 1) (by omega) 0 0 g A c (parseV p) w (parseV_eq p) G hg9 h (by omega)
end Go.Proofs.YtnckaeehcldheaaGreatDoor.Ob
end

section
set_option linter.unusedVariables false
set_option linter.unusedSimpArgs false
namespace Go.Proofs.YtnckaeehcldheaaGreatDoor.Ob
open Go.RowKit Go.Shelf YtnckaeehcldheaaGreatDoorW.PrintWords
theorem undL_len : ∀ (l xs : List UInt8) (hf : Bool) (o : List UInt8), undL l xs hf = some o → o.length ≤ xs.length + l.length := by
  intro l
  induction l with
  | nil => intro xs hf o h; injection h with h; subst h; simp
  | cons c l ih =>
    intro xs hf o h
    rw [undL] at h
    split at h
    · have := ih _ _ _ h; simp; omega
    · cases hd : hexD c with
      | none => rw [hd] at h; cases h
      | some d =>
        rw [hd] at h
        dsimp only at h
        split at h
        · have := ih _ _ _ h; simp at this ⊢; omega
        · have := ih _ _ _ h; simp at this ⊢; omega
theorem nameS_len (s : List UInt8) : (nameS s).1.length ≤ s.length := by
  unfold nameS
  split
  · simp
  split
  · exact Nat.le_refl _
  · simp
theorem textS_len {p : List UInt8} {q : Nat} {t : List UInt8} {k : Nat} (h : textS p q = some (t, k)) : t.length ≤ p.length := by
  unfold textS at h
  dsimp only at h
  split at h
  · cases h
  · obtain ⟨u, hu, e⟩ := Option.map_eq_some_iff.1 h
    injection e with e _
    subst e
    have := undL_len _ _ _ _ hu
    simp at this
    omega
theorem Sm.flat (x : S28) (h3 : x.f3.size ≤ 4294967281) (h4 : x.f4 = []) (h5 : x.f5 = []) : Sm x := .mk h3 (by rw [h5]; simp) (by rw [h4]; simp)
theorem wordL_len (p : List UInt8) (a : Nat) : (wordL (p.drop a)).length ≤ p.length := by
  have := wordL_le (p.drop a)
  rw [List.length_drop] at this
  omega
theorem sm_all (p : List UInt8) (hpl : p.length ≤ 4294967281) : ∀ f, (∀ at_ deep x k, valueF p f at_ deep = some (.ok (x, k)) → Sm x) ∧ (∀ at_ kind fin deep xs ks x k, listF p f at_ kind fin deep xs ks = some (.ok (x, k)) → (∀ y ∈ xs, Sm y) → (∀ j ∈ ks, j.size ≤ 4294967281) → Sm x) := by
  intro f
  induction f with
  | zero => exact ⟨fun _ _ _ _ h => by simp [valueF] at h, fun _ _ _ _ _ _ _ _ h => by simp [listF] at h⟩
  | succ f ih =>
    obtain ⟨ihv, ihl⟩ := ih
    refine ⟨?_, ?_⟩
    · intro at_ deep x k h
      rw [valueF] at h
      obtain ⟨q, hq⟩ : ∃ q, skipAt p at_ = q := ⟨_, rfl⟩
      rw [hq] at h
      split at h
      · cases h
      split at h
      · exact ihl _ _ _ _ _ _ _ _ h (by simp) (by simp)
      split at h
      · exact ihl _ _ _ _ _ _ _ _ h (by simp) (by simp)
      split at h
      · cases ht : textS p (q + 1) with
        | none => rw [ht] at h; cases h
        | some tk =>
          obtain ⟨t, j⟩ := tk
          rw [ht] at h
          injection h with h
          injection h with h
          injection h with h _
          subst h
          exact Sm.flat _ (by have := textS_len ht; show (ofL t).size ≤ _; rw [ofL_size]; omega) rfl rfl
      split at h
      · cases h
      split at h
      · injection h with h
        unfold ofName at h
        dsimp only at h
        split at h
        · injection h with h
          injection h with h _
          subst h
          exact Sm.flat _ (by show (ofL _).size ≤ _; rw [ofL_size]; have := nameS_len (wordL (p.drop (q + 1))); have := wordL_len p (q + 1); omega) rfl rfl
        · cases h
      · injection h with h
        unfold ofRef at h
        split at h
        · injection h with h
          injection h with h _
          subst h
          exact Sm.flat _ (by show (0 : Nat) ≤ _; omega) rfl rfl
        · cases h
    · intro at_ kind fin deep xs ks x k h hxs hks
      rw [listF] at h
      obtain ⟨q, hq⟩ : ∃ q, skipAt p at_ = q := ⟨_, rfl⟩
      rw [hq] at h
      dsimp only at h
      have key : ∀ a (js : List ByteArray), (∀ j ∈ js, j.size ≤ 4294967281) → (match valueF p f a (deep + 1) with
          | none => none
          | some (.error e) => some (.error e)
          | some (.ok (x, q2)) => listF p f q2 kind fin deep (xs ++ [x]) js) = some (.ok (x, k)) → Sm x := by
        intro a js hjs h
        cases hv : valueF p f a (deep + 1) with
        | none => rw [hv] at h; cases h
        | some r =>
          cases r with
          | error e => rw [hv] at h; cases h
          | ok y =>
            obtain ⟨y, j⟩ := y
            rw [hv] at h
            refine ihl _ _ _ _ _ _ _ _ h (fun z hz => ?_) hjs
            rcases List.mem_append.1 hz with hz | hz
            · exact hxs z hz
            · rw [List.mem_singleton.1 hz]; exact ihv _ _ _ _ hv
      split at h
      · injection h with h
        injection h with h
        injection h with h _
        subst h
        exact .mk (by show (0 : Nat) ≤ _; omega) hks hxs
      split at h
      · split at h
        · split at h
          · refine key _ _ (fun j hj => ?_) h
            rcases List.mem_append.1 hj with hj | hj
            · exact hks j hj
            · rw [List.mem_singleton.1 hj, ofL_size]
              have := nameS_len (wordL (p.drop (q + 1)))
              have := wordL_len p (q + 1)
              omega
          · cases h
        · cases h
      · exact key _ _ hks h
theorem parseV_sm {p : List UInt8} (hpl : p.length ≤ 4294967281) {x : S28} {k : Nat} (h : parseV p = .ok (x, k)) : Sm x :=
  (sm_all p hpl _).1 0 0 x k (by rw [parseV_eq, h])
def parseS (p : List UInt8) : PR := match parseV p with
  | .error e => .error e
  | .ok (v, q) => if rightN 33 v = true then .ok (v, q) else .error 2
def ParsePost (p : List UInt8) (w : World) (e : Ending) (w' : World) : Prop :=
  Below w.heap.size w w' ∧ match parseS p with
  | .error er => er ≠ 0 ∧ e = .returned (.tuple #[zeroV, .int .i64 0, .int .i64 er])
  | .ok (v, q) => ∃ v4 v5, e = .returned (.tuple #[.agg #[.int .u8 v.f0, .int .i64 v.f1, .int .i64 v.f2, .string v.f3, v4, v5], .int .i64 (q : Int), .int .i64 0]) ∧ k28.R 28 w' w.heap.size (fun _ => True) v4 v.f4 ∧ Kd.string.R 9 w' w.heap.size (fun _ => True) v5 v.f5
end Go.Proofs.YtnckaeehcldheaaGreatDoor.Ob
end

section
set_option linter.unusedVariables false
set_option linter.unusedSimpArgs false
namespace Go.Proofs.YtnckaeehcldheaaGreatDoor.Ob
open Go.RowKit Go.Shelf YtnckaeehcldheaaGreatDoorW.PrintWords
abbrev preR (p : List UInt8) (q : Nat) (s : List UInt8) : Bool := Lib.hasPrefix (p.drop q) s
theorem u8_is (c : UInt8) (n : Nat) (hn : n < 256) : (c == UInt8.ofNat n) = decide (c.toNat = n) := by
  by_cases h : c.toNat = n
  · have : c = UInt8.ofNat n := UInt8.toNat_inj.1 (by rw [h]; simp; omega)
    rw [this]
    simp
    omega
  · have : c ≠ UInt8.ofNat n := fun e => h (by rw [e]; simp; omega)
    simp [this, h]
theorem blankN (c : UInt8) : blank c = (decide (c.toNat = 0) || (decide (c.toNat = 9) || (decide (c.toNat = 10) || (decide (c.toNat = 12) || (decide (c.toNat = 13) || decide (c.toNat = 32)))))) := by
  rw [← u8_is c 0 (by decide), ← u8_is c 9 (by decide), ← u8_is c 10 (by decide), ← u8_is c 12 (by decide), ← u8_is c 13 (by decide), ← u8_is c 32 (by decide)]
  simp only [blank, memB, List.contains_cons, List.contains_nil, Bool.or_false]
  rfl
theorem rblank_ok (c : UInt8) (r : Bool) (w : World) (hr : blank c = r) :
    Calls Tryz.prog 119 #[.int .u8 (c.toNat : Int)] w fun e w' => e = .returned (.bool r) ∧ w' = w := by
  have HR := Aside0.mk (hr.symm.trans (blankN c))
  clear hr
  obtain ⟨n, hn⟩ : ∃ n, c.toNat = n := ⟨_, rfl⟩
  rw [hn] at HR ⊢
  clear hn
  go_enter Tryz.func119, Tryz.ntmps119
  go_wp2
  all_goals go_ret
  all_goals
    refine ⟨?_, rfl⟩
    rw [HR.out]
    first
    | (simp [*]; done)
    | (refine congrArg (fun b => Ending.returned (Value.bool b)) ?_; apply Bool.eq_iff_iff.2; simp; omega)
theorem rhex_ok (c : UInt8) (w : World) :
    Calls Tryz.prog 120 #[.int .u8 (c.toNat : Int)] w fun e w' => e = .returned (.int .i64 (if 48 ≤ c.toNat ∧ c.toNat ≤ 57 then (c.toNat : Int) - 48 else if 97 ≤ c.toNat ∧ c.toNat ≤ 102 then (c.toNat : Int) - 87 else if 65 ≤ c.toNat ∧ c.toNat ≤ 70 then (c.toNat : Int) - 55 else -1)) ∧ w' = w := by
  have hc := c.toNat_lt
  obtain ⟨n, hn⟩ : ∃ n, c.toNat = n := ⟨_, rfl⟩
  rw [hn] at hc ⊢
  clear hn
  go_enter Tryz.func120, Tryz.ntmps120
  go_wp2
  all_goals go_ret
  all_goals
    refine ⟨?_, rfl⟩
    refine congrArg (fun b => Ending.returned (Value.int .i64 b)) ?_
    omega
def isDig (c : UInt8) : Bool := decide (48 ≤ c.toNat) && decide (c.toNat ≤ 57)
def digB (l : List UInt8) : Bool := l.all isDig && !l.isEmpty
theorem str_at (s : ByteArray) (k : Nat) (h : k < s.size) : s.data.toList[k]? = some s[k] := by
  have h' : k < s.data.toList.length := by rw [← Lib.size_eq]; exact h
  rw [List.getElem?_eq_getElem h']
  rfl
theorem allF_stop {f : UInt8 → Bool} {l : List UInt8} {k : Nat} {b : UInt8} (hb : l[k]? = some b) (ho : f b = false) : l.all f = false := by
  rw [List.all_eq_false]
  exact ⟨b, List.mem_of_getElem? hb, by simp [ho]⟩
theorem allF_more {f : UInt8 → Bool} {l : List UInt8} {k : Nat} {b : UInt8} (hb : l[k]? = some b) (h : (l.take k).all f = true) (ho : f b = true) : (l.take (k + 1)).all f = true := by
  obtain ⟨hk, e⟩ := List.getElem?_eq_some_iff.1 hb
  rw [List.take_succ_eq_append_getElem hk, List.all_append, h, e]
  simp [ho]
theorem str_empty (s : ByteArray) (h : s.size = 0) : s = ⟨#[]⟩ := by
  have : s.data = #[] := Array.eq_empty_of_size_eq_zero h
  cases s
  cases this
  rfl
set_option maxHeartbeats 2000000 in
theorem rdigits_ok (s : ByteArray) (r : Bool) (w : World) (hs : s.size ≤ 4294967281) (hr : digB s.data.toList = r) :
    Calls Tryz.prog 92 #[.string s] w fun e w' => e = .returned (.bool r) ∧ w' = w := by
  have HR := Aside0.mk hr
  have SA := Aside0.mk (str_at s)
  obtain ⟨l, hl⟩ : ∃ l, l = s.data.toList := ⟨_, rfl⟩
  have HL := Aside0.mk hl
  rw [← hl] at HR SA
  clear hr hl
  go_enter Tryz.func92, Tryz.ntmps92
  go_wp2
  go_loop [3] (fun a => ∃ k : Nat, a = .int .i64 k ∧ k ≤ s.size ∧ Aside0 ((l.take k).all isDig = true)) (fun a => s.size - (intOf a).toNat)
  case atStart => exact ⟨0, rfl, Nat.zero_le _, ⟨rfl⟩⟩
  case round =>
    obtain ⟨k, rfl, hk, HA⟩ := hrel
    by_cases hlt : k < s.size
    · have HB := Aside0.mk (SA.out k hlt)
      obtain ⟨b, hb⟩ : ∃ b, s[k] = b := ⟨_, rfl⟩
      rw [hb] at HB
      by_cases h1 : 48 ≤ b.toNat
      · by_cases h2 : b.toNat ≤ 57
        · go_wp2
          go_round
          case rel => exact ⟨k + 1, by go_num, by omega, ⟨allF_more HB.out HA.out (by simp [isDig, h1, h2])⟩⟩
          case measure => simp [intOf]; omega
        · go_wp2
          go_ret
          exact ⟨by rw [← HR.out, digB, allF_stop HB.out (by simp [isDig, h2])]; rfl, rfl⟩
      · go_wp2
        go_ret
        exact ⟨by rw [← HR.out, digB, allF_stop HB.out (by simp [isDig, h1])]; rfl, rfl⟩
    · go_wp2
      go_ret
      refine ⟨?_, rfl⟩
      rw [← HR.out, digB]
      have hA := HA.out
      rw [List.take_of_length_le (by rw [HL.out, ← Lib.size_eq]; omega)] at hA
      rw [hA, HL.out, ← Lib.toList_data]
      rfl
theorem pre_short {p : List UInt8} {q : Nat} {s : List UInt8} (h : p.length - q < s.length) : preR p q s = false := by
  have : ¬ preR p q s = true := fun h1 => by
    have := (List.isPrefixOf_iff_prefix.1 h1).length_le
    rw [List.length_drop] at this
    omega
  simpa using this
theorem pre_cut {p : List UInt8} {q : Nat} {s : List UInt8} (h : q + s.length ≤ p.length) : preR p q s = ((p.take (q + s.length)).drop q == s) := by
  rw [List.drop_take, Nat.add_sub_cancel_left]
  rw [Bool.eq_iff_iff]
  rw [preR, Lib.hasPrefix, List.isPrefixOf_iff_prefix, beq_iff_eq, List.prefix_iff_eq_take]
  exact eq_comm
set_option maxRecDepth 100000 in
theorem starts_ok (A : Option Addr) (c : Nat) (p : List UInt8) (at_ : Nat) (s : ByteArray) (r : Bool) (w : World) (hp : RB w A p) (hc : p.length ≤ c) (hat : at_ ≤ p.length) (hs : s.size ≤ 4294967281) (hr : preR p at_ s.data.toList = r) :
    Calls Tryz.prog 86 #[.slice A p.length c, .int .i64 (at_ : Int), .string s] w fun e w' => e = .returned (.bool r) ∧ w' = w := by
  have hl := hp.le
  have HR := Aside0.mk hr
  have HP := Aside0.mk hp
  obtain ⟨d, hd⟩ : ∃ d, p.length - at_ = d := ⟨_, rfl⟩
  have hsub : (p.length : Int) - (at_ : Int) = (d : Int) := by omega
  have hw2 : IntKind.i64.wrap (d : Int) = (d : Int) := IntWalk.i64_in _ (by omega)
  have hL := Aside0.mk (Lib.size_eq s)
  clear hp hr
  by_cases h : s.size ≤ d
  · obtain ⟨E, hE⟩ : ∃ E, at_ + s.size = E := ⟨_, rfl⟩
    obtain ⟨A', m, c', hm, hmc, hA', hrun⟩ := RB.cut HP.out c at_ E hc (by omega) (by omega)
    have hst := hA'.str c'
    have hsum : (at_ : Int) + (s.size : Int) = (E : Int) := by omega
    have hw1 : IntKind.i64.wrap (E : Int) = (E : Int) := IntWalk.i64_in _ (by omega)
    obtain ⟨t, ht⟩ : ∃ t : ByteArray, (⟨m.toArray⟩ : ByteArray) = t := ⟨_, rfl⟩
    rw [ht] at hst
    have ht2 : (t.toList == s.toList) = r := by
      rw [← HR.out, pre_cut (by rw [← hL.out]; omega), Lib.toList_data, Lib.toList_data, ← ht, ← hL.out, hE, ← hm.out]
    have HT := Aside0.mk ht2
    clear hd hE ht ht2 hA'
    go_enter Tryz.func86, Tryz.ntmps86
    go_wp2
    go_ret
    exact ⟨by rw [← HT.out]; rfl, rfl⟩
  · go_enter Tryz.func86, Tryz.ntmps86
    go_wp2
    go_ret
    refine ⟨?_, rfl⟩
    rw [← HR.out, pre_short (by rw [← hL.out]; omega)]
    rfl
end Go.Proofs.YtnckaeehcldheaaGreatDoor.Ob
end

section
set_option linter.unusedVariables false
set_option linter.unusedSimpArgs false
namespace Go.Proofs.YtnckaeehcldheaaGreatDoor.Ob
open Go.RowKit Go.Shelf YtnckaeehcldheaaGreatDoorW.PrintWords
def markL : List UInt8 := [40, 41, 60, 62, 91, 93, 123, 125, 47, 37]
abbrev markC : Array Value := #[.int .u8 40, .int .u8 41, .int .u8 60, .int .u8 62, .int .u8 91, .int .u8 93, .int .u8 123, .int .u8 125, .int .u8 47, .int .u8 37]
theorem markC_at (k : Nat) (h : k < 10) : markC[k]? = some (.int .u8 ((markL[k]'h).toNat : Int)) := by
  rcases k with _ | _ | _ | _ | _ | _ | _ | _ | _ | _ | k
  all_goals first | rfl | omega
theorem mark_all (c : UInt8) : mark c = !(markL.all fun x => !(c == x)) := by
  show markL.contains c = _
  rw [List.contains_eq_any_beq, List.not_all_eq_any_not]
  congr 1
  funext x
  simp
set_option maxRecDepth 100000 in
set_option maxHeartbeats 2000000 in
theorem rmark_ok (c : UInt8) (r : Bool) (w : World) (hr : mark c = r) :
    Calls Tryz.prog 77 #[.int .u8 (c.toNat : Int)] w fun e w' => e = .returned (.bool r) ∧ Below w.heap.size w w' := by
  have HR := Aside0.mk hr
  obtain ⟨w1, hw1⟩ : ∃ w1, w1 = w.alloc (.cells markC 5 (10, 11)) := ⟨_, rfl⟩
  have hB : Below w.heap.size w w1 := by rw [hw1]; exact (Below.refl _ _).alloc (Nat.le_refl _) _
  have HB := Aside0.mk hB
  have HC := Aside0.mk (fun (k : Nat) (h : k < 10) => show w1.cell? ⟨w.heap.size, k, none⟩ = some (.int .u8 ((markL[k]'h).toNat : Int)) by rw [hw1]; exact cell_of_blk (blk_new _ _) (markC_at k h))
  have kcv : (convert 22 22 (.slice (some ⟨w.heap.size, 0, none⟩) 10 10)).run Tryz.prog (w.alloc (.cells markC 5)) = .ok (.slice (some ⟨w.heap.size, 0, none⟩) 10 10) w1 := by rw [hw1]; exact Lib.run_convert_bytes_const w 22 5 markC 10 10 Tryz.underlying22 Tryz.underlying5
  clear hr hB hw1
  go_enter Tryz.func77, Tryz.ntmps77
  go_wp2
  clear kcv
  go_loop [8] (fun a => ∃ k : Nat, a = .int .i64 k ∧ k ≤ 10 ∧ Aside0 ((markL.take k).all (fun x => !(c == x)) = true)) (fun a => 10 - (intOf a).toNat)
  case atStart => exact ⟨0, rfl, by omega, ⟨rfl⟩⟩
  case round =>
    obtain ⟨k, rfl, hk, HA⟩ := hrel
    by_cases hlt : k < 10
    · have hc := HC.out k hlt
      obtain ⟨b, hb⟩ : ∃ b, markL[k]'hlt = b := ⟨_, rfl⟩
      rw [hb] at hc
      have HBK := Aside0.mk (show markL[k]? = some b by rw [← hb]; exact List.getElem?_eq_getElem hlt)
      clear hb
      by_cases he : c = b
      · have e1 : ((c.toNat : Int) == (b.toNat : Int)) = true := by simp [he]
        have HE := Aside0.mk he
        clear he
        go_wp2
        go_ret
        refine ⟨?_, HB.out⟩
        rw [← HR.out, mark_all, allF_stop HBK.out (by simp [HE.out])]
        rfl
      · have e1 : ((c.toNat : Int) == (b.toNat : Int)) = false := by
          have : c.toNat ≠ b.toNat := fun h => he (UInt8.toNat_inj.1 h)
          simp; omega
        have HE := Aside0.mk he
        clear he
        go_wp2
        go_round
        case rel =>
          exact ⟨k + 1, by go_num, by omega, ⟨allF_more HBK.out HA.out (by simp [HE.out])⟩⟩
        case measure => simp [intOf]; omega
    · go_wp2
      go_ret
      refine ⟨?_, HB.out⟩
      have hA := HA.out
      rw [List.take_of_length_le (by show 10 ≤ k; omega)] at hA
      rw [← HR.out, mark_all, hA]
      rfl
end Go.Proofs.YtnckaeehcldheaaGreatDoor.Ob
end

section
set_option linter.unusedVariables false
set_option linter.unusedSimpArgs false
namespace Go.Proofs.YtnckaeehcldheaaGreatDoor.Ob
open Go.RowKit Go.Shelf YtnckaeehcldheaaGreatDoorW.PrintWords
theorem okB_no {b : UInt8} (h : ¬ (32 < b.toNat ∧ b.toNat ≤ 126 ∧ b.toNat ≠ 35 ∧ mark b = false)) : okB b = false := by
  cases hb : okB b with
  | false => rfl
  | true =>
    exfalso
    apply h
    simp only [okB, Bool.and_eq_true, decide_eq_true_eq, Bool.not_eq_true', decide_eq_false_iff_not] at hb
    exact ⟨hb.1, hb.2.1, hb.2.2.1, hb.2.2.2⟩
theorem okB_yes {b : UInt8} (h1 : 32 < b.toNat) (h2 : b.toNat ≤ 126) (h3 : ¬ b.toNat = 35) (h4 : mark b = false) : okB b = true := by
  simp [okB, h1, h2, h3, h4]
set_option maxRecDepth 100000 in
set_option maxHeartbeats 4000000 in
theorem rplain_ok (s : ByteArray) (r : Bool) (w : World) (hs : s.size ≤ 4294967281) (hr : plainL s.data.toList = r) :
    Calls Tryz.prog 46 #[.string s] w fun e w' => e = .returned (.bool r) ∧ Below w.heap.size w w' := by
  have HR := Aside0.mk hr
  have SA := Aside0.mk (str_at s)
  obtain ⟨l, hl⟩ : ∃ l, l = s.data.toList := ⟨_, rfl⟩
  have HL := Aside0.mk hl
  rw [← hl] at HR SA
  clear hr hl
  go_enter Tryz.func46, Tryz.ntmps46
  go_wp2
  go_loopw [3] (fun a wr => ∃ k : Nat, a = .int .i64 k ∧ k ≤ s.size ∧ Aside0 (Below w.heap.size w wr) ∧ Aside0 ((l.take k).all okB = true)) (fun a _ => s.size - (intOf a).toNat)
  case atStart => exact ⟨0, rfl, Nat.zero_le _, ⟨Below.refl _ _⟩, ⟨rfl⟩⟩
  case round =>
    obtain ⟨k, rfl, hk, HW, HA⟩ := hrel
    by_cases hlt : k < s.size
    · have HB := Aside0.mk (SA.out k hlt)
      obtain ⟨b, hb⟩ : ∃ b, s[k] = b := ⟨_, rfl⟩
      rw [hb] at HB
      have FIN := Aside0.mk (fun (h : okB b = false) => show Ending.returned (.bool false) = .returned (.bool r) by rw [← HR.out, plain_stop HB.out h])
      by_cases h1 : 32 < b.toNat
      · by_cases h2 : b.toNat ≤ 126
        · by_cases h3 : b.toNat = 35
          · have g3 : (((b.toNat : Int)) == 35) = true := by simp; omega
            have FIN2 := Aside0.mk (FIN.out (okB_no (fun h => h.2.2.1 h3)))
            clear h3
            go_wp2_with fail
            go_ret
            exact ⟨FIN2.out, HW.out⟩
          · have g3 : (((b.toNat : Int)) == 35) = false := by simp; omega
            obtain ⟨q, hq⟩ : ∃ q, mark b = q := ⟨_, rfl⟩
            have HQ := Aside0.mk hq
            cases q with
            | true =>
              have FIN2 := Aside0.mk (FIN.out (okB_no (fun h => by rw [hq] at h; exact absurd h.2.2.2 (by simp))))
              clear h3 hq
              go_wp2_with (go_at_call 77; refine (rmark_ok b true _ HQ.out).mono ?_; rintro e w1 ⟨rfl, hb1⟩; have HW1 := Aside0.mk (HW.out.trans (Below.mono hb1 HW.out.size)); clear hb1)
              go_ret
              exact ⟨FIN2.out, HW1.out⟩
            | false =>
              have HO := Aside0.mk (okB_yes h1 h2 h3 hq)
              clear h3 hq
              go_wp2_with (go_at_call 77; refine (rmark_ok b false _ HQ.out).mono ?_; rintro e w1 ⟨rfl, hb1⟩; have HW1 := Aside0.mk (HW.out.trans (Below.mono hb1 HW.out.size)); clear hb1)
              go_roundw
              case rel => exact ⟨k + 1, by go_num, by omega, HW1, ⟨allF_more HB.out HA.out HO.out⟩⟩
              case measure => simp [intOf]; omega
        · have FIN2 := Aside0.mk (FIN.out (okB_no (fun h => h2 h.2.1)))
          go_wp2_with fail
          go_ret
          exact ⟨FIN2.out, HW.out⟩
      · have FIN2 := Aside0.mk (FIN.out (okB_no (fun h => h1 h.1)))
        go_wp2_with fail
        go_ret
        exact ⟨FIN2.out, HW.out⟩
    · go_wp2
      go_ret
      refine ⟨?_, HW.out⟩
      rw [← HR.out, plainL]
      have hA := HA.out
      rw [List.take_of_length_le (by rw [HL.out, ← Lib.size_eq]; omega)] at hA
      rw [hA, HL.out, ← Lib.toList_data]
      rfl
set_option maxRecDepth 100000 in
set_option maxHeartbeats 4000000 in
theorem rword_ok (A : Option Addr) (c : Nat) (p : List UInt8) (at_ q : Nat) (s : ByteArray) (w : World) (hp : RB w A p) (hc : p.length ≤ c) (hat : at_ ≤ p.length) (hs : s = ofL (wordL (p.drop at_))) (hq : at_ + (wordL (p.drop at_)).length = q) :
    Calls Tryz.prog 90 #[.slice A p.length c, .int .i64 (at_ : Int)] w fun e w' => e = .returned (.tuple #[.string s, .int .i64 (q : Int)]) ∧ Below w.heap.size w w' := by
  have hl := hp.le
  subst hs hq
  have HP := Aside0.mk hp
  clear hp
  go_enter Tryz.func90, Tryz.ntmps90
  go_wp2
  go_loopw [6] (fun a wr => ∃ (k : Nat), a = .int .i64 k ∧ at_ ≤ k ∧ k ≤ p.length ∧ Aside0 (Below w.heap.size w wr) ∧ Aside0 ((p.drop at_).take (k - at_) ++ wordL (p.drop k) = wordL (p.drop at_))) (fun a _ => p.length - (intOf a).toNat)
  case atStart => exact ⟨at_, rfl, Nat.le_refl _, hat, ⟨Below.refl _ _⟩, ⟨by simp⟩⟩
  case round =>
    obtain ⟨k, rfl, hk0, hk, HW, HE⟩ := hrel
    by_cases hlt : k < p.length
    · obtain ⟨ad, e, hcell⟩ := (HP.out.below HW.out).at_ k hlt
      subst e
      have hdrop := Aside0.mk (List.drop_eq_getElem_cons hlt)
      obtain ⟨b, hb⟩ : ∃ b, p[k] = b := ⟨_, rfl⟩
      have HBK := Aside0.mk hb
      rw [hb] at hcell hdrop
      clear hb
      obtain ⟨r1, hr1⟩ : ∃ r, blank b = r := ⟨_, rfl⟩
      obtain ⟨r2, hr2⟩ : ∃ r, mark b = r := ⟨_, rfl⟩
      have B1 := Aside0.mk hr1
      have B2 := Aside0.mk hr2
      clear hr1 hr2
      have stop : ((blank b || mark b) = true) → Aside0 ((wordL (p.drop at_)) = (p.take k).drop at_ ∧ (wordL (p.drop at_)).length = k - at_) := fun h => ⟨word_end hk0 hk HE.out (by rw [hdrop.out]; exact wordL_stop _ h)⟩
      cases r1 with
      | true =>
        have hw2 := stop (by rw [B1.out]; rfl)
        clear stop
        obtain ⟨A', m, c', hm, hmc, hA', hrun⟩ := RB.cut (HP.out.below HW.out) c at_ k hc hk0 hk
        have hst := hA'.str c'
        clear hA'
        go_wp2_with (go_at_call 119; refine (rblank_ok b true _ B1.out).mono ?_; rintro e w1 ⟨rfl, rfl⟩)
        go_ret2
        exact ⟨tok_end hk0 hm.out hw2.out, HW.out⟩
      | false =>
        cases r2 with
        | true =>
          have hw2 := stop (by rw [B2.out]; simp)
          clear stop
          go_wp2_with (first | (go_at_call 119; refine (rblank_ok b false _ B1.out).mono ?_; rintro e w1 ⟨rfl, rfl⟩) | (go_at_call 77; refine (rmark_ok b true _ B2.out).mono ?_; rintro e w1 ⟨rfl, hb1⟩; have HW1 := Aside0.mk (HW.out.trans (Below.mono hb1 HW.out.size)); clear hb1; obtain ⟨A', m, c', hm, hmc, hA', hrun⟩ := RB.cut (HP.out.below HW1.out) c at_ k hc hk0 hk; have hst := hA'.str c'; clear hA'))
          go_ret2
          exact ⟨tok_end hk0 hm.out hw2.out, HW1.out⟩
        | false =>
          clear stop
          go_wp2_with (first | (go_at_call 119; refine (rblank_ok b false _ B1.out).mono ?_; rintro e w1 ⟨rfl, rfl⟩) | (go_at_call 77; refine (rmark_ok b false _ B2.out).mono ?_; rintro e w1 ⟨rfl, hb1⟩; have HW1 := Aside0.mk (HW.out.trans (Below.mono hb1 HW.out.size)); clear hb1))
          go_roundw
          case rel =>
            exact ⟨k + 1, by go_num, by omega, by omega, HW1, ⟨word_more hk0 hlt HE.out (by rw [HBK.out, B1.out, B2.out]; rfl)⟩⟩
          case measure => simp [intOf]; omega
    · have hw2 := Aside0.mk (word_end hk0 hk HE.out (by rw [List.drop_of_length_le (by omega)]; rfl))
      obtain ⟨A', m, c', hm, hmc, hA', hrun⟩ := RB.cut (HP.out.below HW.out) c at_ k hc hk0 hk
      have hst := hA'.str c'
      clear hA'
      go_wp2
      go_ret2
      exact ⟨tok_end hk0 hm.out hw2.out, HW.out⟩
end Go.Proofs.YtnckaeehcldheaaGreatDoor.Ob
end
