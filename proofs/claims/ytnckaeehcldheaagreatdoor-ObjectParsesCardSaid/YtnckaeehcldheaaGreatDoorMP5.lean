/- Of any bytes the program's Parse tells just the value and the place that the reference tells, or both tell that there is none (law 18, ObjectParses, in its card form). Conditions: the listed package-level variables (strconv's two errors and its table of powers, the search's tables) hold what the program's text lays in them, which the card ties; memory may be shared among arguments. -/
import Derived.Deep.DrawnRows
import Derived.Deep.RegionHeld3
import Derived.Test.YtnckaeehcldheaaGreatDoorMP0
import Derived.Test.YtnckaeehcldheaaGreatDoorMP2
import Derived.Test.YtnckaeehcldheaaGreatDoorMP3
import Derived.Test.YtnckaeehcldheaaGreatDoorMP4

section
set_option linter.unusedVariables false
set_option linter.unusedSimpArgs false
namespace Go.Proofs.YtnckaeehcldheaaGreatDoor.Ob
open Go.RowKit Go.Shelf YtnckaeehcldheaaGreatDoorW.PrintWords
set_option maxRecDepth 100000 in
set_option maxHeartbeats 16000000 in
theorem rw0 (p : List UInt8) (hpl : p.length < 2147483640) (f : Nat) (HL : Aside0 (RLC p f)) (at_ deep : Nat) (A : Option Addr) (c : Nat) (w : World) (q : Nat) (s : ByteArray) (E : Nat) (hs : s = ofL (wordL (p.drop q))) (hE : q + (wordL (p.drop q)).length = E) (k0 : s.data.toList = nullL) (hp : RB w A p) (hc : p.length ≤ c) (hat : at_ ≤ p.length) (hd40 : deep ≤ 40) (hq : skipAt p at_ = q) (hql : q < p.length) (b : UInt8) (hb : p[q]'hql = b) (B1 : Aside0 (pre p q [60, 60] = false)) (h91 : ¬ b = 91) (h60 : ¬ b = 60) (h47 : ¬ b = 47) :
    Calls Tryz.prog 50 #[.slice A p.length c, .int .i64 (at_ : Int), .int .i64 (deep : Int)] w (RValPost (some (⟨0, 0, 0, ⟨#[]⟩, [], []⟩, E)) w) := by
  have HQ := Aside0.mk hq
  obtain ⟨w0, hw0⟩ : ∃ w0, w0 = w.alloc (.cells #[.int .u8 0, .int .i64 0, .int .i64 0, .string ⟨#[]⟩, .slice none 0 0, .slice none 0 0] 34) := ⟨_, rfl⟩
  have hA : Below w.heap.size w w0 := by rw [hw0]; exact (Below.refl _ _).alloc (Nat.le_refl _) _
  have L0 := Aside0.mk (show w0.heap[w.heap.size]? = some (.cells #[.int .u8 0, .int .i64 0, .int .i64 0, .string ⟨#[]⟩, .slice none 0 0, .slice none 0 0] 34 (0, 0)) by rw [hw0]; exact heap_alloc_new w _)
  have P0 := Aside0.mk (hp.below hA)
  have HA := Aside0.mk hA
  obtain ⟨ad, e, hcell⟩ := P0.out.at_ q hql
  subst e
  rw [hb] at hcell
  have hql' : q ≤ p.length := by omega
  have hBl : w.heap.size < w0.heap.size := (Array.getElem?_eq_some_iff.1 L0.out).1
  have B1c := Aside0.mk (starts_ok (some ad) c p q ⟨#[60, 60]⟩ false w0 P0.out hc hql' (by decide) B1.out)
  have HSK := Aside0.mk (rskip_ok (some ad) c p at_ q w0 P0.out hat HQ.out)
  have e91 : ((b.toNat : Int) == 91) = false := beq_eq_false_iff_ne.mpr (fun h => h91 (UInt8.toNat_inj.1 (by show b.toNat = 91; omega)))
  have e60 : ((b.toNat : Int) == 60) = false := beq_eq_false_iff_ne.mpr (fun h => h60 (UInt8.toNat_inj.1 (by show b.toNat = 60; omega)))
  have e47 : ((b.toNat : Int) == 47) = false := beq_eq_false_iff_ne.mpr (fun h => h47 (UInt8.toNat_inj.1 (by show b.toNat = 47; omega)))
  clear hq hA hp hb h91 h60 h47
  have hEl : E ≤ p.length := by rw [← hE]; exact word_end_le p q hql'
  have hsl : s.size ≤ 4294967281 := by rw [hs, ofL_size]; have := wordL_len p q; omega
  have HK := Aside0.mk (show E ≤ 2147483640 by omega)
  have HW := Aside0.mk (rword_ok (some ad) c p q E s w0 P0.out hc hql' hs hE)
  have g0 : (s.toList == [110, 117, 108, 108]) = true := by rw [Lib.toList_data, k0]; rfl
  clear hs hE k0
  go_enter Tryz.func50, Tryz.ntmps50
  go_wp2_with fail
  rw [← hw0]
  clear hw0
  go_wp2_with (first | (go_at_call 85; (with_reducible refine HSK.out.mono ?_); rintro e w1 ⟨rfl, rfl⟩) | (go_at_call 86; (with_reducible refine B1c.out.mono ?_); rintro e w1 ⟨rfl, rfl⟩) | (go_at_call 90; (with_reducible refine HW.out.mono ?_); rintro e w2 ⟨rfl, hb2⟩; have H2 := Aside0.mk (HA.out.trans (hb2.mono HA.out.size)); have L2 := Aside0.mk (blk_below hb2 L0.out); have P2 := Aside0.mk (P0.out.below hb2); clear hb2; obtain ⟨⟨z0, z1, z2, z3, z4, z5⟩, y0, y1, y2, y3, y4, y5⟩ := six_c L2.out))
  refine ret_put6 (v := .tuple #[.agg #[.int .u8 0, .int .i64 0, .int .i64 0, .string ⟨#[]⟩, .slice none 0 0, .slice none 0 0], .int .i64 E, .bool true]) L2.out (fun W2 z0 z1 z2 z3 z4 z5 => by simp [results, Tryz.results50, go_sem, zeroV, z0, z1, z2, z3, z4, z5]) rfl ?_
  exact ⟨put6_below H2.out (Nat.le_refl _) _ _ _ _ _ _, .slice none 0 0, .slice none 0 0, rfl, Kd.R_nil _ _ _ _ _, Kd.R_nil _ _ _ _ _, HK.out⟩
set_option maxRecDepth 100000 in
set_option maxHeartbeats 16000000 in
theorem rw1 (p : List UInt8) (hpl : p.length < 2147483640) (f : Nat) (HL : Aside0 (RLC p f)) (at_ deep : Nat) (A : Option Addr) (c : Nat) (w : World) (q : Nat) (s : ByteArray) (E : Nat) (hs : s = ofL (wordL (p.drop q))) (hE : q + (wordL (p.drop q)).length = E) (k0 : ¬ s.data.toList = nullL) (k1 : s.data.toList = trueL) (hp : RB w A p) (hc : p.length ≤ c) (hat : at_ ≤ p.length) (hd40 : deep ≤ 40) (hq : skipAt p at_ = q) (hql : q < p.length) (b : UInt8) (hb : p[q]'hql = b) (B1 : Aside0 (pre p q [60, 60] = false)) (h91 : ¬ b = 91) (h60 : ¬ b = 60) (h47 : ¬ b = 47) :
    Calls Tryz.prog 50 #[.slice A p.length c, .int .i64 (at_ : Int), .int .i64 (deep : Int)] w (RValPost (some (⟨1, 1, 0, ⟨#[]⟩, [], []⟩, E)) w) := by
  have HQ := Aside0.mk hq
  obtain ⟨w0, hw0⟩ : ∃ w0, w0 = w.alloc (.cells #[.int .u8 0, .int .i64 0, .int .i64 0, .string ⟨#[]⟩, .slice none 0 0, .slice none 0 0] 34) := ⟨_, rfl⟩
  have hA : Below w.heap.size w w0 := by rw [hw0]; exact (Below.refl _ _).alloc (Nat.le_refl _) _
  have L0 := Aside0.mk (show w0.heap[w.heap.size]? = some (.cells #[.int .u8 0, .int .i64 0, .int .i64 0, .string ⟨#[]⟩, .slice none 0 0, .slice none 0 0] 34 (0, 0)) by rw [hw0]; exact heap_alloc_new w _)
  have P0 := Aside0.mk (hp.below hA)
  have HA := Aside0.mk hA
  obtain ⟨ad, e, hcell⟩ := P0.out.at_ q hql
  subst e
  rw [hb] at hcell
  have hql' : q ≤ p.length := by omega
  have hBl : w.heap.size < w0.heap.size := (Array.getElem?_eq_some_iff.1 L0.out).1
  have B1c := Aside0.mk (starts_ok (some ad) c p q ⟨#[60, 60]⟩ false w0 P0.out hc hql' (by decide) B1.out)
  have HSK := Aside0.mk (rskip_ok (some ad) c p at_ q w0 P0.out hat HQ.out)
  have e91 : ((b.toNat : Int) == 91) = false := beq_eq_false_iff_ne.mpr (fun h => h91 (UInt8.toNat_inj.1 (by show b.toNat = 91; omega)))
  have e60 : ((b.toNat : Int) == 60) = false := beq_eq_false_iff_ne.mpr (fun h => h60 (UInt8.toNat_inj.1 (by show b.toNat = 60; omega)))
  have e47 : ((b.toNat : Int) == 47) = false := beq_eq_false_iff_ne.mpr (fun h => h47 (UInt8.toNat_inj.1 (by show b.toNat = 47; omega)))
  clear hq hA hp hb h91 h60 h47
  have hEl : E ≤ p.length := by rw [← hE]; exact word_end_le p q hql'
  have hsl : s.size ≤ 4294967281 := by rw [hs, ofL_size]; have := wordL_len p q; omega
  have HK := Aside0.mk (show E ≤ 2147483640 by omega)
  have HW := Aside0.mk (rword_ok (some ad) c p q E s w0 P0.out hc hql' hs hE)
  have g0 : (s.toList == [110, 117, 108, 108]) = false := by rw [Lib.toList_data]; exact beq_eq_false_iff_ne.mpr k0
  have g1 : (s.toList == [116, 114, 117, 101]) = true := by rw [Lib.toList_data, k1]; rfl
  clear hs hE k0 k1
  go_enter Tryz.func50, Tryz.ntmps50
  go_wp2_with fail
  rw [← hw0]
  clear hw0
  go_wp2_with (first | (go_at_call 85; (with_reducible refine HSK.out.mono ?_); rintro e w1 ⟨rfl, rfl⟩) | (go_at_call 86; (with_reducible refine B1c.out.mono ?_); rintro e w1 ⟨rfl, rfl⟩) | (go_at_call 90; (with_reducible refine HW.out.mono ?_); rintro e w2 ⟨rfl, hb2⟩; have H2 := Aside0.mk (HA.out.trans (hb2.mono HA.out.size)); have L2 := Aside0.mk (blk_below hb2 L0.out); have P2 := Aside0.mk (P0.out.below hb2); clear hb2; obtain ⟨⟨z0, z1, z2, z3, z4, z5⟩, y0, y1, y2, y3, y4, y5⟩ := six_c L2.out))
  refine ret_put6 (v := .tuple #[.agg #[.int .u8 1, .int .i64 1, .int .i64 0, .string ⟨#[]⟩, .slice none 0 0, .slice none 0 0], .int .i64 E, .bool true]) L2.out (fun W2 z0 z1 z2 z3 z4 z5 => by simp [results, Tryz.results50, go_sem, zeroV, z0, z1, z2, z3, z4, z5]) rfl ?_
  exact ⟨put6_below H2.out (Nat.le_refl _) _ _ _ _ _ _, .slice none 0 0, .slice none 0 0, rfl, Kd.R_nil _ _ _ _ _, Kd.R_nil _ _ _ _ _, HK.out⟩
set_option maxRecDepth 100000 in
set_option maxHeartbeats 16000000 in
theorem rw2 (p : List UInt8) (hpl : p.length < 2147483640) (f : Nat) (HL : Aside0 (RLC p f)) (at_ deep : Nat) (A : Option Addr) (c : Nat) (w : World) (q : Nat) (s : ByteArray) (E : Nat) (hs : s = ofL (wordL (p.drop q))) (hE : q + (wordL (p.drop q)).length = E) (k0 : ¬ s.data.toList = nullL) (k1 : ¬ s.data.toList = trueL) (k2 : s.data.toList = falseL) (hp : RB w A p) (hc : p.length ≤ c) (hat : at_ ≤ p.length) (hd40 : deep ≤ 40) (hq : skipAt p at_ = q) (hql : q < p.length) (b : UInt8) (hb : p[q]'hql = b) (B1 : Aside0 (pre p q [60, 60] = false)) (h91 : ¬ b = 91) (h60 : ¬ b = 60) (h47 : ¬ b = 47) :
    Calls Tryz.prog 50 #[.slice A p.length c, .int .i64 (at_ : Int), .int .i64 (deep : Int)] w (RValPost (some (⟨1, 0, 0, ⟨#[]⟩, [], []⟩, E)) w) := by
  have HQ := Aside0.mk hq
  obtain ⟨w0, hw0⟩ : ∃ w0, w0 = w.alloc (.cells #[.int .u8 0, .int .i64 0, .int .i64 0, .string ⟨#[]⟩, .slice none 0 0, .slice none 0 0] 34) := ⟨_, rfl⟩
  have hA : Below w.heap.size w w0 := by rw [hw0]; exact (Below.refl _ _).alloc (Nat.le_refl _) _
  have L0 := Aside0.mk (show w0.heap[w.heap.size]? = some (.cells #[.int .u8 0, .int .i64 0, .int .i64 0, .string ⟨#[]⟩, .slice none 0 0, .slice none 0 0] 34 (0, 0)) by rw [hw0]; exact heap_alloc_new w _)
  have P0 := Aside0.mk (hp.below hA)
  have HA := Aside0.mk hA
  obtain ⟨ad, e, hcell⟩ := P0.out.at_ q hql
  subst e
  rw [hb] at hcell
  have hql' : q ≤ p.length := by omega
  have hBl : w.heap.size < w0.heap.size := (Array.getElem?_eq_some_iff.1 L0.out).1
  have B1c := Aside0.mk (starts_ok (some ad) c p q ⟨#[60, 60]⟩ false w0 P0.out hc hql' (by decide) B1.out)
  have HSK := Aside0.mk (rskip_ok (some ad) c p at_ q w0 P0.out hat HQ.out)
  have e91 : ((b.toNat : Int) == 91) = false := beq_eq_false_iff_ne.mpr (fun h => h91 (UInt8.toNat_inj.1 (by show b.toNat = 91; omega)))
  have e60 : ((b.toNat : Int) == 60) = false := beq_eq_false_iff_ne.mpr (fun h => h60 (UInt8.toNat_inj.1 (by show b.toNat = 60; omega)))
  have e47 : ((b.toNat : Int) == 47) = false := beq_eq_false_iff_ne.mpr (fun h => h47 (UInt8.toNat_inj.1 (by show b.toNat = 47; omega)))
  clear hq hA hp hb h91 h60 h47
  have hEl : E ≤ p.length := by rw [← hE]; exact word_end_le p q hql'
  have hsl : s.size ≤ 4294967281 := by rw [hs, ofL_size]; have := wordL_len p q; omega
  have HK := Aside0.mk (show E ≤ 2147483640 by omega)
  have HW := Aside0.mk (rword_ok (some ad) c p q E s w0 P0.out hc hql' hs hE)
  have g0 : (s.toList == [110, 117, 108, 108]) = false := by rw [Lib.toList_data]; exact beq_eq_false_iff_ne.mpr k0
  have g1 : (s.toList == [116, 114, 117, 101]) = false := by rw [Lib.toList_data]; exact beq_eq_false_iff_ne.mpr k1
  have g2 : (s.toList == [102, 97, 108, 115, 101]) = true := by rw [Lib.toList_data, k2]; rfl
  clear hs hE k0 k1 k2
  go_enter Tryz.func50, Tryz.ntmps50
  go_wp2_with fail
  rw [← hw0]
  clear hw0
  go_wp2_with (first | (go_at_call 85; (with_reducible refine HSK.out.mono ?_); rintro e w1 ⟨rfl, rfl⟩) | (go_at_call 86; (with_reducible refine B1c.out.mono ?_); rintro e w1 ⟨rfl, rfl⟩) | (go_at_call 90; (with_reducible refine HW.out.mono ?_); rintro e w2 ⟨rfl, hb2⟩; have H2 := Aside0.mk (HA.out.trans (hb2.mono HA.out.size)); have L2 := Aside0.mk (blk_below hb2 L0.out); have P2 := Aside0.mk (P0.out.below hb2); clear hb2; obtain ⟨⟨z0, z1, z2, z3, z4, z5⟩, y0, y1, y2, y3, y4, y5⟩ := six_c L2.out))
  refine ret_put6 (v := .tuple #[.agg #[.int .u8 1, .int .i64 0, .int .i64 0, .string ⟨#[]⟩, .slice none 0 0, .slice none 0 0], .int .i64 E, .bool true]) L2.out (fun W2 z0 z1 z2 z3 z4 z5 => by simp [results, Tryz.results50, go_sem, zeroV, z0, z1, z2, z3, z4, z5]) rfl ?_
  exact ⟨put6_below H2.out (Nat.le_refl _) _ _ _ _ _ _, .slice none 0 0, .slice none 0 0, rfl, Kd.R_nil _ _ _ _ _, Kd.R_nil _ _ _ _ _, HK.out⟩
set_option maxRecDepth 100000 in
set_option maxHeartbeats 16000000 in
theorem rw3 (p : List UInt8) (hpl : p.length < 2147483640) (f : Nat) (HL : Aside0 (RLC p f)) (at_ deep : Nat) (A : Option Addr) (c : Nat) (w : World) (q : Nat) (s : ByteArray) (E : Nat) (hs : s = ofL (wordL (p.drop q))) (hE : q + (wordL (p.drop q)).length = E) (k0 : ¬ s.data.toList = nullL) (k1 : ¬ s.data.toList = trueL) (k2 : ¬ s.data.toList = falseL) (hn : numR s.data.toList = none) (hp : RB w A p) (hc : p.length ≤ c) (hat : at_ ≤ p.length) (hd40 : deep ≤ 40) (hq : skipAt p at_ = q) (hql : q < p.length) (b : UInt8) (hb : p[q]'hql = b) (B1 : Aside0 (pre p q [60, 60] = false)) (h91 : ¬ b = 91) (h60 : ¬ b = 60) (h47 : ¬ b = 47) :
    Calls Tryz.prog 50 #[.slice A p.length c, .int .i64 (at_ : Int), .int .i64 (deep : Int)] w (RValPost none w) := by
  have HQ := Aside0.mk hq
  obtain ⟨w0, hw0⟩ : ∃ w0, w0 = w.alloc (.cells #[.int .u8 0, .int .i64 0, .int .i64 0, .string ⟨#[]⟩, .slice none 0 0, .slice none 0 0] 34) := ⟨_, rfl⟩
  have hA : Below w.heap.size w w0 := by rw [hw0]; exact (Below.refl _ _).alloc (Nat.le_refl _) _
  have L0 := Aside0.mk (show w0.heap[w.heap.size]? = some (.cells #[.int .u8 0, .int .i64 0, .int .i64 0, .string ⟨#[]⟩, .slice none 0 0, .slice none 0 0] 34 (0, 0)) by rw [hw0]; exact heap_alloc_new w _)
  have P0 := Aside0.mk (hp.below hA)
  have HA := Aside0.mk hA
  obtain ⟨ad, e, hcell⟩ := P0.out.at_ q hql
  subst e
  rw [hb] at hcell
  have hql' : q ≤ p.length := by omega
  have hBl : w.heap.size < w0.heap.size := (Array.getElem?_eq_some_iff.1 L0.out).1
  have B1c := Aside0.mk (starts_ok (some ad) c p q ⟨#[60, 60]⟩ false w0 P0.out hc hql' (by decide) B1.out)
  have HSK := Aside0.mk (rskip_ok (some ad) c p at_ q w0 P0.out hat HQ.out)
  have e91 : ((b.toNat : Int) == 91) = false := beq_eq_false_iff_ne.mpr (fun h => h91 (UInt8.toNat_inj.1 (by show b.toNat = 91; omega)))
  have e60 : ((b.toNat : Int) == 60) = false := beq_eq_false_iff_ne.mpr (fun h => h60 (UInt8.toNat_inj.1 (by show b.toNat = 60; omega)))
  have e47 : ((b.toNat : Int) == 47) = false := beq_eq_false_iff_ne.mpr (fun h => h47 (UInt8.toNat_inj.1 (by show b.toNat = 47; omega)))
  clear hq hA hp hb h91 h60 h47
  have hEl : E ≤ p.length := by rw [← hE]; exact word_end_le p q hql'
  have hsl : s.size ≤ 4294967281 := by rw [hs, ofL_size]; have := wordL_len p q; omega
  have HK := Aside0.mk (show E ≤ 2147483640 by omega)
  have HW := Aside0.mk (rword_ok (some ad) c p q E s w0 P0.out hc hql' hs hE)
  have g0 : (s.toList == [110, 117, 108, 108]) = false := by rw [Lib.toList_data]; exact beq_eq_false_iff_ne.mpr k0
  have g1 : (s.toList == [116, 114, 117, 101]) = false := by rw [Lib.toList_data]; exact beq_eq_false_iff_ne.mpr k1
  have g2 : (s.toList == [102, 97, 108, 115, 101]) = false := by rw [Lib.toList_data]; exact beq_eq_false_iff_ne.mpr k2
  have HN := Aside0.mk (fun W => rnumo_none hsl hn W)
  clear hn
  clear hs hE k0 k1 k2
  go_enter Tryz.func50, Tryz.ntmps50
  go_wp2_with fail
  rw [← hw0]
  clear hw0
  go_wp2_with (first | (go_at_call 85; (with_reducible refine HSK.out.mono ?_); rintro e w1 ⟨rfl, rfl⟩) | (go_at_call 86; (with_reducible refine B1c.out.mono ?_); rintro e w1 ⟨rfl, rfl⟩) | (go_at_call 90; (with_reducible refine HW.out.mono ?_); rintro e w2 ⟨rfl, hb2⟩; have H2 := Aside0.mk (HA.out.trans (hb2.mono HA.out.size)); have L2 := Aside0.mk (blk_below hb2 L0.out); have P2 := Aside0.mk (P0.out.below hb2); clear hb2; obtain ⟨⟨z0, z1, z2, z3, z4, z5⟩, y0, y1, y2, y3, y4, y5⟩ := six_c L2.out) | (go_at_call 91; (with_reducible refine (HN.out _).mono ?_); rintro e w3 ⟨rfl, rfl⟩))
  refine ret_put6 (v := .tuple #[.agg #[.int .u8 0, .int .i64 0, .int .i64 0, .string ⟨#[]⟩, .slice none 0 0, .slice none 0 0], .int .i64 0, .bool false]) L2.out (fun W2 z0 z1 z2 z3 z4 z5 => by simp [results, Tryz.results50, go_sem, zeroV, z0, z1, z2, z3, z4, z5]) rfl ?_
  exact ⟨put6_below H2.out (Nat.le_refl _) _ _ _ _ _ _, 0, ⟨#[]⟩, 0, rfl⟩
set_option maxRecDepth 100000 in
set_option maxHeartbeats 16000000 in
theorem rw4 (p : List UInt8) (hpl : p.length < 2147483640) (f : Nat) (HL : Aside0 (RLC p f)) (at_ deep : Nat) (A : Option Addr) (c : Nat) (n : Int) (w : World) (q : Nat) (s : ByteArray) (E : Nat) (hs : s = ofL (wordL (p.drop q))) (hE : q + (wordL (p.drop q)).length = E) (k0 : ¬ s.data.toList = nullL) (k1 : ¬ s.data.toList = trueL) (k2 : ¬ s.data.toList = falseL) (hn : numR s.data.toList = some n) (hd : digB s.data.toList = false) (hp : RB w A p) (hc : p.length ≤ c) (hat : at_ ≤ p.length) (hd40 : deep ≤ 40) (hq : skipAt p at_ = q) (hql : q < p.length) (b : UInt8) (hb : p[q]'hql = b) (B1 : Aside0 (pre p q [60, 60] = false)) (h91 : ¬ b = 91) (h60 : ¬ b = 60) (h47 : ¬ b = 47) :
    Calls Tryz.prog 50 #[.slice A p.length c, .int .i64 (at_ : Int), .int .i64 (deep : Int)] w (RValPost (some (⟨2, n, 0, ⟨#[]⟩, [], []⟩, E)) w) := by
  have HQ := Aside0.mk hq
  obtain ⟨w0, hw0⟩ : ∃ w0, w0 = w.alloc (.cells #[.int .u8 0, .int .i64 0, .int .i64 0, .string ⟨#[]⟩, .slice none 0 0, .slice none 0 0] 34) := ⟨_, rfl⟩
  have hA : Below w.heap.size w w0 := by rw [hw0]; exact (Below.refl _ _).alloc (Nat.le_refl _) _
  have L0 := Aside0.mk (show w0.heap[w.heap.size]? = some (.cells #[.int .u8 0, .int .i64 0, .int .i64 0, .string ⟨#[]⟩, .slice none 0 0, .slice none 0 0] 34 (0, 0)) by rw [hw0]; exact heap_alloc_new w _)
  have P0 := Aside0.mk (hp.below hA)
  have HA := Aside0.mk hA
  obtain ⟨ad, e, hcell⟩ := P0.out.at_ q hql
  subst e
  rw [hb] at hcell
  have hql' : q ≤ p.length := by omega
  have hBl : w.heap.size < w0.heap.size := (Array.getElem?_eq_some_iff.1 L0.out).1
  have B1c := Aside0.mk (starts_ok (some ad) c p q ⟨#[60, 60]⟩ false w0 P0.out hc hql' (by decide) B1.out)
  have HSK := Aside0.mk (rskip_ok (some ad) c p at_ q w0 P0.out hat HQ.out)
  have e91 : ((b.toNat : Int) == 91) = false := beq_eq_false_iff_ne.mpr (fun h => h91 (UInt8.toNat_inj.1 (by show b.toNat = 91; omega)))
  have e60 : ((b.toNat : Int) == 60) = false := beq_eq_false_iff_ne.mpr (fun h => h60 (UInt8.toNat_inj.1 (by show b.toNat = 60; omega)))
  have e47 : ((b.toNat : Int) == 47) = false := beq_eq_false_iff_ne.mpr (fun h => h47 (UInt8.toNat_inj.1 (by show b.toNat = 47; omega)))
  clear hq hA hp hb h91 h60 h47
  have hEl : E ≤ p.length := by rw [← hE]; exact word_end_le p q hql'
  have hsl : s.size ≤ 4294967281 := by rw [hs, ofL_size]; have := wordL_len p q; omega
  have HK := Aside0.mk (show E ≤ 2147483640 by omega)
  have HW := Aside0.mk (rword_ok (some ad) c p q E s w0 P0.out hc hql' hs hE)
  have g0 : (s.toList == [110, 117, 108, 108]) = false := by rw [Lib.toList_data]; exact beq_eq_false_iff_ne.mpr k0
  have g1 : (s.toList == [116, 114, 117, 101]) = false := by rw [Lib.toList_data]; exact beq_eq_false_iff_ne.mpr k1
  have g2 : (s.toList == [102, 97, 108, 115, 101]) = false := by rw [Lib.toList_data]; exact beq_eq_false_iff_ne.mpr k2
  have HN := Aside0.mk (fun W => rnumo_some hsl hn W)
  have HD := Aside0.mk (fun W => rdigits_ok s false W hsl hd)
  clear hn hd
  clear hs hE k0 k1 k2
  go_enter Tryz.func50, Tryz.ntmps50
  go_wp2_with fail
  rw [← hw0]
  clear hw0
  go_wp2_with (first | (go_at_call 85; (with_reducible refine HSK.out.mono ?_); rintro e w1 ⟨rfl, rfl⟩) | (go_at_call 86; (with_reducible refine B1c.out.mono ?_); rintro e w1 ⟨rfl, rfl⟩) | (go_at_call 90; (with_reducible refine HW.out.mono ?_); rintro e w2 ⟨rfl, hb2⟩; have H2 := Aside0.mk (HA.out.trans (hb2.mono HA.out.size)); have L2 := Aside0.mk (blk_below hb2 L0.out); have P2 := Aside0.mk (P0.out.below hb2); clear hb2; obtain ⟨⟨z0, z1, z2, z3, z4, z5⟩, y0, y1, y2, y3, y4, y5⟩ := six_c L2.out) | (go_at_call 91; (with_reducible refine (HN.out _).mono ?_); rintro e w3 ⟨rfl, rfl⟩) | (go_at_call 92; (with_reducible refine (HD.out _).mono ?_); rintro e w3 ⟨rfl, rfl⟩))
  refine ret_put6 (v := .tuple #[.agg #[.int .u8 2, .int .i64 n, .int .i64 0, .string ⟨#[]⟩, .slice none 0 0, .slice none 0 0], .int .i64 E, .bool true]) L2.out (fun W2 z0 z1 z2 z3 z4 z5 => by simp [results, Tryz.results50, go_sem, zeroV, z0, z1, z2, z3, z4, z5]) rfl ?_
  exact ⟨put6_below H2.out (Nat.le_refl _) _ _ _ _ _ _, .slice none 0 0, .slice none 0 0, rfl, Kd.R_nil _ _ _ _ _, Kd.R_nil _ _ _ _ _, HK.out⟩
end Go.Proofs.YtnckaeehcldheaaGreatDoor.Ob
end

section
set_option linter.unusedVariables false
set_option linter.unusedSimpArgs false
namespace Go.Proofs.YtnckaeehcldheaaGreatDoor.Ob
open Go.RowKit Go.Shelf YtnckaeehcldheaaGreatDoorW.PrintWords
set_option maxRecDepth 100000 in
set_option maxHeartbeats 16000000 in
theorem rw5 (p : List UInt8) (hpl : p.length < 2147483640) (f : Nat) (HL : Aside0 (RLC p f)) (at_ deep : Nat) (A : Option Addr) (c : Nat) (n : Int) (w : World) (q : Nat) (s : ByteArray) (E : Nat) (hs : s = ofL (wordL (p.drop q))) (hE : q + (wordL (p.drop q)).length = E) (k0 : ¬ s.data.toList = nullL) (k1 : ¬ s.data.toList = trueL) (k2 : ¬ s.data.toList = falseL) (hn : numR s.data.toList = some n) (hd : digB s.data.toList = true) (gen : ByteArray) (a1 : Nat) (last : ByteArray) (a2 : Nat) (hgen : gen = ofL (wordL (p.drop (skipAt p E)))) (ha1 : skipAt p E + (wordL (p.drop (skipAt p E))).length = a1) (hlast : last = ofL (wordL (p.drop (skipAt p a1)))) (ha2 : skipAt p a1 + (wordL (p.drop (skipAt p a1))).length = a2) (hg : numR gen.data.toList = none) (hp : RB w A p) (hc : p.length ≤ c) (hat : at_ ≤ p.length) (hd40 : deep ≤ 40) (hq : skipAt p at_ = q) (hql : q < p.length) (b : UInt8) (hb : p[q]'hql = b) (B1 : Aside0 (pre p q [60, 60] = false)) (h91 : ¬ b = 91) (h60 : ¬ b = 60) (h47 : ¬ b = 47) :
    Calls Tryz.prog 50 #[.slice A p.length c, .int .i64 (at_ : Int), .int .i64 (deep : Int)] w (RValPost (some (⟨2, n, 0, ⟨#[]⟩, [], []⟩, E)) w) := by
  have HQ := Aside0.mk hq
  obtain ⟨w0, hw0⟩ : ∃ w0, w0 = w.alloc (.cells #[.int .u8 0, .int .i64 0, .int .i64 0, .string ⟨#[]⟩, .slice none 0 0, .slice none 0 0] 34) := ⟨_, rfl⟩
  have hA : Below w.heap.size w w0 := by rw [hw0]; exact (Below.refl _ _).alloc (Nat.le_refl _) _
  have L0 := Aside0.mk (show w0.heap[w.heap.size]? = some (.cells #[.int .u8 0, .int .i64 0, .int .i64 0, .string ⟨#[]⟩, .slice none 0 0, .slice none 0 0] 34 (0, 0)) by rw [hw0]; exact heap_alloc_new w _)
  have P0 := Aside0.mk (hp.below hA)
  have HA := Aside0.mk hA
  obtain ⟨ad, e, hcell⟩ := P0.out.at_ q hql
  subst e
  rw [hb] at hcell
  have hql' : q ≤ p.length := by omega
  have hBl : w.heap.size < w0.heap.size := (Array.getElem?_eq_some_iff.1 L0.out).1
  have B1c := Aside0.mk (starts_ok (some ad) c p q ⟨#[60, 60]⟩ false w0 P0.out hc hql' (by decide) B1.out)
  have HSK := Aside0.mk (rskip_ok (some ad) c p at_ q w0 P0.out hat HQ.out)
  have e91 : ((b.toNat : Int) == 91) = false := beq_eq_false_iff_ne.mpr (fun h => h91 (UInt8.toNat_inj.1 (by show b.toNat = 91; omega)))
  have e60 : ((b.toNat : Int) == 60) = false := beq_eq_false_iff_ne.mpr (fun h => h60 (UInt8.toNat_inj.1 (by show b.toNat = 60; omega)))
  have e47 : ((b.toNat : Int) == 47) = false := beq_eq_false_iff_ne.mpr (fun h => h47 (UInt8.toNat_inj.1 (by show b.toNat = 47; omega)))
  clear hq hA hp hb h91 h60 h47
  have hEl : E ≤ p.length := by rw [← hE]; exact word_end_le p q hql'
  have hsl : s.size ≤ 4294967281 := by rw [hs, ofL_size]; have := wordL_len p q; omega
  have HK := Aside0.mk (show E ≤ 2147483640 by omega)
  have HW := Aside0.mk (rword_ok (some ad) c p q E s w0 P0.out hc hql' hs hE)
  have g0 : (s.toList == [110, 117, 108, 108]) = false := by rw [Lib.toList_data]; exact beq_eq_false_iff_ne.mpr k0
  have g1 : (s.toList == [116, 114, 117, 101]) = false := by rw [Lib.toList_data]; exact beq_eq_false_iff_ne.mpr k1
  have g2 : (s.toList == [102, 97, 108, 115, 101]) = false := by rw [Lib.toList_data]; exact beq_eq_false_iff_ne.mpr k2
  have HN := Aside0.mk (fun W => rnumo_some hsl hn W)
  have HD := Aside0.mk (fun W => rdigits_ok s true W hsl hd)
  obtain ⟨s1, hs1⟩ : ∃ s1, skipAt p E = s1 := ⟨_, rfl⟩
  have hs1l : s1 ≤ p.length := by rw [← hs1]; exact skipAt_le hEl
  have ha1l : a1 ≤ p.length := by rw [← ha1, hs1]; exact word_end_le p s1 hs1l
  obtain ⟨s2, hs2⟩ : ∃ s2, skipAt p a1 = s2 := ⟨_, rfl⟩
  have hs2l : s2 ≤ p.length := by rw [← hs2]; exact skipAt_le ha1l
  have ha2l : a2 ≤ p.length := by rw [← ha2, hs2]; exact word_end_le p s2 hs2l
  rw [hs1] at hgen ha1
  rw [hs2] at hlast ha2
  have hgl : gen.size ≤ 4294967281 := by rw [hgen, ofL_size]; have := wordL_len p s1; omega
  have HS1 := Aside0.mk (fun W hW => rskip_ok (some ad) c p E s1 W hW hEl hs1)
  have HW1 := Aside0.mk (fun W hW => rword_ok (some ad) c p s1 a1 gen W hW hc hs1l hgen ha1)
  have HS2 := Aside0.mk (fun W hW => rskip_ok (some ad) c p a1 s2 W hW ha1l hs2)
  have HW2 := Aside0.mk (fun W hW => rword_ok (some ad) c p s2 a2 last W hW hc hs2l hlast ha2)
  have HK2 := Aside0.mk (show a2 ≤ 2147483640 by omega)
  clear hs1 hs2 hgen hlast ha1 ha2 hn hd
  have HG := Aside0.mk (fun W => rnumo_none hgl hg W)
  clear hg
  clear hs hE k0 k1 k2
  go_enter Tryz.func50, Tryz.ntmps50
  go_wp2_with fail
  rw [← hw0]
  clear hw0
  go_wp2_with (first | (go_at_call 85; (with_reducible refine HSK.out.mono ?_); rintro e w1 ⟨rfl, rfl⟩) | (go_at_call 86; (with_reducible refine B1c.out.mono ?_); rintro e w1 ⟨rfl, rfl⟩) | (go_at_call 90; (with_reducible refine HW.out.mono ?_); rintro e w2 ⟨rfl, hb2⟩; have H2 := Aside0.mk (HA.out.trans (hb2.mono HA.out.size)); have L2 := Aside0.mk (blk_below hb2 L0.out); have P2 := Aside0.mk (P0.out.below hb2); clear hb2; obtain ⟨⟨z0, z1, z2, z3, z4, z5⟩, y0, y1, y2, y3, y4, y5⟩ := six_c L2.out) | (go_at_call 91; (with_reducible refine (HN.out _).mono ?_); rintro e w3 ⟨rfl, rfl⟩) | (go_at_call 92; (with_reducible refine (HD.out _).mono ?_); rintro e w3 ⟨rfl, rfl⟩) | (go_at_call 85; (with_reducible refine (HS1.out _ P2.out).mono ?_); rintro e w3 ⟨rfl, rfl⟩) | (go_at_call 90; (with_reducible refine (HW1.out _ P2.out).mono ?_); rintro e w3 ⟨rfl, hb3⟩; have H3 := Aside0.mk (H2.out.trans (hb3.mono H2.out.size)); have L3 := Aside0.mk (blk_below hb3 L2.out); have P3 := Aside0.mk (P2.out.below hb3); clear hb3) | (go_at_call 85; (with_reducible refine (HS2.out _ P3.out).mono ?_); rintro e w4 ⟨rfl, rfl⟩) | (go_at_call 90; (with_reducible refine (HW2.out _ P3.out).mono ?_); rintro e w4 ⟨rfl, hb4⟩; have H4 := Aside0.mk (H3.out.trans (hb4.mono H3.out.size)); have L4 := Aside0.mk (blk_below hb4 L3.out); clear hb4; obtain ⟨⟨z0, z1, z2, z3, z4, z5⟩, y0, y1, y2, y3, y4, y5⟩ := six_c L4.out) | (go_at_call 91; (with_reducible refine (HG.out _).mono ?_); rintro e w5 ⟨rfl, rfl⟩))
  refine ret_put6 (v := .tuple #[.agg #[.int .u8 2, .int .i64 n, .int .i64 0, .string ⟨#[]⟩, .slice none 0 0, .slice none 0 0], .int .i64 E, .bool true]) L4.out (fun W2 z0 z1 z2 z3 z4 z5 => by simp [results, Tryz.results50, go_sem, zeroV, z0, z1, z2, z3, z4, z5]) rfl ?_
  exact ⟨put6_below H4.out (Nat.le_refl _) _ _ _ _ _ _, .slice none 0 0, .slice none 0 0, rfl, Kd.R_nil _ _ _ _ _, Kd.R_nil _ _ _ _ _, HK.out⟩
set_option maxRecDepth 100000 in
set_option maxHeartbeats 16000000 in
theorem rw6 (p : List UInt8) (hpl : p.length < 2147483640) (f : Nat) (HL : Aside0 (RLC p f)) (at_ deep : Nat) (A : Option Addr) (c : Nat) (n g : Int) (w : World) (q : Nat) (s : ByteArray) (E : Nat) (hs : s = ofL (wordL (p.drop q))) (hE : q + (wordL (p.drop q)).length = E) (k0 : ¬ s.data.toList = nullL) (k1 : ¬ s.data.toList = trueL) (k2 : ¬ s.data.toList = falseL) (hn : numR s.data.toList = some n) (hd : digB s.data.toList = true) (gen : ByteArray) (a1 : Nat) (last : ByteArray) (a2 : Nat) (hgen : gen = ofL (wordL (p.drop (skipAt p E)))) (ha1 : skipAt p E + (wordL (p.drop (skipAt p E))).length = a1) (hlast : last = ofL (wordL (p.drop (skipAt p a1)))) (ha2 : skipAt p a1 + (wordL (p.drop (skipAt p a1))).length = a2) (hg : numR gen.data.toList = some g) (hdg : digB gen.data.toList = false) (hp : RB w A p) (hc : p.length ≤ c) (hat : at_ ≤ p.length) (hd40 : deep ≤ 40) (hq : skipAt p at_ = q) (hql : q < p.length) (b : UInt8) (hb : p[q]'hql = b) (B1 : Aside0 (pre p q [60, 60] = false)) (h91 : ¬ b = 91) (h60 : ¬ b = 60) (h47 : ¬ b = 47) :
    Calls Tryz.prog 50 #[.slice A p.length c, .int .i64 (at_ : Int), .int .i64 (deep : Int)] w (RValPost (some (⟨2, n, 0, ⟨#[]⟩, [], []⟩, E)) w) := by
  have HQ := Aside0.mk hq
  obtain ⟨w0, hw0⟩ : ∃ w0, w0 = w.alloc (.cells #[.int .u8 0, .int .i64 0, .int .i64 0, .string ⟨#[]⟩, .slice none 0 0, .slice none 0 0] 34) := ⟨_, rfl⟩
  have hA : Below w.heap.size w w0 := by rw [hw0]; exact (Below.refl _ _).alloc (Nat.le_refl _) _
  have L0 := Aside0.mk (show w0.heap[w.heap.size]? = some (.cells #[.int .u8 0, .int .i64 0, .int .i64 0, .string ⟨#[]⟩, .slice none 0 0, .slice none 0 0] 34 (0, 0)) by rw [hw0]; exact heap_alloc_new w _)
  have P0 := Aside0.mk (hp.below hA)
  have HA := Aside0.mk hA
  obtain ⟨ad, e, hcell⟩ := P0.out.at_ q hql
  subst e
  rw [hb] at hcell
  have hql' : q ≤ p.length := by omega
  have hBl : w.heap.size < w0.heap.size := (Array.getElem?_eq_some_iff.1 L0.out).1
  have B1c := Aside0.mk (starts_ok (some ad) c p q ⟨#[60, 60]⟩ false w0 P0.out hc hql' (by decide) B1.out)
  have HSK := Aside0.mk (rskip_ok (some ad) c p at_ q w0 P0.out hat HQ.out)
  have e91 : ((b.toNat : Int) == 91) = false := beq_eq_false_iff_ne.mpr (fun h => h91 (UInt8.toNat_inj.1 (by show b.toNat = 91; omega)))
  have e60 : ((b.toNat : Int) == 60) = false := beq_eq_false_iff_ne.mpr (fun h => h60 (UInt8.toNat_inj.1 (by show b.toNat = 60; omega)))
  have e47 : ((b.toNat : Int) == 47) = false := beq_eq_false_iff_ne.mpr (fun h => h47 (UInt8.toNat_inj.1 (by show b.toNat = 47; omega)))
  clear hq hA hp hb h91 h60 h47
  have hEl : E ≤ p.length := by rw [← hE]; exact word_end_le p q hql'
  have hsl : s.size ≤ 4294967281 := by rw [hs, ofL_size]; have := wordL_len p q; omega
  have HK := Aside0.mk (show E ≤ 2147483640 by omega)
  have HW := Aside0.mk (rword_ok (some ad) c p q E s w0 P0.out hc hql' hs hE)
  have g0 : (s.toList == [110, 117, 108, 108]) = false := by rw [Lib.toList_data]; exact beq_eq_false_iff_ne.mpr k0
  have g1 : (s.toList == [116, 114, 117, 101]) = false := by rw [Lib.toList_data]; exact beq_eq_false_iff_ne.mpr k1
  have g2 : (s.toList == [102, 97, 108, 115, 101]) = false := by rw [Lib.toList_data]; exact beq_eq_false_iff_ne.mpr k2
  have HN := Aside0.mk (fun W => rnumo_some hsl hn W)
  have HD := Aside0.mk (fun W => rdigits_ok s true W hsl hd)
  obtain ⟨s1, hs1⟩ : ∃ s1, skipAt p E = s1 := ⟨_, rfl⟩
  have hs1l : s1 ≤ p.length := by rw [← hs1]; exact skipAt_le hEl
  have ha1l : a1 ≤ p.length := by rw [← ha1, hs1]; exact word_end_le p s1 hs1l
  obtain ⟨s2, hs2⟩ : ∃ s2, skipAt p a1 = s2 := ⟨_, rfl⟩
  have hs2l : s2 ≤ p.length := by rw [← hs2]; exact skipAt_le ha1l
  have ha2l : a2 ≤ p.length := by rw [← ha2, hs2]; exact word_end_le p s2 hs2l
  rw [hs1] at hgen ha1
  rw [hs2] at hlast ha2
  have hgl : gen.size ≤ 4294967281 := by rw [hgen, ofL_size]; have := wordL_len p s1; omega
  have HS1 := Aside0.mk (fun W hW => rskip_ok (some ad) c p E s1 W hW hEl hs1)
  have HW1 := Aside0.mk (fun W hW => rword_ok (some ad) c p s1 a1 gen W hW hc hs1l hgen ha1)
  have HS2 := Aside0.mk (fun W hW => rskip_ok (some ad) c p a1 s2 W hW ha1l hs2)
  have HW2 := Aside0.mk (fun W hW => rword_ok (some ad) c p s2 a2 last W hW hc hs2l hlast ha2)
  have HK2 := Aside0.mk (show a2 ≤ 2147483640 by omega)
  clear hs1 hs2 hgen hlast ha1 ha2 hn hd
  have HG := Aside0.mk (fun W => rnumo_some hgl hg W)
  have HDG := Aside0.mk (fun W => rdigits_ok gen false W hgl hdg)
  clear hg hdg
  clear hs hE k0 k1 k2
  go_enter Tryz.func50, Tryz.ntmps50
  go_wp2_with fail
  rw [← hw0]
  clear hw0
  go_wp2_with (first | (go_at_call 85; (with_reducible refine HSK.out.mono ?_); rintro e w1 ⟨rfl, rfl⟩) | (go_at_call 86; (with_reducible refine B1c.out.mono ?_); rintro e w1 ⟨rfl, rfl⟩) | (go_at_call 90; (with_reducible refine HW.out.mono ?_); rintro e w2 ⟨rfl, hb2⟩; have H2 := Aside0.mk (HA.out.trans (hb2.mono HA.out.size)); have L2 := Aside0.mk (blk_below hb2 L0.out); have P2 := Aside0.mk (P0.out.below hb2); clear hb2; obtain ⟨⟨z0, z1, z2, z3, z4, z5⟩, y0, y1, y2, y3, y4, y5⟩ := six_c L2.out) | (go_at_call 91; (with_reducible refine (HN.out _).mono ?_); rintro e w3 ⟨rfl, rfl⟩) | (go_at_call 92; (with_reducible refine (HD.out _).mono ?_); rintro e w3 ⟨rfl, rfl⟩) | (go_at_call 85; (with_reducible refine (HS1.out _ P2.out).mono ?_); rintro e w3 ⟨rfl, rfl⟩) | (go_at_call 90; (with_reducible refine (HW1.out _ P2.out).mono ?_); rintro e w3 ⟨rfl, hb3⟩; have H3 := Aside0.mk (H2.out.trans (hb3.mono H2.out.size)); have L3 := Aside0.mk (blk_below hb3 L2.out); have P3 := Aside0.mk (P2.out.below hb3); clear hb3) | (go_at_call 85; (with_reducible refine (HS2.out _ P3.out).mono ?_); rintro e w4 ⟨rfl, rfl⟩) | (go_at_call 90; (with_reducible refine (HW2.out _ P3.out).mono ?_); rintro e w4 ⟨rfl, hb4⟩; have H4 := Aside0.mk (H3.out.trans (hb4.mono H3.out.size)); have L4 := Aside0.mk (blk_below hb4 L3.out); clear hb4; obtain ⟨⟨z0, z1, z2, z3, z4, z5⟩, y0, y1, y2, y3, y4, y5⟩ := six_c L4.out) | (go_at_call 91; (with_reducible refine (HG.out _).mono ?_); rintro e w5 ⟨rfl, rfl⟩) | (go_at_call 92; (with_reducible refine (HDG.out _).mono ?_); rintro e w5 ⟨rfl, rfl⟩))
  refine ret_put6 (v := .tuple #[.agg #[.int .u8 2, .int .i64 n, .int .i64 0, .string ⟨#[]⟩, .slice none 0 0, .slice none 0 0], .int .i64 E, .bool true]) L4.out (fun W2 z0 z1 z2 z3 z4 z5 => by simp [results, Tryz.results50, go_sem, zeroV, z0, z1, z2, z3, z4, z5]) rfl ?_
  exact ⟨put6_below H4.out (Nat.le_refl _) _ _ _ _ _ _, .slice none 0 0, .slice none 0 0, rfl, Kd.R_nil _ _ _ _ _, Kd.R_nil _ _ _ _ _, HK.out⟩
set_option maxRecDepth 100000 in
set_option maxHeartbeats 16000000 in
theorem rw7 (p : List UInt8) (hpl : p.length < 2147483640) (f : Nat) (HL : Aside0 (RLC p f)) (at_ deep : Nat) (A : Option Addr) (c : Nat) (n g : Int) (w : World) (q : Nat) (s : ByteArray) (E : Nat) (hs : s = ofL (wordL (p.drop q))) (hE : q + (wordL (p.drop q)).length = E) (k0 : ¬ s.data.toList = nullL) (k1 : ¬ s.data.toList = trueL) (k2 : ¬ s.data.toList = falseL) (hn : numR s.data.toList = some n) (hd : digB s.data.toList = true) (gen : ByteArray) (a1 : Nat) (last : ByteArray) (a2 : Nat) (hgen : gen = ofL (wordL (p.drop (skipAt p E)))) (ha1 : skipAt p E + (wordL (p.drop (skipAt p E))).length = a1) (hlast : last = ofL (wordL (p.drop (skipAt p a1)))) (ha2 : skipAt p a1 + (wordL (p.drop (skipAt p a1))).length = a2) (hg : numR gen.data.toList = some g) (hdg : digB gen.data.toList = true) (hR : ¬ last.data.toList = [82]) (hp : RB w A p) (hc : p.length ≤ c) (hat : at_ ≤ p.length) (hd40 : deep ≤ 40) (hq : skipAt p at_ = q) (hql : q < p.length) (b : UInt8) (hb : p[q]'hql = b) (B1 : Aside0 (pre p q [60, 60] = false)) (h91 : ¬ b = 91) (h60 : ¬ b = 60) (h47 : ¬ b = 47) :
    Calls Tryz.prog 50 #[.slice A p.length c, .int .i64 (at_ : Int), .int .i64 (deep : Int)] w (RValPost (some (⟨2, n, 0, ⟨#[]⟩, [], []⟩, E)) w) := by
  have HQ := Aside0.mk hq
  obtain ⟨w0, hw0⟩ : ∃ w0, w0 = w.alloc (.cells #[.int .u8 0, .int .i64 0, .int .i64 0, .string ⟨#[]⟩, .slice none 0 0, .slice none 0 0] 34) := ⟨_, rfl⟩
  have hA : Below w.heap.size w w0 := by rw [hw0]; exact (Below.refl _ _).alloc (Nat.le_refl _) _
  have L0 := Aside0.mk (show w0.heap[w.heap.size]? = some (.cells #[.int .u8 0, .int .i64 0, .int .i64 0, .string ⟨#[]⟩, .slice none 0 0, .slice none 0 0] 34 (0, 0)) by rw [hw0]; exact heap_alloc_new w _)
  have P0 := Aside0.mk (hp.below hA)
  have HA := Aside0.mk hA
  obtain ⟨ad, e, hcell⟩ := P0.out.at_ q hql
  subst e
  rw [hb] at hcell
  have hql' : q ≤ p.length := by omega
  have hBl : w.heap.size < w0.heap.size := (Array.getElem?_eq_some_iff.1 L0.out).1
  have B1c := Aside0.mk (starts_ok (some ad) c p q ⟨#[60, 60]⟩ false w0 P0.out hc hql' (by decide) B1.out)
  have HSK := Aside0.mk (rskip_ok (some ad) c p at_ q w0 P0.out hat HQ.out)
  have e91 : ((b.toNat : Int) == 91) = false := beq_eq_false_iff_ne.mpr (fun h => h91 (UInt8.toNat_inj.1 (by show b.toNat = 91; omega)))
  have e60 : ((b.toNat : Int) == 60) = false := beq_eq_false_iff_ne.mpr (fun h => h60 (UInt8.toNat_inj.1 (by show b.toNat = 60; omega)))
  have e47 : ((b.toNat : Int) == 47) = false := beq_eq_false_iff_ne.mpr (fun h => h47 (UInt8.toNat_inj.1 (by show b.toNat = 47; omega)))
  clear hq hA hp hb h91 h60 h47
  have hEl : E ≤ p.length := by rw [← hE]; exact word_end_le p q hql'
  have hsl : s.size ≤ 4294967281 := by rw [hs, ofL_size]; have := wordL_len p q; omega
  have HK := Aside0.mk (show E ≤ 2147483640 by omega)
  have HW := Aside0.mk (rword_ok (some ad) c p q E s w0 P0.out hc hql' hs hE)
  have g0 : (s.toList == [110, 117, 108, 108]) = false := by rw [Lib.toList_data]; exact beq_eq_false_iff_ne.mpr k0
  have g1 : (s.toList == [116, 114, 117, 101]) = false := by rw [Lib.toList_data]; exact beq_eq_false_iff_ne.mpr k1
  have g2 : (s.toList == [102, 97, 108, 115, 101]) = false := by rw [Lib.toList_data]; exact beq_eq_false_iff_ne.mpr k2
  have HN := Aside0.mk (fun W => rnumo_some hsl hn W)
  have HD := Aside0.mk (fun W => rdigits_ok s true W hsl hd)
  obtain ⟨s1, hs1⟩ : ∃ s1, skipAt p E = s1 := ⟨_, rfl⟩
  have hs1l : s1 ≤ p.length := by rw [← hs1]; exact skipAt_le hEl
  have ha1l : a1 ≤ p.length := by rw [← ha1, hs1]; exact word_end_le p s1 hs1l
  obtain ⟨s2, hs2⟩ : ∃ s2, skipAt p a1 = s2 := ⟨_, rfl⟩
  have hs2l : s2 ≤ p.length := by rw [← hs2]; exact skipAt_le ha1l
  have ha2l : a2 ≤ p.length := by rw [← ha2, hs2]; exact word_end_le p s2 hs2l
  rw [hs1] at hgen ha1
  rw [hs2] at hlast ha2
  have hgl : gen.size ≤ 4294967281 := by rw [hgen, ofL_size]; have := wordL_len p s1; omega
  have HS1 := Aside0.mk (fun W hW => rskip_ok (some ad) c p E s1 W hW hEl hs1)
  have HW1 := Aside0.mk (fun W hW => rword_ok (some ad) c p s1 a1 gen W hW hc hs1l hgen ha1)
  have HS2 := Aside0.mk (fun W hW => rskip_ok (some ad) c p a1 s2 W hW ha1l hs2)
  have HW2 := Aside0.mk (fun W hW => rword_ok (some ad) c p s2 a2 last W hW hc hs2l hlast ha2)
  have HK2 := Aside0.mk (show a2 ≤ 2147483640 by omega)
  clear hs1 hs2 hgen hlast ha1 ha2 hn hd
  have HG := Aside0.mk (fun W => rnumo_some hgl hg W)
  have HDG := Aside0.mk (fun W => rdigits_ok gen true W hgl hdg)
  clear hg hdg
  have gR : (last.toList == [82]) = false := by rw [Lib.toList_data]; exact beq_eq_false_iff_ne.mpr hR
  clear hR
  clear hs hE k0 k1 k2
  go_enter Tryz.func50, Tryz.ntmps50
  go_wp2_with fail
  rw [← hw0]
  clear hw0
  go_wp2_with (first | (go_at_call 85; (with_reducible refine HSK.out.mono ?_); rintro e w1 ⟨rfl, rfl⟩) | (go_at_call 86; (with_reducible refine B1c.out.mono ?_); rintro e w1 ⟨rfl, rfl⟩) | (go_at_call 90; (with_reducible refine HW.out.mono ?_); rintro e w2 ⟨rfl, hb2⟩; have H2 := Aside0.mk (HA.out.trans (hb2.mono HA.out.size)); have L2 := Aside0.mk (blk_below hb2 L0.out); have P2 := Aside0.mk (P0.out.below hb2); clear hb2; obtain ⟨⟨z0, z1, z2, z3, z4, z5⟩, y0, y1, y2, y3, y4, y5⟩ := six_c L2.out) | (go_at_call 91; (with_reducible refine (HN.out _).mono ?_); rintro e w3 ⟨rfl, rfl⟩) | (go_at_call 92; (with_reducible refine (HD.out _).mono ?_); rintro e w3 ⟨rfl, rfl⟩) | (go_at_call 85; (with_reducible refine (HS1.out _ P2.out).mono ?_); rintro e w3 ⟨rfl, rfl⟩) | (go_at_call 90; (with_reducible refine (HW1.out _ P2.out).mono ?_); rintro e w3 ⟨rfl, hb3⟩; have H3 := Aside0.mk (H2.out.trans (hb3.mono H2.out.size)); have L3 := Aside0.mk (blk_below hb3 L2.out); have P3 := Aside0.mk (P2.out.below hb3); clear hb3) | (go_at_call 85; (with_reducible refine (HS2.out _ P3.out).mono ?_); rintro e w4 ⟨rfl, rfl⟩) | (go_at_call 90; (with_reducible refine (HW2.out _ P3.out).mono ?_); rintro e w4 ⟨rfl, hb4⟩; have H4 := Aside0.mk (H3.out.trans (hb4.mono H3.out.size)); have L4 := Aside0.mk (blk_below hb4 L3.out); clear hb4; obtain ⟨⟨z0, z1, z2, z3, z4, z5⟩, y0, y1, y2, y3, y4, y5⟩ := six_c L4.out) | (go_at_call 91; (with_reducible refine (HG.out _).mono ?_); rintro e w5 ⟨rfl, rfl⟩) | (go_at_call 92; (with_reducible refine (HDG.out _).mono ?_); rintro e w5 ⟨rfl, rfl⟩))
  refine ret_put6 (v := .tuple #[.agg #[.int .u8 2, .int .i64 n, .int .i64 0, .string ⟨#[]⟩, .slice none 0 0, .slice none 0 0], .int .i64 E, .bool true]) L4.out (fun W2 z0 z1 z2 z3 z4 z5 => by simp [results, Tryz.results50, go_sem, zeroV, z0, z1, z2, z3, z4, z5]) rfl ?_
  exact ⟨put6_below H4.out (Nat.le_refl _) _ _ _ _ _ _, .slice none 0 0, .slice none 0 0, rfl, Kd.R_nil _ _ _ _ _, Kd.R_nil _ _ _ _ _, HK.out⟩
set_option maxRecDepth 100000 in
set_option maxHeartbeats 16000000 in
theorem rw8 (p : List UInt8) (hpl : p.length < 2147483640) (f : Nat) (HL : Aside0 (RLC p f)) (at_ deep : Nat) (A : Option Addr) (c : Nat) (n g : Int) (w : World) (q : Nat) (s : ByteArray) (E : Nat) (hs : s = ofL (wordL (p.drop q))) (hE : q + (wordL (p.drop q)).length = E) (k0 : ¬ s.data.toList = nullL) (k1 : ¬ s.data.toList = trueL) (k2 : ¬ s.data.toList = falseL) (hn : numR s.data.toList = some n) (hd : digB s.data.toList = true) (gen : ByteArray) (a1 : Nat) (last : ByteArray) (a2 : Nat) (hgen : gen = ofL (wordL (p.drop (skipAt p E)))) (ha1 : skipAt p E + (wordL (p.drop (skipAt p E))).length = a1) (hlast : last = ofL (wordL (p.drop (skipAt p a1)))) (ha2 : skipAt p a1 + (wordL (p.drop (skipAt p a1))).length = a2) (hg : numR gen.data.toList = some g) (hdg : digB gen.data.toList = true) (hR : last.data.toList = [82]) (hp : RB w A p) (hc : p.length ≤ c) (hat : at_ ≤ p.length) (hd40 : deep ≤ 40) (hq : skipAt p at_ = q) (hql : q < p.length) (b : UInt8) (hb : p[q]'hql = b) (B1 : Aside0 (pre p q [60, 60] = false)) (h91 : ¬ b = 91) (h60 : ¬ b = 60) (h47 : ¬ b = 47) :
    Calls Tryz.prog 50 #[.slice A p.length c, .int .i64 (at_ : Int), .int .i64 (deep : Int)] w (RValPost (some (⟨7, n, min g 100000, ⟨#[]⟩, [], []⟩, a2)) w) := by
  have HQ := Aside0.mk hq
  obtain ⟨w0, hw0⟩ : ∃ w0, w0 = w.alloc (.cells #[.int .u8 0, .int .i64 0, .int .i64 0, .string ⟨#[]⟩, .slice none 0 0, .slice none 0 0] 34) := ⟨_, rfl⟩
  have hA : Below w.heap.size w w0 := by rw [hw0]; exact (Below.refl _ _).alloc (Nat.le_refl _) _
  have L0 := Aside0.mk (show w0.heap[w.heap.size]? = some (.cells #[.int .u8 0, .int .i64 0, .int .i64 0, .string ⟨#[]⟩, .slice none 0 0, .slice none 0 0] 34 (0, 0)) by rw [hw0]; exact heap_alloc_new w _)
  have P0 := Aside0.mk (hp.below hA)
  have HA := Aside0.mk hA
  obtain ⟨ad, e, hcell⟩ := P0.out.at_ q hql
  subst e
  rw [hb] at hcell
  have hql' : q ≤ p.length := by omega
  have hBl : w.heap.size < w0.heap.size := (Array.getElem?_eq_some_iff.1 L0.out).1
  have B1c := Aside0.mk (starts_ok (some ad) c p q ⟨#[60, 60]⟩ false w0 P0.out hc hql' (by decide) B1.out)
  have HSK := Aside0.mk (rskip_ok (some ad) c p at_ q w0 P0.out hat HQ.out)
  have e91 : ((b.toNat : Int) == 91) = false := beq_eq_false_iff_ne.mpr (fun h => h91 (UInt8.toNat_inj.1 (by show b.toNat = 91; omega)))
  have e60 : ((b.toNat : Int) == 60) = false := beq_eq_false_iff_ne.mpr (fun h => h60 (UInt8.toNat_inj.1 (by show b.toNat = 60; omega)))
  have e47 : ((b.toNat : Int) == 47) = false := beq_eq_false_iff_ne.mpr (fun h => h47 (UInt8.toNat_inj.1 (by show b.toNat = 47; omega)))
  clear hq hA hp hb h91 h60 h47
  have hEl : E ≤ p.length := by rw [← hE]; exact word_end_le p q hql'
  have hsl : s.size ≤ 4294967281 := by rw [hs, ofL_size]; have := wordL_len p q; omega
  have HK := Aside0.mk (show E ≤ 2147483640 by omega)
  have HW := Aside0.mk (rword_ok (some ad) c p q E s w0 P0.out hc hql' hs hE)
  have g0 : (s.toList == [110, 117, 108, 108]) = false := by rw [Lib.toList_data]; exact beq_eq_false_iff_ne.mpr k0
  have g1 : (s.toList == [116, 114, 117, 101]) = false := by rw [Lib.toList_data]; exact beq_eq_false_iff_ne.mpr k1
  have g2 : (s.toList == [102, 97, 108, 115, 101]) = false := by rw [Lib.toList_data]; exact beq_eq_false_iff_ne.mpr k2
  have HN := Aside0.mk (fun W => rnumo_some hsl hn W)
  have HD := Aside0.mk (fun W => rdigits_ok s true W hsl hd)
  obtain ⟨s1, hs1⟩ : ∃ s1, skipAt p E = s1 := ⟨_, rfl⟩
  have hs1l : s1 ≤ p.length := by rw [← hs1]; exact skipAt_le hEl
  have ha1l : a1 ≤ p.length := by rw [← ha1, hs1]; exact word_end_le p s1 hs1l
  obtain ⟨s2, hs2⟩ : ∃ s2, skipAt p a1 = s2 := ⟨_, rfl⟩
  have hs2l : s2 ≤ p.length := by rw [← hs2]; exact skipAt_le ha1l
  have ha2l : a2 ≤ p.length := by rw [← ha2, hs2]; exact word_end_le p s2 hs2l
  rw [hs1] at hgen ha1
  rw [hs2] at hlast ha2
  have hgl : gen.size ≤ 4294967281 := by rw [hgen, ofL_size]; have := wordL_len p s1; omega
  have HS1 := Aside0.mk (fun W hW => rskip_ok (some ad) c p E s1 W hW hEl hs1)
  have HW1 := Aside0.mk (fun W hW => rword_ok (some ad) c p s1 a1 gen W hW hc hs1l hgen ha1)
  have HS2 := Aside0.mk (fun W hW => rskip_ok (some ad) c p a1 s2 W hW ha1l hs2)
  have HW2 := Aside0.mk (fun W hW => rword_ok (some ad) c p s2 a2 last W hW hc hs2l hlast ha2)
  have HK2 := Aside0.mk (show a2 ≤ 2147483640 by omega)
  clear hs1 hs2 hgen hlast ha1 ha2 hn hd
  have HG := Aside0.mk (fun W => rnumo_some hgl hg W)
  have HDG := Aside0.mk (fun W => rdigits_ok gen true W hgl hdg)
  clear hg hdg
  have gR : (last.toList == [82]) = true := by rw [Lib.toList_data, hR]; rfl
  clear hR
  clear hs hE k0 k1 k2
  go_enter Tryz.func50, Tryz.ntmps50
  go_wp2_with fail
  rw [← hw0]
  clear hw0
  go_wp2_with (first | (go_at_call 85; (with_reducible refine HSK.out.mono ?_); rintro e w1 ⟨rfl, rfl⟩) | (go_at_call 86; (with_reducible refine B1c.out.mono ?_); rintro e w1 ⟨rfl, rfl⟩) | (go_at_call 90; (with_reducible refine HW.out.mono ?_); rintro e w2 ⟨rfl, hb2⟩; have H2 := Aside0.mk (HA.out.trans (hb2.mono HA.out.size)); have L2 := Aside0.mk (blk_below hb2 L0.out); have P2 := Aside0.mk (P0.out.below hb2); clear hb2; obtain ⟨⟨z0, z1, z2, z3, z4, z5⟩, y0, y1, y2, y3, y4, y5⟩ := six_c L2.out) | (go_at_call 91; (with_reducible refine (HN.out _).mono ?_); rintro e w3 ⟨rfl, rfl⟩) | (go_at_call 92; (with_reducible refine (HD.out _).mono ?_); rintro e w3 ⟨rfl, rfl⟩) | (go_at_call 85; (with_reducible refine (HS1.out _ P2.out).mono ?_); rintro e w3 ⟨rfl, rfl⟩) | (go_at_call 90; (with_reducible refine (HW1.out _ P2.out).mono ?_); rintro e w3 ⟨rfl, hb3⟩; have H3 := Aside0.mk (H2.out.trans (hb3.mono H2.out.size)); have L3 := Aside0.mk (blk_below hb3 L2.out); have P3 := Aside0.mk (P2.out.below hb3); clear hb3) | (go_at_call 85; (with_reducible refine (HS2.out _ P3.out).mono ?_); rintro e w4 ⟨rfl, rfl⟩) | (go_at_call 90; (with_reducible refine (HW2.out _ P3.out).mono ?_); rintro e w4 ⟨rfl, hb4⟩; have H4 := Aside0.mk (H3.out.trans (hb4.mono H3.out.size)); have L4 := Aside0.mk (blk_below hb4 L3.out); clear hb4; obtain ⟨⟨z0, z1, z2, z3, z4, z5⟩, y0, y1, y2, y3, y4, y5⟩ := six_c L4.out) | (go_at_call 91; (with_reducible refine (HG.out _).mono ?_); rintro e w5 ⟨rfl, rfl⟩) | (go_at_call 92; (with_reducible refine (HDG.out _).mono ?_); rintro e w5 ⟨rfl, rfl⟩))
  refine ret_put6 (v := .tuple #[.agg #[.int .u8 7, .int .i64 n, .int .i64 (min g 100000), .string ⟨#[]⟩, .slice none 0 0, .slice none 0 0], .int .i64 a2, .bool true]) L4.out (fun W2 z0 z1 z2 z3 z4 z5 => by simp [results, Tryz.results50, go_sem, zeroV, z0, z1, z2, z3, z4, z5]) rfl ?_
  exact ⟨put6_below H4.out (Nat.le_refl _) _ _ _ _ _ _, .slice none 0 0, .slice none 0 0, rfl, Kd.R_nil _ _ _ _ _, Kd.R_nil _ _ _ _ _, HK2.out⟩
end Go.Proofs.YtnckaeehcldheaaGreatDoor.Ob
end

section
set_option linter.unusedVariables false
set_option linter.unusedSimpArgs false
namespace Go.Proofs.YtnckaeehcldheaaGreatDoor.Ob
open Go.RowKit Go.Shelf YtnckaeehcldheaaGreatDoorW.PrintWords
set_option maxRecDepth 100000 in
set_option maxHeartbeats 4000000 in
theorem rv_deep (p : List UInt8) (at_ deep : Nat) (A : Option Addr) (c : Nat) (w : World) (hp : RB w A p) (hat : at_ ≤ p.length) (hd : 40 < deep) (hd41 : deep ≤ 41) :
    Calls Tryz.prog 50 #[.slice A p.length c, .int .i64 (at_ : Int), .int .i64 (deep : Int)] w (RValPost none w) := by
  obtain ⟨w0, hw0⟩ : ∃ w0, w0 = w.alloc (.cells #[.int .u8 0, .int .i64 0, .int .i64 0, .string ⟨#[]⟩, .slice none 0 0, .slice none 0 0] 34) := ⟨_, rfl⟩
  have hA : Below w.heap.size w w0 := by rw [hw0]; exact (Below.refl _ _).alloc (Nat.le_refl _) _
  have L0 := Aside0.mk (show w0.heap[w.heap.size]? = some (.cells #[.int .u8 0, .int .i64 0, .int .i64 0, .string ⟨#[]⟩, .slice none 0 0, .slice none 0 0] 34 (0, 0)) by rw [hw0]; exact heap_alloc_new w _)
  have HA := Aside0.mk hA
  have HSK := Aside0.mk (rskip_ok A c p at_ _ w0 (hp.below hA) hat rfl)
  clear hA hp
  go_enter Tryz.func50, Tryz.ntmps50
  go_wp2_with fail
  rw [← hw0]
  clear hw0
  obtain ⟨⟨z0, z1, z2, z3, z4, z5⟩, y0, y1, y2, y3, y4, y5⟩ := six_c L0.out
  go_wp2_with (go_at_call 85; (with_reducible refine HSK.out.mono ?_); rintro e w1 ⟨rfl, rfl⟩)
  refine ret_put6 (v := .tuple #[.agg #[.int .u8 0, .int .i64 0, .int .i64 0, .string ⟨#[]⟩, .slice none 0 0, .slice none 0 0], .int .i64 0, .bool false]) L0.out (fun W2 z0 z1 z2 z3 z4 z5 => by simp [results, Tryz.results50, go_sem, zeroV, z0, z1, z2, z3, z4, z5]) rfl ?_
  exact ⟨put6_below HA.out (Nat.le_refl _) _ _ _ _ _ _, 0, ⟨#[]⟩, 0, rfl⟩
set_option maxRecDepth 100000 in
set_option maxHeartbeats 4000000 in
theorem rv_end (p : List UInt8) (at_ deep : Nat) (A : Option Addr) (c q : Nat) (w : World) (hp : RB w A p) (hat : at_ ≤ p.length) (hd : deep ≤ 40) (hq : skipAt p at_ = q) (hql : p.length ≤ q) :
    Calls Tryz.prog 50 #[.slice A p.length c, .int .i64 (at_ : Int), .int .i64 (deep : Int)] w (RValPost none w) := by
  obtain ⟨w0, hw0⟩ : ∃ w0, w0 = w.alloc (.cells #[.int .u8 0, .int .i64 0, .int .i64 0, .string ⟨#[]⟩, .slice none 0 0, .slice none 0 0] 34) := ⟨_, rfl⟩
  have hA : Below w.heap.size w w0 := by rw [hw0]; exact (Below.refl _ _).alloc (Nat.le_refl _) _
  have L0 := Aside0.mk (show w0.heap[w.heap.size]? = some (.cells #[.int .u8 0, .int .i64 0, .int .i64 0, .string ⟨#[]⟩, .slice none 0 0, .slice none 0 0] 34 (0, 0)) by rw [hw0]; exact heap_alloc_new w _)
  have HA := Aside0.mk hA
  have HSK := Aside0.mk (rskip_ok A c p at_ q w0 (hp.below hA) hat hq)
  clear hA hp hq
  go_enter Tryz.func50, Tryz.ntmps50
  go_wp2_with fail
  rw [← hw0]
  clear hw0
  obtain ⟨⟨z0, z1, z2, z3, z4, z5⟩, y0, y1, y2, y3, y4, y5⟩ := six_c L0.out
  go_wp2_with (go_at_call 85; (with_reducible refine HSK.out.mono ?_); rintro e w1 ⟨rfl, rfl⟩)
  refine ret_put6 (v := .tuple #[.agg #[.int .u8 0, .int .i64 0, .int .i64 0, .string ⟨#[]⟩, .slice none 0 0, .slice none 0 0], .int .i64 0, .bool false]) L0.out (fun W2 z0 z1 z2 z3 z4 z5 => by simp [results, Tryz.results50, go_sem, zeroV, z0, z1, z2, z3, z4, z5]) rfl ?_
  exact ⟨put6_below HA.out (Nat.le_refl _) _ _ _ _ _ _, 0, ⟨#[]⟩, 0, rfl⟩
theorem pre_at {p : List UInt8} {q : Nat} (h : q < p.length) {b : UInt8} (hb : p[q] = b) (c : UInt8) : pre p q [c] = true ↔ b = c := by
  rw [pre1 h, hb, beq_iff_eq]
theorem rword_all (p : List UInt8) (hpl : p.length < 2147483640) (f : Nat) (HL : Aside0 (RLC p f)) (at_ deep : Nat) (A : Option Addr) (c : Nat) (w : World) (q : Nat) (hp : RB w A p) (hc : p.length ≤ c) (hat : at_ ≤ p.length) (hd40 : deep ≤ 40) (hq : skipAt p at_ = q) (hql : q < p.length) (b : UInt8) (hb : p[q]'hql = b) (B1 : Aside0 (pre p q [60, 60] = false)) (h91 : ¬ b = 91) (h60 : ¬ b = 60) (h47 : ¬ b = 47) :
    Calls Tryz.prog 50 #[.slice A p.length c, .int .i64 (at_ : Int), .int .i64 (deep : Int)] w (RValPost (rwordS p q) w) := by
  unfold rwordS
  obtain ⟨s, hs⟩ : ∃ s, s = ofL (wordL (p.drop q)) := ⟨_, rfl⟩
  have hsl : wordL (p.drop q) = s.data.toList := by rw [hs, ofL_list]
  obtain ⟨E, hE⟩ : ∃ E, q + (wordL (p.drop q)).length = E := ⟨_, rfl⟩
  dsimp only
  rw [hE, hsl]
  by_cases k0 : s.data.toList = nullL
  · rw [if_pos k0]; exact rw0 p hpl f HL at_ deep A c w q s E hs hE k0 hp hc hat hd40 hq hql b hb B1 h91 h60 h47
  rw [if_neg k0]
  by_cases k1 : s.data.toList = trueL
  · rw [if_pos k1]; exact rw1 p hpl f HL at_ deep A c w q s E hs hE k0 k1 hp hc hat hd40 hq hql b hb B1 h91 h60 h47
  rw [if_neg k1]
  by_cases k2 : s.data.toList = falseL
  · rw [if_pos k2]; exact rw2 p hpl f HL at_ deep A c w q s E hs hE k0 k1 k2 hp hc hat hd40 hq hql b hb B1 h91 h60 h47
  rw [if_neg k2]
  cases hn : numR s.data.toList with
  | none => exact rw3 p hpl f HL at_ deep A c w q s E hs hE k0 k1 k2 hn hp hc hat hd40 hq hql b hb B1 h91 h60 h47
  | some n =>
    rw [Option.map_some]
    unfold rlinkS
    obtain ⟨gen, hgen⟩ : ∃ gen, gen = ofL (wordL (p.drop (skipAt p E))) := ⟨_, rfl⟩
    have hgl : wordL (p.drop (skipAt p E)) = gen.data.toList := by rw [hgen, ofL_list]
    obtain ⟨a1, ha1⟩ : ∃ a1, skipAt p E + (wordL (p.drop (skipAt p E))).length = a1 := ⟨_, rfl⟩
    obtain ⟨last, hlast⟩ : ∃ last, last = ofL (wordL (p.drop (skipAt p a1))) := ⟨_, rfl⟩
    have hll : wordL (p.drop (skipAt p a1)) = last.data.toList := by rw [hlast, ofL_list]
    obtain ⟨a2, ha2⟩ : ∃ a2, skipAt p a1 + (wordL (p.drop (skipAt p a1))).length = a2 := ⟨_, rfl⟩
    dsimp only
    rw [ha1, ha2, hgl, hll]
    cases hd : digB s.data.toList with
    | false => rw [if_neg (by simp)]; exact rw4 p hpl f HL at_ deep A c n w q s E hs hE k0 k1 k2 hn hd hp hc hat hd40 hq hql b hb B1 h91 h60 h47
    | true =>
      rw [if_pos rfl]
      cases hg : numR gen.data.toList with
      | none => exact rw5 p hpl f HL at_ deep A c n w q s E hs hE k0 k1 k2 hn hd gen a1 last a2 hgen ha1 hlast ha2 hg hp hc hat hd40 hq hql b hb B1 h91 h60 h47
      | some g =>
        dsimp only
        cases hdg : digB gen.data.toList with
        | false => rw [if_neg (by simp)]; exact rw6 p hpl f HL at_ deep A c n g w q s E hs hE k0 k1 k2 hn hd gen a1 last a2 hgen ha1 hlast ha2 hg hdg hp hc hat hd40 hq hql b hb B1 h91 h60 h47
        | true =>
          by_cases hR : last.data.toList = [82]
          · rw [if_pos ⟨rfl, hR⟩]; exact rw8 p hpl f HL at_ deep A c n g w q s E hs hE k0 k1 k2 hn hd gen a1 last a2 hgen ha1 hlast ha2 hg hdg hR hp hc hat hd40 hq hql b hb B1 h91 h60 h47
          · rw [if_neg (fun h => hR h.2)]; exact rw7 p hpl f HL at_ deep A c n g w q s E hs hE k0 k1 k2 hn hd gen a1 last a2 hgen ha1 hlast ha2 hg hdg hR hp hc hat hd40 hq hql b hb B1 h91 h60 h47
theorem rvalue_of_list (p : List UInt8) (hpl : p.length < 2147483640) (f : Nat) (hL : RLC p f) : RVC p (f + 1) := by
  intro at_ deep A c r w hr hp hc hat hdeep
  rw [rvalF] at hr
  obtain ⟨q, hq⟩ : ∃ q, skipAt p at_ = q := ⟨_, rfl⟩
  rw [hq] at hr
  by_cases k0 : 40 < deep
  · rw [if_pos k0] at hr
    obtain rfl := Option.some.inj hr
    exact rv_deep p at_ deep A c w hp hat k0 hdeep
  rw [if_neg k0] at hr
  have hd40 : deep ≤ 40 := by omega
  by_cases kq : p.length ≤ q
  · rw [if_pos kq] at hr
    obtain rfl := Option.some.inj hr
    exact rv_end p at_ deep A c q w hp hat hd40 hq kq
  rw [if_neg kq] at hr
  have hql : q < p.length := by omega
  obtain ⟨b, hb⟩ : ∃ b, p[q]'hql = b := ⟨_, rfl⟩
  cases t1 : pre p q [60, 60] with
  | true =>
    rw [if_pos t1] at hr
    cases r with
    | none => exact rv1n p hpl f ⟨hL⟩ at_ deep A c w q hr hp hc hat hd40 hq hql b hb ⟨t1⟩
    | some v => exact rv1s p hpl f ⟨hL⟩ at_ deep A c v.1 v.2 w q hr hp hc hat hd40 hq hql b hb ⟨t1⟩
  | false =>
  rw [if_neg (by simp [t1])] at hr
  by_cases h91 : b = 91
  · rw [if_pos ((pre_at hql hb 91).2 h91)] at hr
    cases r with
    | none => exact rv2n p hpl f ⟨hL⟩ at_ deep A c w q hr hp hc hat hd40 hq hql b hb ⟨t1⟩ h91
    | some v => exact rv2s p hpl f ⟨hL⟩ at_ deep A c v.1 v.2 w q hr hp hc hat hd40 hq hql b hb ⟨t1⟩ h91
  rw [if_neg (fun h => h91 ((pre_at hql hb 91).1 h))] at hr
  by_cases h60 : b = 60
  · rw [if_pos ((pre_at hql hb 60).2 h60)] at hr
    obtain rfl := Option.some.inj hr
    unfold rtextS
    cases ht : textS p (q + 1) with
    | none => exact rv3n p hpl f ⟨hL⟩ at_ deep A c w q ht hp hc hat hd40 hq hql b hb ⟨t1⟩ h91 h60
    | some v => exact rv3s p hpl f ⟨hL⟩ at_ deep A c v.1 v.2 w q ht hp hc hat hd40 hq hql b hb ⟨t1⟩ h91 h60
  rw [if_neg (fun h => h60 ((pre_at hql hb 60).1 h))] at hr
  by_cases h47 : b = 47
  · rw [if_pos ((pre_at hql hb 47).2 h47)] at hr
    obtain rfl := Option.some.inj hr
    unfold rnameS
    dsimp only
    cases ht : plainL (wordL (p.drop (q + 1))) with
    | false => rw [if_neg (by simp)]; exact rv4n p hpl f ⟨hL⟩ at_ deep A c w q ht hp hc hat hd40 hq hql b hb ⟨t1⟩ h91 h60 h47
    | true => rw [if_pos rfl]; exact rv4s p hpl f ⟨hL⟩ at_ deep A c w q ht hp hc hat hd40 hq hql b hb ⟨t1⟩ h91 h60 h47
  rw [if_neg (fun h => h47 ((pre_at hql hb 47).1 h))] at hr
  obtain rfl := Option.some.inj hr
  exact rword_all p hpl f ⟨hL⟩ at_ deep A c w q hp hc hat hd40 hq hql b hb ⟨t1⟩ h91 h60 h47
theorem RVC_all (p : List UInt8) (hpl : p.length < 2147483640) : ∀ f, f ≤ 100000000000 → RVC p f := by
  intro f
  induction f using Nat.strongRecOn with
  | _ f ih =>
    intro hf
    cases f with
    | zero => intro at_ deep A c r w hr; simp [rvalF] at hr
    | succ f => exact rvalue_of_list p hpl f (rlist_of p hpl f (by omega) (fun k hk => ih k (by omega) (by omega)))
theorem rvalue0_ok (p : List UInt8) (hpl : p.length < 2147483640) (A : Option Addr) (c : Nat) (w : World) (hp : RB w A p) (hc : p.length ≤ c) :
    Calls Tryz.prog 50 #[.slice A p.length c, .int .i64 0, .int .i64 0] w (RValPost (rparseV p) w) :=
  RVC_all p hpl (2 * p.length + 1) (by omega) 0 0 A c (rparseV p) w (rparseV_eq p) hp hc (by omega) (by omega)
end Go.Proofs.YtnckaeehcldheaaGreatDoor.Ob
end

section
set_option linter.unusedVariables false
set_option linter.unusedSimpArgs false
namespace Go.Proofs.YtnckaeehcldheaaGreatDoor.Ob
open Go.RowKit Go.Shelf YtnckaeehcldheaaGreatDoorW.PrintWords
set_option maxRecDepth 100000 in
set_option maxHeartbeats 16000000 in
theorem rr_bad (f0 f1 f2 : Int) (f3 : ByteArray) (f4 : List S28) (f5 : List ByteArray) (A4 : Option Addr) (c4 : Nat) (A5 : Option Addr) (c5 : Nat) (r : Bool) (w : World) (hz : Sz ⟨f0, f1, f2, f3, f4, f5⟩) (g4 : k34.C w A4 f4.length f4) (l4 : f4.length ≤ c4) (g5 : Kd.string.C w A5 f5.length f5) (l5 : f5.length ≤ c5) (hr : rrightB ⟨f0, f1, f2, f3, f4, f5⟩ = r) (hb : rbareB ⟨f0, f1, f2, f3, f4, f5⟩ = false) :
    Calls Tryz.prog 36 #[.agg #[.int .u8 f0, .int .i64 f1, .int .i64 f2, .string f3, .slice A4 f4.length c4, .slice A5 f5.length c5]] w fun e w' => e = .returned (.bool r) ∧ Below w.heap.size w w' := by
  rw [rrightB_eq] at hr
  dsimp only at hr
  have hzz := hz
  cases hzz with
  | mk z0 z3 z5 zl4 zl5 z4 =>
  dsimp only at z0 z3 z5 zl4 zl5 z4
  obtain ⟨bb, hbb⟩ : ∃ b, rbareB ⟨f0, f1, f2, f3, f4, f5⟩ = b := ⟨_, rfl⟩
  have HB := Aside0.mk (fun W (hW : Below w.heap.size w W) => Pr.punchcutref18_bare.calls 3 f0 f1 f2 f3 A4 c4 f4 A5 c5 f5 bb W (Kd.C_below g4 hW) l4 (Kd.C_below g5 hW) l5 ((bare_f (x := ⟨f0, f1, f2, f3, f4, f5⟩) zl4 zl5).trans (congrArg some hbb)))
  obtain ⟨hh, hhh⟩ : ∃ h, hgt ⟨f0, f1, f2, f3, f4, f5⟩ = h := ⟨_, rfl⟩
  obtain ⟨dd, hdd⟩ : ∃ d : Int, ((min 100 hh : Nat) : Int) = d := ⟨_, rfl⟩
  obtain ⟨K, hK⟩ := deep_f hz 100 (Nat.le_refl _)
  have hK := hK K (Nat.le_refl _)
  rw [hhh, hdd] at hK
  have HD := Aside0.mk (fun W (hW : Below w.heap.size w W) => Pr.punchcutref18_Deep.calls K f0 f1 f2 f3 A4 c4 f4 A5 c5 f5 100 dd W (Kd.C_below g4 hW) l4 (Kd.C_below g5 hW) l5 hK)
  have H4 := Aside0.mk g4
  have H5 := Aside0.mk g5
  have Z5 := Aside0.mk z5
  have Z4 := Aside0.mk z4
  have hhh0 := Aside0.mk (show hgtL f4 = hh ∧ ((min 100 hh : Nat) : Int) = dd from ⟨by rw [← hhh, hgt_eq], hdd⟩)
  rw [hbb, hhh] at hr
  clear hK g4 g5 z5 z4 hz hhh
  rw [hbb] at hb
  subst hb
  have hr' : r = false := by rw [← hr]; rfl
  subst hr'
  clear hr hbb hdd
  go_enter Tryz.func36, Tryz.ntmps36
  go_wp2_with (first | (go_at_call 63; (with_reducible refine (HB.out _ ((Below.refl _ _).alloc (Nat.le_refl _) _)).mono ?_); rintro e w2 ⟨rfl, hb2⟩; have HZ := Aside0.mk (show Below w.heap.size w w2 from ((Below.refl _ _).alloc (Nat.le_refl _) _).trans (hb2.mono (by simp))); have HL := Aside0.mk (blk_below hb2 (heap_alloc_new w _)); clear hb2; obtain ⟨⟨q0, q1, q2, q3, q4, q5⟩, -⟩ := six_c HL.out))
  go_ret
  exact ⟨rfl, HZ.out⟩
set_option maxRecDepth 100000 in
set_option maxHeartbeats 16000000 in
theorem rr_deep (f0 f1 f2 : Int) (f3 : ByteArray) (f4 : List S28) (f5 : List ByteArray) (A4 : Option Addr) (c4 : Nat) (A5 : Option Addr) (c5 : Nat) (r : Bool) (w : World) (hz : Sz ⟨f0, f1, f2, f3, f4, f5⟩) (g4 : k34.C w A4 f4.length f4) (l4 : f4.length ≤ c4) (g5 : Kd.string.C w A5 f5.length f5) (l5 : f5.length ≤ c5) (hr : rrightB ⟨f0, f1, f2, f3, f4, f5⟩ = r) (hb : rbareB ⟨f0, f1, f2, f3, f4, f5⟩ = true) (hd : ¬ hgt ⟨f0, f1, f2, f3, f4, f5⟩ ≤ 32) :
    Calls Tryz.prog 36 #[.agg #[.int .u8 f0, .int .i64 f1, .int .i64 f2, .string f3, .slice A4 f4.length c4, .slice A5 f5.length c5]] w fun e w' => e = .returned (.bool r) ∧ Below w.heap.size w w' := by
  rw [rrightB_eq] at hr
  dsimp only at hr
  have hzz := hz
  cases hzz with
  | mk z0 z3 z5 zl4 zl5 z4 =>
  dsimp only at z0 z3 z5 zl4 zl5 z4
  obtain ⟨bb, hbb⟩ : ∃ b, rbareB ⟨f0, f1, f2, f3, f4, f5⟩ = b := ⟨_, rfl⟩
  have HB := Aside0.mk (fun W (hW : Below w.heap.size w W) => Pr.punchcutref18_bare.calls 3 f0 f1 f2 f3 A4 c4 f4 A5 c5 f5 bb W (Kd.C_below g4 hW) l4 (Kd.C_below g5 hW) l5 ((bare_f (x := ⟨f0, f1, f2, f3, f4, f5⟩) zl4 zl5).trans (congrArg some hbb)))
  obtain ⟨hh, hhh⟩ : ∃ h, hgt ⟨f0, f1, f2, f3, f4, f5⟩ = h := ⟨_, rfl⟩
  obtain ⟨dd, hdd⟩ : ∃ d : Int, ((min 100 hh : Nat) : Int) = d := ⟨_, rfl⟩
  obtain ⟨K, hK⟩ := deep_f hz 100 (Nat.le_refl _)
  have hK := hK K (Nat.le_refl _)
  rw [hhh, hdd] at hK
  have HD := Aside0.mk (fun W (hW : Below w.heap.size w W) => Pr.punchcutref18_Deep.calls K f0 f1 f2 f3 A4 c4 f4 A5 c5 f5 100 dd W (Kd.C_below g4 hW) l4 (Kd.C_below g5 hW) l5 hK)
  have H4 := Aside0.mk g4
  have H5 := Aside0.mk g5
  have Z5 := Aside0.mk z5
  have Z4 := Aside0.mk z4
  have hhh0 := Aside0.mk (show hgtL f4 = hh ∧ ((min 100 hh : Nat) : Int) = dd from ⟨by rw [← hhh, hgt_eq], hdd⟩)
  rw [hbb, hhh] at hr
  clear hK g4 g5 z5 z4 hz hhh
  rw [hbb] at hb
  subst hb
  rw [hgt_eq] at hd
  dsimp only at hd
  have hr' : r = false := by rw [← hr, decide_eq_false (by rw [← hhh0.out.1]; exact hd)]; rfl
  subst hr'
  have hdl : 32 < dd := by have := hhh0.out; omega
  clear hr hbb hdd hd
  go_enter Tryz.func36, Tryz.ntmps36
  go_wp2_with (first | (go_at_call 63; (with_reducible refine (HB.out _ ((Below.refl _ _).alloc (Nat.le_refl _) _)).mono ?_); rintro e w2 ⟨rfl, hb2⟩; have HZ := Aside0.mk (show Below w.heap.size w w2 from ((Below.refl _ _).alloc (Nat.le_refl _) _).trans (hb2.mono (by simp))); have HL := Aside0.mk (blk_below hb2 (heap_alloc_new w _)); clear hb2; obtain ⟨⟨q0, q1, q2, q3, q4, q5⟩, -⟩ := six_c HL.out) | (go_at_call 64; (with_reducible refine (HD.out _ HZ.out).mono ?_); rintro e w3 ⟨rfl, hb3⟩; have HZ3 := Aside0.mk (bt HZ.out hb3); have HL3 := Aside0.mk (blk_below hb3 HL.out); clear hb3; obtain ⟨⟨p0, p1, p2, p3, p4, p5⟩, -⟩ := six_c HL3.out))
  go_ret
  exact ⟨rfl, HZ3.out⟩
set_option maxRecDepth 100000 in
set_option maxHeartbeats 16000000 in
theorem rr_1 (f0 f1 f2 : Int) (f3 : ByteArray) (f4 : List S28) (f5 : List ByteArray) (A4 : Option Addr) (c4 : Nat) (A5 : Option Addr) (c5 : Nat) (r : Bool) (w : World) (hz : Sz ⟨f0, f1, f2, f3, f4, f5⟩) (g4 : k34.C w A4 f4.length f4) (l4 : f4.length ≤ c4) (g5 : Kd.string.C w A5 f5.length f5) (l5 : f5.length ≤ c5) (hr : rrightB ⟨f0, f1, f2, f3, f4, f5⟩ = r) (hb : rbareB ⟨f0, f1, f2, f3, f4, f5⟩ = true) (hd : hgt ⟨f0, f1, f2, f3, f4, f5⟩ ≤ 32) (k1 : f0 = 1) :
    Calls Tryz.prog 36 #[.agg #[.int .u8 f0, .int .i64 f1, .int .i64 f2, .string f3, .slice A4 f4.length c4, .slice A5 f5.length c5]] w fun e w' => e = .returned (.bool r) ∧ Below w.heap.size w w' := by
  rw [rrightB_eq] at hr
  dsimp only at hr
  have hzz := hz
  cases hzz with
  | mk z0 z3 z5 zl4 zl5 z4 =>
  dsimp only at z0 z3 z5 zl4 zl5 z4
  obtain ⟨bb, hbb⟩ : ∃ b, rbareB ⟨f0, f1, f2, f3, f4, f5⟩ = b := ⟨_, rfl⟩
  have HB := Aside0.mk (fun W (hW : Below w.heap.size w W) => Pr.punchcutref18_bare.calls 3 f0 f1 f2 f3 A4 c4 f4 A5 c5 f5 bb W (Kd.C_below g4 hW) l4 (Kd.C_below g5 hW) l5 ((bare_f (x := ⟨f0, f1, f2, f3, f4, f5⟩) zl4 zl5).trans (congrArg some hbb)))
  obtain ⟨hh, hhh⟩ : ∃ h, hgt ⟨f0, f1, f2, f3, f4, f5⟩ = h := ⟨_, rfl⟩
  obtain ⟨dd, hdd⟩ : ∃ d : Int, ((min 100 hh : Nat) : Int) = d := ⟨_, rfl⟩
  obtain ⟨K, hK⟩ := deep_f hz 100 (Nat.le_refl _)
  have hK := hK K (Nat.le_refl _)
  rw [hhh, hdd] at hK
  have HD := Aside0.mk (fun W (hW : Below w.heap.size w W) => Pr.punchcutref18_Deep.calls K f0 f1 f2 f3 A4 c4 f4 A5 c5 f5 100 dd W (Kd.C_below g4 hW) l4 (Kd.C_below g5 hW) l5 hK)
  have H4 := Aside0.mk g4
  have H5 := Aside0.mk g5
  have Z5 := Aside0.mk z5
  have Z4 := Aside0.mk z4
  have hhh0 := Aside0.mk (show hgtL f4 = hh ∧ ((min 100 hh : Nat) : Int) = dd from ⟨by rw [← hhh, hgt_eq], hdd⟩)
  rw [hbb, hhh] at hr
  clear hK g4 g5 z5 z4 hz hhh
  rw [hbb] at hb
  subst hb
  have hdl : ¬ 32 < dd := by have := hhh0.out; rw [hgt_eq] at hd; dsimp only at hd; omega
  have hd2 : decide (hh ≤ 32) = true := decide_eq_true (by have := hhh0.out; rw [hgt_eq] at hd; dsimp only at hd; omega)
  rw [hd2, Bool.true_and, Bool.true_and] at hr
  clear hbb hdd hd hd2
  have e1 : (f0 == 1) = true := by simp [k1]
  rw [if_pos k1] at hr
  clear k1
  have HR := Aside0.mk hr
  clear hr
  go_enter Tryz.func36, Tryz.ntmps36
  go_wp2_with (first | (go_at_call 63; (with_reducible refine (HB.out _ ((Below.refl _ _).alloc (Nat.le_refl _) _)).mono ?_); rintro e w2 ⟨rfl, hb2⟩; have HZ := Aside0.mk (show Below w.heap.size w w2 from ((Below.refl _ _).alloc (Nat.le_refl _) _).trans (hb2.mono (by simp))); have HL := Aside0.mk (blk_below hb2 (heap_alloc_new w _)); clear hb2; obtain ⟨⟨q0, q1, q2, q3, q4, q5⟩, -⟩ := six_c HL.out) | (go_at_call 64; (with_reducible refine (HD.out _ HZ.out).mono ?_); rintro e w3 ⟨rfl, hb3⟩; have HZ3 := Aside0.mk (bt HZ.out hb3); have HL3 := Aside0.mk (blk_below hb3 HL.out); clear hb3; obtain ⟨⟨p0, p1, p2, p3, p4, p5⟩, -⟩ := six_c HL3.out))
  all_goals
    go_ret
    exact ⟨by rw [← HR.out]; first | (simp [*]; done) | (simp [*]; omega), HZ3.out⟩
set_option maxRecDepth 100000 in
set_option maxHeartbeats 16000000 in
theorem rr_3 (f0 f1 f2 : Int) (f3 : ByteArray) (f4 : List S28) (f5 : List ByteArray) (A4 : Option Addr) (c4 : Nat) (A5 : Option Addr) (c5 : Nat) (r : Bool) (w : World) (hz : Sz ⟨f0, f1, f2, f3, f4, f5⟩) (g4 : k34.C w A4 f4.length f4) (l4 : f4.length ≤ c4) (g5 : Kd.string.C w A5 f5.length f5) (l5 : f5.length ≤ c5) (hr : rrightB ⟨f0, f1, f2, f3, f4, f5⟩ = r) (hb : rbareB ⟨f0, f1, f2, f3, f4, f5⟩ = true) (hd : hgt ⟨f0, f1, f2, f3, f4, f5⟩ ≤ 32) (k1 : ¬ f0 = 1) (k3 : f0 = 3) :
    Calls Tryz.prog 36 #[.agg #[.int .u8 f0, .int .i64 f1, .int .i64 f2, .string f3, .slice A4 f4.length c4, .slice A5 f5.length c5]] w fun e w' => e = .returned (.bool r) ∧ Below w.heap.size w w' := by
  rw [rrightB_eq] at hr
  dsimp only at hr
  have hzz := hz
  cases hzz with
  | mk z0 z3 z5 zl4 zl5 z4 =>
  dsimp only at z0 z3 z5 zl4 zl5 z4
  obtain ⟨bb, hbb⟩ : ∃ b, rbareB ⟨f0, f1, f2, f3, f4, f5⟩ = b := ⟨_, rfl⟩
  have HB := Aside0.mk (fun W (hW : Below w.heap.size w W) => Pr.punchcutref18_bare.calls 3 f0 f1 f2 f3 A4 c4 f4 A5 c5 f5 bb W (Kd.C_below g4 hW) l4 (Kd.C_below g5 hW) l5 ((bare_f (x := ⟨f0, f1, f2, f3, f4, f5⟩) zl4 zl5).trans (congrArg some hbb)))
  obtain ⟨hh, hhh⟩ : ∃ h, hgt ⟨f0, f1, f2, f3, f4, f5⟩ = h := ⟨_, rfl⟩
  obtain ⟨dd, hdd⟩ : ∃ d : Int, ((min 100 hh : Nat) : Int) = d := ⟨_, rfl⟩
  obtain ⟨K, hK⟩ := deep_f hz 100 (Nat.le_refl _)
  have hK := hK K (Nat.le_refl _)
  rw [hhh, hdd] at hK
  have HD := Aside0.mk (fun W (hW : Below w.heap.size w W) => Pr.punchcutref18_Deep.calls K f0 f1 f2 f3 A4 c4 f4 A5 c5 f5 100 dd W (Kd.C_below g4 hW) l4 (Kd.C_below g5 hW) l5 hK)
  have H4 := Aside0.mk g4
  have H5 := Aside0.mk g5
  have Z5 := Aside0.mk z5
  have Z4 := Aside0.mk z4
  have hhh0 := Aside0.mk (show hgtL f4 = hh ∧ ((min 100 hh : Nat) : Int) = dd from ⟨by rw [← hhh, hgt_eq], hdd⟩)
  rw [hbb, hhh] at hr
  clear hK g4 g5 z5 z4 hz hhh
  rw [hbb] at hb
  subst hb
  have hdl : ¬ 32 < dd := by have := hhh0.out; rw [hgt_eq] at hd; dsimp only at hd; omega
  have hd2 : decide (hh ≤ 32) = true := decide_eq_true (by have := hhh0.out; rw [hgt_eq] at hd; dsimp only at hd; omega)
  rw [hd2, Bool.true_and, Bool.true_and] at hr
  clear hbb hdd hd hd2
  have e1 : (f0 == 1) = false := by simp [k1]
  rw [if_neg k1] at hr
  have e3 : (f0 == 3) = true := by simp [k3]
  rw [if_pos k3] at hr
  clear k1 k3
  have HPL := Aside0.mk (fun W => rplain_ok f3 r W z3 hr)
  clear hr
  go_enter Tryz.func36, Tryz.ntmps36
  go_wp2_with (first | (go_at_call 63; (with_reducible refine (HB.out _ ((Below.refl _ _).alloc (Nat.le_refl _) _)).mono ?_); rintro e w2 ⟨rfl, hb2⟩; have HZ := Aside0.mk (show Below w.heap.size w w2 from ((Below.refl _ _).alloc (Nat.le_refl _) _).trans (hb2.mono (by simp))); have HL := Aside0.mk (blk_below hb2 (heap_alloc_new w _)); clear hb2; obtain ⟨⟨q0, q1, q2, q3, q4, q5⟩, -⟩ := six_c HL.out) | (go_at_call 64; (with_reducible refine (HD.out _ HZ.out).mono ?_); rintro e w3 ⟨rfl, hb3⟩; have HZ3 := Aside0.mk (bt HZ.out hb3); have HL3 := Aside0.mk (blk_below hb3 HL.out); clear hb3; obtain ⟨⟨p0, p1, p2, p3, p4, p5⟩, -⟩ := six_c HL3.out) | (go_at_call 46; (with_reducible refine (HPL.out _).mono ?_); rintro e w4 ⟨rfl, hb4⟩; have HZ4 := Aside0.mk (bt HZ3.out hb4); clear hb4))
  go_ret
  exact ⟨rfl, HZ4.out⟩
set_option maxRecDepth 100000 in
set_option maxHeartbeats 16000000 in
theorem rr_7 (f0 f1 f2 : Int) (f3 : ByteArray) (f4 : List S28) (f5 : List ByteArray) (A4 : Option Addr) (c4 : Nat) (A5 : Option Addr) (c5 : Nat) (r : Bool) (w : World) (hz : Sz ⟨f0, f1, f2, f3, f4, f5⟩) (g4 : k34.C w A4 f4.length f4) (l4 : f4.length ≤ c4) (g5 : Kd.string.C w A5 f5.length f5) (l5 : f5.length ≤ c5) (hr : rrightB ⟨f0, f1, f2, f3, f4, f5⟩ = r) (hb : rbareB ⟨f0, f1, f2, f3, f4, f5⟩ = true) (hd : hgt ⟨f0, f1, f2, f3, f4, f5⟩ ≤ 32) (k1 : ¬ f0 = 1) (k3 : ¬ f0 = 3) (k7 : f0 = 7) :
    Calls Tryz.prog 36 #[.agg #[.int .u8 f0, .int .i64 f1, .int .i64 f2, .string f3, .slice A4 f4.length c4, .slice A5 f5.length c5]] w fun e w' => e = .returned (.bool r) ∧ Below w.heap.size w w' := by
  rw [rrightB_eq] at hr
  dsimp only at hr
  have hzz := hz
  cases hzz with
  | mk z0 z3 z5 zl4 zl5 z4 =>
  dsimp only at z0 z3 z5 zl4 zl5 z4
  obtain ⟨bb, hbb⟩ : ∃ b, rbareB ⟨f0, f1, f2, f3, f4, f5⟩ = b := ⟨_, rfl⟩
  have HB := Aside0.mk (fun W (hW : Below w.heap.size w W) => Pr.punchcutref18_bare.calls 3 f0 f1 f2 f3 A4 c4 f4 A5 c5 f5 bb W (Kd.C_below g4 hW) l4 (Kd.C_below g5 hW) l5 ((bare_f (x := ⟨f0, f1, f2, f3, f4, f5⟩) zl4 zl5).trans (congrArg some hbb)))
  obtain ⟨hh, hhh⟩ : ∃ h, hgt ⟨f0, f1, f2, f3, f4, f5⟩ = h := ⟨_, rfl⟩
  obtain ⟨dd, hdd⟩ : ∃ d : Int, ((min 100 hh : Nat) : Int) = d := ⟨_, rfl⟩
  obtain ⟨K, hK⟩ := deep_f hz 100 (Nat.le_refl _)
  have hK := hK K (Nat.le_refl _)
  rw [hhh, hdd] at hK
  have HD := Aside0.mk (fun W (hW : Below w.heap.size w W) => Pr.punchcutref18_Deep.calls K f0 f1 f2 f3 A4 c4 f4 A5 c5 f5 100 dd W (Kd.C_below g4 hW) l4 (Kd.C_below g5 hW) l5 hK)
  have H4 := Aside0.mk g4
  have H5 := Aside0.mk g5
  have Z5 := Aside0.mk z5
  have Z4 := Aside0.mk z4
  have hhh0 := Aside0.mk (show hgtL f4 = hh ∧ ((min 100 hh : Nat) : Int) = dd from ⟨by rw [← hhh, hgt_eq], hdd⟩)
  rw [hbb, hhh] at hr
  clear hK g4 g5 z5 z4 hz hhh
  rw [hbb] at hb
  subst hb
  have hdl : ¬ 32 < dd := by have := hhh0.out; rw [hgt_eq] at hd; dsimp only at hd; omega
  have hd2 : decide (hh ≤ 32) = true := decide_eq_true (by have := hhh0.out; rw [hgt_eq] at hd; dsimp only at hd; omega)
  rw [hd2, Bool.true_and, Bool.true_and] at hr
  clear hbb hdd hd hd2
  have e1 : (f0 == 1) = false := by simp [k1]
  rw [if_neg k1] at hr
  have e3 : (f0 == 3) = false := by simp [k3]
  rw [if_neg k3] at hr
  have e7 : (f0 == 7) = true := by simp [k7]
  rw [if_pos k7] at hr
  clear k1 k3 k7
  have HR := Aside0.mk hr
  clear hr
  go_enter Tryz.func36, Tryz.ntmps36
  go_wp2_with (first | (go_at_call 63; (with_reducible refine (HB.out _ ((Below.refl _ _).alloc (Nat.le_refl _) _)).mono ?_); rintro e w2 ⟨rfl, hb2⟩; have HZ := Aside0.mk (show Below w.heap.size w w2 from ((Below.refl _ _).alloc (Nat.le_refl _) _).trans (hb2.mono (by simp))); have HL := Aside0.mk (blk_below hb2 (heap_alloc_new w _)); clear hb2; obtain ⟨⟨q0, q1, q2, q3, q4, q5⟩, -⟩ := six_c HL.out) | (go_at_call 64; (with_reducible refine (HD.out _ HZ.out).mono ?_); rintro e w3 ⟨rfl, hb3⟩; have HZ3 := Aside0.mk (bt HZ.out hb3); have HL3 := Aside0.mk (blk_below hb3 HL.out); clear hb3; obtain ⟨⟨p0, p1, p2, p3, p4, p5⟩, -⟩ := six_c HL3.out))
  all_goals
    go_ret
    exact ⟨by rw [← HR.out]; first | (simp [*]; done) | (simp [*]; omega), HZ3.out⟩
set_option maxRecDepth 100000 in
set_option maxHeartbeats 16000000 in
theorem rr_list (f0 f1 f2 : Int) (f3 : ByteArray) (f4 : List S28) (f5 : List ByteArray) (A4 : Option Addr) (c4 : Nat) (A5 : Option Addr) (c5 : Nat) (r : Bool) (w : World) (hz : Sz ⟨f0, f1, f2, f3, f4, f5⟩) (g4 : k34.C w A4 f4.length f4) (l4 : f4.length ≤ c4) (g5 : Kd.string.C w A5 f5.length f5) (l5 : f5.length ≤ c5) (hr : rrightB ⟨f0, f1, f2, f3, f4, f5⟩ = r) (hb : rbareB ⟨f0, f1, f2, f3, f4, f5⟩ = true) (hd : hgt ⟨f0, f1, f2, f3, f4, f5⟩ ≤ 32) (k1 : ¬ f0 = 1) (k3 : ¬ f0 = 3) (k7 : ¬ f0 = 7) (ih : ∀ y ∈ f4, ∀ (cs : List Value) (r : Bool) (w : World), k34.K w y cs → rrightB y = r → Calls Tryz.prog 36 #[.agg cs.toArray] w fun e w' => e = .returned (.bool r) ∧ Below w.heap.size w w') :
    Calls Tryz.prog 36 #[.agg #[.int .u8 f0, .int .i64 f1, .int .i64 f2, .string f3, .slice A4 f4.length c4, .slice A5 f5.length c5]] w fun e w' => e = .returned (.bool r) ∧ Below w.heap.size w w' := by
  rw [rrightB_eq] at hr
  dsimp only at hr
  have hzz := hz
  cases hzz with
  | mk z0 z3 z5 zl4 zl5 z4 =>
  dsimp only at z0 z3 z5 zl4 zl5 z4
  obtain ⟨bb, hbb⟩ : ∃ b, rbareB ⟨f0, f1, f2, f3, f4, f5⟩ = b := ⟨_, rfl⟩
  have HB := Aside0.mk (fun W (hW : Below w.heap.size w W) => Pr.punchcutref18_bare.calls 3 f0 f1 f2 f3 A4 c4 f4 A5 c5 f5 bb W (Kd.C_below g4 hW) l4 (Kd.C_below g5 hW) l5 ((bare_f (x := ⟨f0, f1, f2, f3, f4, f5⟩) zl4 zl5).trans (congrArg some hbb)))
  obtain ⟨hh, hhh⟩ : ∃ h, hgt ⟨f0, f1, f2, f3, f4, f5⟩ = h := ⟨_, rfl⟩
  obtain ⟨dd, hdd⟩ : ∃ d : Int, ((min 100 hh : Nat) : Int) = d := ⟨_, rfl⟩
  obtain ⟨K, hK⟩ := deep_f hz 100 (Nat.le_refl _)
  have hK := hK K (Nat.le_refl _)
  rw [hhh, hdd] at hK
  have HD := Aside0.mk (fun W (hW : Below w.heap.size w W) => Pr.punchcutref18_Deep.calls K f0 f1 f2 f3 A4 c4 f4 A5 c5 f5 100 dd W (Kd.C_below g4 hW) l4 (Kd.C_below g5 hW) l5 hK)
  have H4 := Aside0.mk g4
  have H5 := Aside0.mk g5
  have Z5 := Aside0.mk z5
  have Z4 := Aside0.mk z4
  have hhh0 := Aside0.mk (show hgtL f4 = hh ∧ ((min 100 hh : Nat) : Int) = dd from ⟨by rw [← hhh, hgt_eq], hdd⟩)
  rw [hbb, hhh] at hr
  clear hK g4 g5 z5 z4 hz hhh
  rw [hbb] at hb
  subst hb
  have hdl : ¬ 32 < dd := by have := hhh0.out; rw [hgt_eq] at hd; dsimp only at hd; omega
  have hd2 : decide (hh ≤ 32) = true := decide_eq_true (by have := hhh0.out; rw [hgt_eq] at hd; dsimp only at hd; omega)
  rw [hd2, Bool.true_and, Bool.true_and] at hr
  clear hbb hdd hd hd2
  have e1 : (f0 == 1) = false := by simp [k1]
  rw [if_neg k1] at hr
  have e3 : (f0 == 3) = false := by simp [k3]
  rw [if_neg k3] at hr
  have e7 : (f0 == 7) = false := by simp [k7]
  rw [if_neg k7] at hr
  clear k1 k3 k7
  have HR := Aside0.mk hr
  have IH := Aside0.mk ih
  clear hr ih
  go_enter Tryz.func36, Tryz.ntmps36
  go_wp2_with (first | (go_at_call 63; (with_reducible refine (HB.out _ ((Below.refl _ _).alloc (Nat.le_refl _) _)).mono ?_); rintro e w2 ⟨rfl, hb2⟩; have HZ := Aside0.mk (show Below w.heap.size w w2 from ((Below.refl _ _).alloc (Nat.le_refl _) _).trans (hb2.mono (by simp))); have HL := Aside0.mk (blk_below hb2 (heap_alloc_new w _)); clear hb2; obtain ⟨⟨q0, q1, q2, q3, q4, q5⟩, -⟩ := six_c HL.out) | (go_at_call 64; (with_reducible refine (HD.out _ HZ.out).mono ?_); rintro e w3 ⟨rfl, hb3⟩; have HZ3 := Aside0.mk (bt HZ.out hb3); have HL3 := Aside0.mk (blk_below hb3 HL.out); clear hb3; obtain ⟨⟨p0, p1, p2, p3, p4, p5⟩, -⟩ := six_c HL3.out))
  obtain ⟨w1, hw1⟩ : ∃ wz, wz = w3 := ⟨_, rfl⟩
  rw [← hw1]
  have HB1 := Aside0.mk (show Below w.heap.size w w1 from hw1 ▸ HZ3.out)
  have HBL := Aside0.mk (show w1.heap[w.heap.size]? = some (.cells #[.int .u8 f0, .int .i64 f1, .int .i64 f2, .string f3, .slice A4 f4.length c4, .slice A5 f5.length c5] 34 (0, 0)) from hw1 ▸ HL3.out)
  clear hw1 q0 q1 q2 q3 q4 q5 p0 p1 p2 p3 p4 p5 HZ HL HL3 HB HD
  go_loopw [57] (fun a wr => ∃ k : Nat, a = .int .i64 k ∧ k ≤ f5.length ∧ Aside0 (Below w1.heap.size w1 wr) ∧ Aside0 (keysOk (f5.take k) (f5.drop k) = keysOk [] f5)) (fun a _ => f5.length - (intOf a).toNat)
  case atStart => exact ⟨0, rfl, Nat.zero_le _, ⟨Below.refl _ _⟩, ⟨rfl⟩⟩
  case round =>
    obtain ⟨k, rfl, hk, HW, HA⟩ := hrel
    have c5' : wr.cell? ⟨w.heap.size, 5, none⟩ = some (.slice A5 f5.length c5) := cell_of_blk (blk_below HW.out HBL.out) rfl
    have c4' : wr.cell? ⟨w.heap.size, 4, none⟩ = some (.slice A4 f4.length c4) := cell_of_blk (blk_below HW.out HBL.out) rfl
    have HC := Aside0.mk (Kd.C_below (Kd.C_below H5.out HB1.out) HW.out)
    have HB0 := Aside0.mk (bt HB1.out HW.out)
    by_cases hlt : k < f5.length
    · obtain ⟨ad, e, hc⟩ := Kd.at_string HC.out (k : Int) (by omega) (by omega)
      cases e
      rw [rdOf_at _ _ hlt] at hc
      simp only [Int.toNat_natCast] at hc
      obtain ⟨y, hy⟩ : ∃ y, f5[k] = y := ⟨_, rfl⟩
      have hys : y.size ≤ 4294967281 := by rw [← hy]; exact Z5.out _ (List.getElem_mem hlt)
      have HY := Aside0.mk hy
      rw [hy] at hc
      clear hy
      obtain ⟨hT, hrun⟩ := strs_take HC.out c5 k l5 hk
      have HT := Aside0.mk hT
      clear hT
      obtain ⟨q, hq⟩ : ∃ q, plainL y.data.toList = q := ⟨_, rfl⟩
      have HQ := Aside0.mk hq
      clear hq
      cases q with
      | false =>
        clear hrun
        go_wp2_with (go_at_call 46; refine (rplain_ok y _ _ hys HQ.out).mono ?_; rintro e w5 ⟨rfl, hb5⟩)
        go_ret
        exact ⟨by rw [← HR.out, keysOk_bad hlt HA.out (by rw [HY.out]; exact .inl HQ.out)]; rfl, bt HB0.out hb5⟩
      | true =>
        go_wp2_with (go_at_call 46; refine (rplain_ok y _ _ hys HQ.out).mono ?_; rintro e w5 ⟨rfl, hb5⟩; have c6 := pw_cell_below hb5 c5')
        obtain ⟨wy, hwy⟩ : ∃ wy, wy = w5 := ⟨_, rfl⟩
        rw [← hwy]
        have HT5 := Aside0.mk (show Kd.string.C wy (some ad) (f5.take k).length (f5.take k) from hwy ▸ Kd.C_below HT.out hb5)
        have HB5 := Aside0.mk (show Below w.heap.size w wy from hwy ▸ bt HB0.out hb5)
        have HW5 := Aside0.mk (show Below w1.heap.size w1 wy from hwy ▸ bt HW.out hb5)
        clear hwy hb5 c6 c5' c4' hrun hc
        obtain ⟨ys, hys2⟩ : ∃ ys, f5.take k = ys := ⟨_, rfl⟩
        have hyl : ys.length = k := by rw [← hys2, List.length_take]; omega
        rw [hys2] at HT5
        obtain ⟨v, hv⟩ : ∃ v, idxS ys y = v := ⟨_, rfl⟩
        have HV := Aside0.mk hv
        have HYS := Aside0.mk hys2
        have HYL := Aside0.mk hyl
        clear hv hys2 hyl
        go_loop [70] (fun a => ∃ j : Nat, a = .int .i64 j ∧ j ≤ k ∧ Aside0 ((if idxS (ys.drop j) y < 0 then -1 else (j : Int) + idxS (ys.drop j) y) = v)) (fun a => k - (intOf a).toNat)
        case atStart => exact ⟨0, rfl, Nat.zero_le _, ⟨by rw [List.drop_zero, ← HV.out]; have := idxS_ge ys y; split <;> omega⟩⟩
        case round =>
          obtain ⟨j, rfl, hj, HJ⟩ := hrel
          by_cases hjl : j < k
          · have hjl' : j < ys.length := by rw [HYL.out]; exact hjl
            obtain ⟨ad2, e, hc2⟩ := Kd.at_string HT5.out (j : Int) (by omega) (by omega)
            cases e
            rw [rdOf_at _ _ hjl'] at hc2
            simp only [Int.toNat_natCast] at hc2
            obtain ⟨z, hz⟩ : ∃ z, ys[j] = z := ⟨_, rfl⟩
            have HZJ := Aside0.mk hz
            rw [hz] at hc2
            clear hz
            by_cases he : y.toList = z.toList
            · have c1 : (z.toList == y.toList) = true := beq_iff_eq.mpr he.symm
              have hv0 := idxS_hit hjl' (by rw [HZJ.out]; exact he) HJ.out
              have HV0 := Aside0.mk (show 0 ≤ idxS (f5.take k) f5[k] by rw [HYS.out, HY.out, HV.out, ← hv0]; omega)
              clear he hv0
              go_wp2
              go_ret
              exact ⟨by rw [← HR.out, keysOk_bad hlt HA.out (.inr HV0.out)]; rfl, HB5.out⟩
            · have c1 : (z.toList == y.toList) = false := beq_eq_false_iff_ne.mpr (fun h => he h.symm)
              have HN := Aside0.mk (idxS_step hjl' (by rw [HZJ.out]; exact he) HJ.out)
              clear he
              go_wp2
              go_round
              case rel => exact ⟨j + 1, by go_num, by omega, HN⟩
              case measure => simp [intOf]; omega
          · have HN := Aside0.mk (show ¬ 0 ≤ idxS (f5.take k) f5[k] by
              rw [HYS.out, HY.out, HV.out, ← HJ.out, List.drop_of_length_le (by rw [HYL.out]; omega)]
              simp [idxS])
            go_wp2
            go_roundw
            case rel => exact ⟨k + 1, by go_num, by omega, HW5, ⟨keysOk_go hlt HA.out (by rw [HY.out]; exact HQ.out) HN.out⟩⟩
            case measure => simp [intOf]; omega
    · obtain rfl : k = f5.length := by omega
      have HKD := Aside0.mk (show keysOk [] f5 = true by rw [← HA.out, List.drop_length]; rfl)
      go_wp2
      obtain ⟨wz, hwz⟩ : ∃ wz, wz = wr := ⟨_, rfl⟩
      rw [← hwz]
      have HY := Aside0.mk (show Below w.heap.size w wz from hwz ▸ HB0.out)
      clear hwz
      go_loopw [82] (fun a wr => ∃ k : Nat, a = .int .i64 k ∧ k ≤ f4.length ∧ Aside0 (Below wz.heap.size wz wr) ∧ Aside0 ((f4.take k).all rrightB = true)) (fun a _ => f4.length - (intOf a).toNat)
      case atStart => exact ⟨0, rfl, Nat.zero_le _, ⟨Below.refl _ _⟩, ⟨rfl⟩⟩
      case round =>
        obtain ⟨k, rfl, hk, HW, HA⟩ := hrel
        have HX := Aside0.mk (bt HY.out HW.out)
        by_cases hlt : k < f4.length
        · obtain ⟨ad, B4, d4, B5, d5, e, y0, y1, y2, y3, y4, y5, m4, G4, m5, G5⟩ := at_T34 (Kd.C_below H4.out HX.out) (k : Int) (by omega) (by omega)
          cases e
          obtain ⟨y, hy⟩ : ∃ y, rd_T34 f4 (k : Int) = y := ⟨_, rfl⟩
          rw [hy] at y0 y1 y2 y3 y4 y5 m4 G4 m5 G5
          simp only [Int.toNat_natCast] at y0 y1 y2 y3 y4 y5
          have hyk := Aside0.mk (show f4[k]? = some y by rw [← hy, rd_T34_at _ _ hlt, List.getElem?_eq_getElem hlt])
          clear hy
          obtain ⟨q, hq⟩ : ∃ q, rrightB y = q := ⟨_, rfl⟩
          have HI := Aside0.mk (fun W (hW : Below wr.heap.size wr W) => IH.out y (List.mem_of_getElem? hyk.out) [.int .u8 y.f0, .int .i64 y.f1, .int .i64 y.f2, .string y.f3, .slice B4 y.f4.length d4, .slice B5 y.f5.length d5] q W (k34_mk W y m4 (Kd.C_below G4 hW) m5 (Kd.C_below G5 hW)) hq)
          have HQ := Aside0.mk hq
          clear hq G4 G5
          cases q with
          | false =>
            go_wp2_with (go_at_call 36; refine (HI.out _ ((Below.refl _ _).alloc (Nat.le_refl _) _)).mono ?_; rintro e w6 ⟨rfl, hb6⟩)
            go_ret
            exact ⟨by rw [← HR.out, HKD.out, all_stop hyk.out HQ.out]; rfl, HX.out.trans ((((Below.refl _ _).alloc (Nat.le_refl _) _).trans (hb6.mono (by simp))).mono HX.out.size)⟩
          | true =>
            go_wp2_with (go_at_call 36; refine (HI.out _ ((Below.refl _ _).alloc (Nat.le_refl _) _)).mono ?_; rintro e w6 ⟨rfl, hb6⟩)
            go_roundw
            case rel => exact ⟨k + 1, by go_num, by omega, ⟨HW.out.trans ((((Below.refl _ _).alloc (Nat.le_refl _) _).trans (hb6.mono (by simp))).mono HW.out.size)⟩, ⟨all_step HA.out hyk.out HQ.out⟩⟩
            case measure => simp [intOf]; omega
        · go_wp2
          go_ret
          exact ⟨by rw [← HR.out, HKD.out, all_end HA.out (by omega)]; rfl, HX.out⟩
theorem rright_ok {x : S28} (hz : Sz x) : ∀ (cs : List Value) (r : Bool) (w : World), k34.K w x cs → rrightB x = r → Calls Tryz.prog 36 #[.agg cs.toArray] w fun e w' => e = .returned (.bool r) ∧ Below w.heap.size w w' := by
  induction hz with
  | @mk x z0 z3 z5 zl4 zl5 z4 ih =>
    intro cs r w hx hr
    obtain ⟨A4, c4, A5, c5, rfl, l4, g4, l5, g5⟩ := k34_open hx
    have hz : Sz x := .mk z0 z3 z5 zl4 zl5 z4
    obtain ⟨f0, f1, f2, f3, f4, f5⟩ := x
    cases hb : rbareB ⟨f0, f1, f2, f3, f4, f5⟩ with
    | false => exact rr_bad f0 f1 f2 f3 f4 f5 A4 c4 A5 c5 r w hz g4 l4 g5 l5 hr hb
    | true =>
      by_cases hd : hgt ⟨f0, f1, f2, f3, f4, f5⟩ ≤ 32
      · by_cases k1 : f0 = 1
        · exact rr_1 f0 f1 f2 f3 f4 f5 A4 c4 A5 c5 r w hz g4 l4 g5 l5 hr hb hd k1
        by_cases k3 : f0 = 3
        · exact rr_3 f0 f1 f2 f3 f4 f5 A4 c4 A5 c5 r w hz g4 l4 g5 l5 hr hb hd k1 k3
        by_cases k7 : f0 = 7
        · exact rr_7 f0 f1 f2 f3 f4 f5 A4 c4 A5 c5 r w hz g4 l4 g5 l5 hr hb hd k1 k3 k7
        · exact rr_list f0 f1 f2 f3 f4 f5 A4 c4 A5 c5 r w hz g4 l4 g5 l5 hr hb hd k1 k3 k7 ih
      · exact rr_deep f0 f1 f2 f3 f4 f5 A4 c4 A5 c5 r w hz g4 l4 g5 l5 hr hb hd
end Go.Proofs.YtnckaeehcldheaaGreatDoor.Ob
end

section
set_option linter.unusedVariables false
set_option linter.unusedSimpArgs false
namespace Go.Proofs.YtnckaeehcldheaaGreatDoor.Ob
open Go.RowKit Go.Shelf YtnckaeehcldheaaGreatDoorW.PrintWords
def RParsePost (r : RO) (w : World) (e : Ending) (w' : World) : Prop :=
  Below w.heap.size w w' ∧ match r with
  | none => e = .returned (.tuple #[.agg #[.int .u8 0, .int .i64 0, .int .i64 0, .string ⟨#[]⟩, .slice none 0 0, .slice none 0 0], .int .i64 0, .bool false])
  | some (v, q) => ∃ v4 v5, e = .returned (.tuple #[.agg #[.int .u8 v.f0, .int .i64 v.f1, .int .i64 v.f2, .string v.f3, v4, v5], .int .i64 (q : Int), .bool true]) ∧ k34.R 34 w' w.heap.size (fun _ => True) v4 v.f4 ∧ Kd.string.R 9 w' w.heap.size (fun _ => True) v5 v.f5
set_option maxRecDepth 100000 in
set_option maxHeartbeats 16000000 in
theorem rparse_none (A : Option Addr) (c : Nat) (p : List UInt8) (w : World) (hp : RB w A p) (hc : p.length ≤ c) (hpl : p.length < 2147483640) (hr : rparseV p = none) :
    Calls Tryz.prog 17 #[.slice A p.length c] w (RParsePost none w) := by
  obtain ⟨w0, hw0⟩ : ∃ w0, w0 = w.alloc (.cells #[.int .u8 0, .int .i64 0, .int .i64 0, .string ⟨#[]⟩, .slice none 0 0, .slice none 0 0] 34) := ⟨_, rfl⟩
  have hA : Below w.heap.size w w0 := by rw [hw0]; exact (Below.refl _ _).alloc (Nat.le_refl _) _
  have L0 := Aside0.mk (show w0.heap[w.heap.size]? = some (.cells #[.int .u8 0, .int .i64 0, .int .i64 0, .string ⟨#[]⟩, .slice none 0 0, .slice none 0 0] 34 (0, 0)) by rw [hw0]; exact heap_alloc_new w _)
  have HA := Aside0.mk hA
  have hv := rvalue0_ok p hpl A c w0 (hp.below hA) hc
  rw [hr] at hv
  have HV := Aside0.mk hv
  clear hA hp hr hv
  go_enter Tryz.func17, Tryz.ntmps17
  go_wp2_with fail
  rw [← hw0]
  clear hw0
  go_wp2_with (go_at_call 50; (with_reducible refine HV.out.mono ?_); rintro e w2 ⟨hb2, k1, s1, n1, rfl⟩; have H2 := Aside0.mk (HA.out.trans (hb2.mono HA.out.size)); have L2 := Aside0.mk (blk_below hb2 L0.out); clear hb2; have H3 := Aside0.mk (H2.out.alloc H2.out.size (.cells #[.int .u8 k1, .int .i64 0, .int .i64 0, .string s1, .slice none 0 0, .slice none 0 0] 34)); have L3 := Aside0.mk (blk_alloc L2.out (.cells #[.int .u8 k1, .int .i64 0, .int .i64 0, .string s1, .slice none 0 0, .slice none 0 0] 34)); obtain ⟨⟨z0, z1, z2, z3, z4, z5⟩, y0, y1, y2, y3, y4, y5⟩ := six_c L3.out)
  refine ret_put6 (v := .tuple #[.agg #[.int .u8 0, .int .i64 0, .int .i64 0, .string ⟨#[]⟩, .slice none 0 0, .slice none 0 0], .int .i64 0, .bool false]) L3.out (fun W2 z0 z1 z2 z3 z4 z5 => by simp [results, Tryz.results17, go_sem, zeroV, z0, z1, z2, z3, z4, z5]) rfl ?_
  exact ⟨put6_below H3.out (Nat.le_refl _) _ _ _ _ _ _, rfl⟩
set_option maxRecDepth 100000 in
set_option maxHeartbeats 16000000 in
theorem rparse_bad (A : Option Addr) (c : Nat) (p : List UInt8) (w : World) (hp : RB w A p) (hc : p.length ≤ c) (hpl : p.length < 2147483640) (x : S28) (q : Nat) (hr : rparseV p = some (x, q)) (hrr : rrightB x = false) :
    Calls Tryz.prog 17 #[.slice A p.length c] w (RParsePost none w) := by
  obtain ⟨w0, hw0⟩ : ∃ w0, w0 = w.alloc (.cells #[.int .u8 0, .int .i64 0, .int .i64 0, .string ⟨#[]⟩, .slice none 0 0, .slice none 0 0] 34) := ⟨_, rfl⟩
  have hA : Below w.heap.size w w0 := by rw [hw0]; exact (Below.refl _ _).alloc (Nat.le_refl _) _
  have L0 := Aside0.mk (show w0.heap[w.heap.size]? = some (.cells #[.int .u8 0, .int .i64 0, .int .i64 0, .string ⟨#[]⟩, .slice none 0 0, .slice none 0 0] 34 (0, 0)) by rw [hw0]; exact heap_alloc_new w _)
  have HA := Aside0.mk hA
  have hv := rvalue0_ok p hpl A c w0 (hp.below hA) hc
  rw [hr] at hv
  have HV := Aside0.mk hv
  have HZ := Aside0.mk (rparseV_sz (by omega) hr)
  have HRR := Aside0.mk hrr
  clear hA hp hr hv hrr
  go_enter Tryz.func17, Tryz.ntmps17
  go_wp2_with fail
  rw [← hw0]
  clear hw0
  go_wp2_with (first | (go_at_call 50; (with_reducible refine HV.out.mono ?_); rintro e w2 ⟨hb2, v4, v5, rfl, hv4, hv5, hk2⟩; have H2 := Aside0.mk (HA.out.trans (hb2.mono HA.out.size)); have HV4 := Aside0.mk hv4; have HV5 := Aside0.mk hv5; obtain ⟨A4, c4, rfl, hl4⟩ := hv4.2.slice_; obtain ⟨A5, c5, rfl, hl5⟩ := hv5.2.slice_; have L2 := Aside0.mk (blk_below hb2 L0.out); clear hb2 hv4 hv5 hl4 hl5 hk2; have L3 := Aside0.mk (blk_alloc L2.out (.cells #[.int .u8 x.f0, .int .i64 x.f1, .int .i64 x.f2, .string x.f3, .slice A4 x.f4.length c4, .slice A5 x.f5.length c5] 34)); obtain ⟨⟨y0, y1, y2, y3, y4, y5⟩, -⟩ := six_c (blk_new w2 (.cells #[.int .u8 x.f0, .int .i64 x.f1, .int .i64 x.f2, .string x.f3, .slice A4 x.f4.length c4, .slice A5 x.f5.length c5] 34)); have HK := Aside0.mk (k34.K_of_M (k34_mkM (w2.alloc (.cells #[.int .u8 x.f0, .int .i64 x.f1, .int .i64 x.f2, .string x.f3, .slice A4 x.f4.length c4, .slice A5 x.f5.length c5] 34)) w0.heap.size (fun _ => True) x (Kd.R_below HV4.out ((Below.refl _ _).alloc (Nat.le_refl _) _)) (Kd.R_below HV5.out ((Below.refl _ _).alloc (Nat.le_refl _) _))))) | (go_at_call 36; refine (rright_ok HZ.out _ false _ HK.out HRR.out).mono ?_; rintro e w4 ⟨rfl, hb4⟩; have H4 := Aside0.mk ((H2.out.alloc H2.out.size (.cells #[.int .u8 x.f0, .int .i64 x.f1, .int .i64 x.f2, .string x.f3, .slice A4 x.f4.length c4, .slice A5 x.f5.length c5] 34)).trans (hb4.mono (by have := H2.out.size; rw [World.size_alloc]; omega))); have L4 := Aside0.mk (blk_below hb4 L3.out); obtain ⟨⟨z0, z1, z2, z3, z4, z5⟩, y0, y1, y2, y3, y4, y5⟩ := six_c L4.out; clear hb4))
  refine ret_put6 (v := .tuple #[.agg #[.int .u8 0, .int .i64 0, .int .i64 0, .string ⟨#[]⟩, .slice none 0 0, .slice none 0 0], .int .i64 0, .bool false]) L4.out (fun W2 z0 z1 z2 z3 z4 z5 => by simp [results, Tryz.results17, go_sem, zeroV, z0, z1, z2, z3, z4, z5]) rfl ?_
  exact ⟨put6_below H4.out (Nat.le_refl _) _ _ _ _ _ _, rfl⟩
set_option maxRecDepth 100000 in
set_option maxHeartbeats 16000000 in
theorem rparse_good (A : Option Addr) (c : Nat) (p : List UInt8) (w : World) (hp : RB w A p) (hc : p.length ≤ c) (hpl : p.length < 2147483640) (x : S28) (q : Nat) (hr : rparseV p = some (x, q)) (hrr : rrightB x = true) :
    Calls Tryz.prog 17 #[.slice A p.length c] w (RParsePost (some (x, q)) w) := by
  obtain ⟨w0, hw0⟩ : ∃ w0, w0 = w.alloc (.cells #[.int .u8 0, .int .i64 0, .int .i64 0, .string ⟨#[]⟩, .slice none 0 0, .slice none 0 0] 34) := ⟨_, rfl⟩
  have hA : Below w.heap.size w w0 := by rw [hw0]; exact (Below.refl _ _).alloc (Nat.le_refl _) _
  have L0 := Aside0.mk (show w0.heap[w.heap.size]? = some (.cells #[.int .u8 0, .int .i64 0, .int .i64 0, .string ⟨#[]⟩, .slice none 0 0, .slice none 0 0] 34 (0, 0)) by rw [hw0]; exact heap_alloc_new w _)
  have HA := Aside0.mk hA
  have hBl : w.heap.size < w0.heap.size := (Array.getElem?_eq_some_iff.1 L0.out).1
  have hv := rvalue0_ok p hpl A c w0 (hp.below hA) hc
  rw [hr] at hv
  have HV := Aside0.mk hv
  have HZ := Aside0.mk (rparseV_sz (by omega) hr)
  have HRR := Aside0.mk hrr
  clear hA hp hr hv hrr
  go_enter Tryz.func17, Tryz.ntmps17
  go_wp2_with fail
  rw [← hw0]
  clear hw0
  go_wp2_with (first | (go_at_call 50; (with_reducible refine HV.out.mono ?_); rintro e w2 ⟨hb2, v4, v5, rfl, hv4, hv5, hk2⟩; have H2 := Aside0.mk (HA.out.trans (hb2.mono HA.out.size)); have HV4 := Aside0.mk hv4; have HV5 := Aside0.mk hv5; obtain ⟨A4, c4, rfl, hl4⟩ := hv4.2.slice_; obtain ⟨A5, c5, rfl, hl5⟩ := hv5.2.slice_; have L2 := Aside0.mk (blk_below hb2 L0.out); clear hb2 hv4 hv5 hl4 hl5 hk2; have L3 := Aside0.mk (blk_alloc L2.out (.cells #[.int .u8 x.f0, .int .i64 x.f1, .int .i64 x.f2, .string x.f3, .slice A4 x.f4.length c4, .slice A5 x.f5.length c5] 34)); obtain ⟨⟨y0, y1, y2, y3, y4, y5⟩, -⟩ := six_c (blk_new w2 (.cells #[.int .u8 x.f0, .int .i64 x.f1, .int .i64 x.f2, .string x.f3, .slice A4 x.f4.length c4, .slice A5 x.f5.length c5] 34)); have HK := Aside0.mk (k34.K_of_M (k34_mkM (w2.alloc (.cells #[.int .u8 x.f0, .int .i64 x.f1, .int .i64 x.f2, .string x.f3, .slice A4 x.f4.length c4, .slice A5 x.f5.length c5] 34)) w0.heap.size (fun _ => True) x (Kd.R_below HV4.out ((Below.refl _ _).alloc (Nat.le_refl _) _)) (Kd.R_below HV5.out ((Below.refl _ _).alloc (Nat.le_refl _) _))))) | (go_at_call 36; refine (rright_ok HZ.out _ true _ HK.out HRR.out).mono ?_; rintro e w4 ⟨rfl, hb4⟩; have B4 := Aside0.mk hb4; have H4 := Aside0.mk ((H2.out.alloc H2.out.size (.cells #[.int .u8 x.f0, .int .i64 x.f1, .int .i64 x.f2, .string x.f3, .slice A4 x.f4.length c4, .slice A5 x.f5.length c5] 34)).trans (hb4.mono (by have := H2.out.size; rw [World.size_alloc]; omega))); have L4 := Aside0.mk (blk_below hb4 L3.out); obtain ⟨⟨z0, z1, z2, z3, z4, z5⟩, y0, y1, y2, y3, y4, y5⟩ := six_c L4.out; have V4 := Aside0.mk (blk_below hb4 (blk_new w2 (.cells #[.int .u8 x.f0, .int .i64 x.f1, .int .i64 x.f2, .string x.f3, .slice A4 x.f4.length c4, .slice A5 x.f5.length c5] 34))); obtain ⟨⟨u0, u1, u2, u3, u4, u5⟩, t0, t1, t2, t3, t4, t5⟩ := six_c V4.out; clear hb4))
  refine ret_put6 (v := .tuple #[.agg #[.int .u8 x.f0, .int .i64 x.f1, .int .i64 x.f2, .string x.f3, .slice A4 x.f4.length c4, .slice A5 x.f5.length c5], .int .i64 (q : Int), .bool true]) L4.out (fun W2 z0 z1 z2 z3 z4 z5 => by simp [results, Tryz.results17, go_sem, zeroV, z0, z1, z2, z3, z4, z5]) rfl ?_
  exact ⟨put6_below H4.out (Nat.le_refl _) _ _ _ _ _ _, _, _, rfl, Kd.R_lower (R_put6 (Kd.R_below (Kd.R_below HV4.out ((Below.refl _ _).alloc (Nat.le_refl _) (.cells #[.int .u8 x.f0, .int .i64 x.f1, .int .i64 x.f2, .string x.f3, .slice A4 x.f4.length c4, .slice A5 x.f5.length c5] 34))) B4.out) hBl _ _ _ _ _ _) (Nat.le_of_lt hBl), Kd.R_lower (R_put6 (Kd.R_below (Kd.R_below HV5.out ((Below.refl _ _).alloc (Nat.le_refl _) (.cells #[.int .u8 x.f0, .int .i64 x.f1, .int .i64 x.f2, .string x.f3, .slice A4 x.f4.length c4, .slice A5 x.f5.length c5] 34))) B4.out) hBl _ _ _ _ _ _) (Nat.le_of_lt hBl)⟩
theorem rparse_ok (A : Option Addr) (c : Nat) (p : List UInt8) (w : World) (hp : RB w A p) (hc : p.length ≤ c) (hpl : p.length < 2147483640) :
    Calls Tryz.prog 17 #[.slice A p.length c] w (RParsePost (rparseS p) w) := by
  unfold rparseS
  cases hr : rparseV p with
  | none => exact rparse_none A c p w hp hc hpl hr
  | some xq =>
    obtain ⟨x, q⟩ := xq
    dsimp only
    cases hrr : rrightB x with
    | false => rw [if_neg (by simp)]; exact rparse_bad A c p w hp hc hpl x q hr hrr
    | true => rw [if_pos rfl]; exact rparse_good A c p w hp hc hpl x q hr hrr
end Go.Proofs.YtnckaeehcldheaaGreatDoor.Ob
end

section
set_option linter.unusedVariables false
set_option linter.unusedSimpArgs false
namespace Go.Proofs.YtnckaeehcldheaaGreatDoor.Ob
open Go.RowKit Go.Shelf YtnckaeehcldheaaGreatDoorW.PrintWords
attribute [local go_sem ↓] Go.wp_at_zero Go.wp_at_succ
theorem cut_ok (A : Option Addr) (c : Nat) (p : List UInt8) (n : Nat) (hn : n ≤ 1000000) (w : World) (hp : RB w A p) (hc : p.length ≤ c) (hpl : p.length ≤ 9223372036854775806) :
    Calls Tryz.prog 15 #[.slice A p.length c, .int .i64 (n : Int)] w fun e w' => ∃ B d, e = .returned (.slice B (p.take n).length d) ∧ RB w' B (p.take n) ∧ (p.take n).length ≤ d ∧ Below w.heap.size w w' := by
  have h : Calls Tryz.prog 15 #[.slice A (bl p).length c, .int .i64 (n : Int)] w fun e w' => ∃ v0_ : Value, e = .returned (v0_) ∧ Kd.R (Kd.int .u8) 5 w' w.heap.size (fun _ => True) v0_ ((bl p).take n) ∧ Below w.heap.size w w' :=
    Pr.punchcutref01_Cut.calls ((bl p).length + 1) A c (bl p) (n : Int) _ w (by rw [bl_length]; exact hp) (by rw [bl_length]; exact hc) (cut_f n hn (bl p) (by rw [bl_length]; exact hpl))
  rw [bl_length] at h
  refine h.mono ?_
  rintro e w' ⟨v, rfl, hR, hb⟩
  obtain ⟨B, d, hv, hd, hC⟩ := Kd.R_reads hR
  have e1 : (bl p).take n = bl (p.take n) := by simp [bl, List.map_take]
  rw [e1, bl_length] at hv hd hC
  exact ⟨B, d, by rw [hv], hC, hd, hb⟩
theorem z28_sz : Sz z28 := Sz.flat _ (by decide) (by decide) rfl rfl
theorem z28_K (w : World) : k28.K w z28 [.int .u8 0, .int .i64 0, .int .i64 0, .string ⟨#[]⟩, .slice none 0 0, .slice none 0 0] :=
  k28_mk w z28 (Nat.le_refl _) (Kd.C_nil _ _) (Nat.le_refl _) (Kd.C_nil _ _)
theorem zsame_ok (w : World) : Calls Tryz.prog 18 #[.agg #[.int .u8 0, .int .i64 0, .int .i64 0, .string ⟨#[]⟩, .slice none 0 0, .slice none 0 0], .agg #[.int .u8 0, .int .i64 0, .int .i64 0, .string ⟨#[]⟩, .slice none 0 0, .slice none 0 0]] w fun e w' => e = .returned (.bool true) ∧ Below w.heap.size w w' :=
  same_ok z28_sz _ _ w (z28_K w) (z28_K w)
theorem rparse_no {A : Option Addr} {c : Nat} {p : List UInt8} {w : World} (hp : RB w A p) (hc : p.length ≤ c) (hpl : p.length < 2147483640) (h : rparseS p = none) :
    Calls Tryz.prog 17 #[.slice A p.length c] w fun e w' => e = .returned (.tuple #[.agg #[.int .u8 0, .int .i64 0, .int .i64 0, .string ⟨#[]⟩, .slice none 0 0, .slice none 0 0], .int .i64 0, .bool false]) ∧ Below w.heap.size w w' := by
  refine (rparse_ok A c p w hp hc hpl).mono ?_
  rintro e w' ⟨hb, h2⟩
  rw [h] at h2
  exact ⟨h2, hb⟩
theorem rparse_yes {A : Option Addr} {c : Nat} {p : List UInt8} {w : World} {x : S28} {q : Nat} (hp : RB w A p) (hc : p.length ≤ c) (hpl : p.length < 2147483640) (h : rparseS p = some (x, q)) :
    Calls Tryz.prog 17 #[.slice A p.length c] w fun e w' => ∃ A4 c4 A5 c5, e = .returned (.tuple #[.agg #[.int .u8 x.f0, .int .i64 x.f1, .int .i64 x.f2, .string x.f3, .slice A4 x.f4.length c4, .slice A5 x.f5.length c5], .int .i64 (q : Int), .bool true]) ∧ k34.K w' x [.int .u8 x.f0, .int .i64 x.f1, .int .i64 x.f2, .string x.f3, .slice A4 x.f4.length c4, .slice A5 x.f5.length c5] ∧ Below w.heap.size w w' := by
  refine (rparse_ok A c p w hp hc hpl).mono ?_
  rintro e w' ⟨hb, h2⟩
  rw [h] at h2
  obtain ⟨v4, v5, rfl, h4, h5⟩ := h2
  obtain ⟨A4, c4, rfl, -⟩ := h4.2.slice_
  obtain ⟨A5, c5, rfl, -⟩ := h5.2.slice_
  exact ⟨A4, c4, A5, c5, rfl, k34.K_of_M (k34_mkM w' w.heap.size (fun _ => True) x h4 h5), hb⟩
theorem parse_none {p : List UInt8} (hpl : p.length ≤ 4294967281) (h : rparseS p = none) : ∃ er, parseS p = .error er ∧ (er = 2 ∨ er = 14) := by
  cases hp : parseS p with
  | error er => exact ⟨er, rfl, parse_err_code hp⟩
  | ok x =>
    obtain ⟨x, k⟩ := x
    rw [parse_to hpl hp] at h
    cases h
set_option maxRecDepth 100000 in
set_option maxHeartbeats 16000000 in
theorem law_none (A : Option Addr) (c : Nat) (p : List UInt8) (w : World) (G : Gl w) (hp : RB w A p) (hc : p.length ≤ c) (hpl : p.length ≤ 9223372036854775806) (er : Int) (he : er = 2 ∨ er = 14) (hP : parseS (p.take 300) = .error er) (hr : rparseS (p.take 300) = none) :
    Calls Tryz.prog 3 #[.slice A p.length c] w fun e w' => e = .returned (.bool true) ∧ Below w.heap.size w w' := by
  have hsm : (p.take 300).length < 2147483640 := by rw [List.length_take]; omega
  have HP := Aside0.mk hp
  have HG := Aside0.mk G
  have HPP := Aside0.mk hP
  have HRR := Aside0.mk hr
  obtain ⟨p', hp'⟩ : ∃ p', p.take 300 = p' := ⟨_, rfl⟩
  have HC := Aside0.mk (fun W (hW : RB W A p) => cut_ok A c p 300 (by decide) W hW hc hpl)
  rw [hp'] at HC HPP HRR hsm
  clear hp G hP hr hp'
  rcases he with rfl | rfl
  all_goals
    go_enter Tryz.func3, Tryz.ntmps3
    go_wp2_with (first
      | (go_at_call 14; refine (awake_ok w HG.out).mono ?_; rintro e w1 ⟨rfl, hb1⟩; have H1 := Aside0.mk hb1; clear hb1)
      | (go_at_call 15; refine (HC.out _ (HP.out.below H1.out)).mono ?_; rintro e w2 ⟨B, d, rfl, hB, hd, hb2⟩; have H2 := Aside0.mk (H1.out.trans (hb2.mono H1.out.size)); have HB := Aside0.mk hB; clear hB hb2)
      | (go_at_call 16; refine (parse_errc HB.out hd hsm (HG.out.below H2.out) HPP.out).mono ?_; rintro e w3 ⟨rfl, hb3⟩; have H3 := Aside0.mk ((H2.out.trans (hb3.mono H2.out.size)).alloc (Nat.le_trans H2.out.size hb3.size) (.cells #[.int .u8 0, .int .i64 0, .int .i64 0, .string ⟨#[]⟩, .slice none 0 0, .slice none 0 0] 28)); have HB3 := Aside0.mk (HB.out.below (hb3.alloc hb3.size (.cells #[.int .u8 0, .int .i64 0, .int .i64 0, .string ⟨#[]⟩, .slice none 0 0, .slice none 0 0] 28))); have L3 := Aside0.mk (blk_new w3 (.cells #[.int .u8 0, .int .i64 0, .int .i64 0, .string ⟨#[]⟩, .slice none 0 0, .slice none 0 0] 28)); clear hb3)
      | (go_at_call 17; refine (rparse_no HB3.out hd hsm HRR.out).mono ?_; rintro e w4 ⟨rfl, hb4⟩; have H4 := Aside0.mk ((H3.out.trans (hb4.mono H3.out.size)).alloc (Nat.le_trans H3.out.size hb4.size) (.cells #[.int .u8 0, .int .i64 0, .int .i64 0, .string ⟨#[]⟩, .slice none 0 0, .slice none 0 0] 34)); obtain ⟨⟨z0, z1, z2, z3, z4, z5⟩, -⟩ := six_c (blk_alloc (blk_below hb4 L3.out) (.cells #[.int .u8 0, .int .i64 0, .int .i64 0, .string ⟨#[]⟩, .slice none 0 0, .slice none 0 0] 34)); clear hb4)
      | (go_at_call 18; refine (zsame_ok _).mono ?_; rintro e w5 ⟨rfl, hb5⟩; have H5 := Aside0.mk (H4.out.trans (hb5.mono H4.out.size)); clear hb5))
    go_ret
    exact ⟨rfl, H5.out⟩
end Go.Proofs.YtnckaeehcldheaaGreatDoor.Ob
end

section
set_option linter.unusedVariables false
set_option linter.unusedSimpArgs false
namespace Go.Proofs.YtnckaeehcldheaaGreatDoor.Ob
open Go.RowKit Go.Shelf YtnckaeehcldheaaGreatDoorW.PrintWords
attribute [local go_sem ↓] Go.wp_at_zero Go.wp_at_succ
theorem parseS_right {p : List UInt8} {x : S28} {q : Nat} (h : parseS p = .ok (x, q)) : rightN 33 x = true := by
  unfold parseS at h
  cases hv : parseV p with
  | error e => rw [hv] at h; cases h
  | ok v =>
    obtain ⟨v, j⟩ := v
    rw [hv] at h
    dsimp only at h
    split at h
    · next hr => injection h with h; injection h with h1 h2; rw [← h1]; exact hr
    · cases h
theorem rparseS_sz {p : List UInt8} (hpl : p.length ≤ 4294967281) {x : S28} {q : Nat} (h : rparseS p = some (x, q)) : Sz x := by
  unfold rparseS at h
  cases hv : rparseV p with
  | none => rw [hv] at h; cases h
  | some v =>
    obtain ⟨v, j⟩ := v
    rw [hv] at h
    dsimp only at h
    split at h
    · injection h with h; injection h with h1 h2; rw [← h1]; exact rparseV_sz hpl hv
    · cases h
theorem rsame_ok {x : S28} (hz : Sz x) (A4 : Option Addr) (c4 : Nat) (A5 : Option Addr) (c5 : Nat) (E4 : Option Addr) (u4 : Nat) (E5 : Option Addr) (u5 : Nat) (w : World) (h : k34.K w x [.int .u8 x.f0, .int .i64 x.f1, .int .i64 x.f2, .string x.f3, .slice A4 x.f4.length c4, .slice A5 x.f5.length c5]) (h' : k34.K w x [.int .u8 x.f0, .int .i64 x.f1, .int .i64 x.f2, .string x.f3, .slice E4 x.f4.length u4, .slice E5 x.f5.length u5]) :
    Calls Tryz.prog 19 #[.agg #[.int .u8 x.f0, .int .i64 x.f1, .int .i64 x.f2, .string x.f3, .slice A4 x.f4.length c4, .slice A5 x.f5.length c5], .agg #[.int .u8 x.f0, .int .i64 x.f1, .int .i64 x.f2, .string x.f3, .slice E4 x.f4.length u4, .slice E5 x.f5.length u5]] w fun e w' => e = .returned (.bool true) ∧ Below w.heap.size w w' := by
  obtain ⟨A4', c4', A5', c5', he, l4, g4, l5, g5⟩ := k34_open h
  injection he with _ he; injection he with _ he; injection he with _ he; injection he with _ he
  injection he with e4 he; injection he with e5 _
  injection e4 with e4a _ e4c; injection e5 with e5a _ e5c
  subst e4a e4c e5a e5c
  obtain ⟨A4', c4', A5', c5', he, m4, h4, m5, h5⟩ := k34_open h'
  injection he with _ he; injection he with _ he; injection he with _ he; injection he with _ he
  injection he with e4 he; injection he with e5 _
  injection e4 with e4a _ e4c; injection e5 with e5a _ e5c
  subst e4a e4c e5a e5c
  obtain ⟨K, hK⟩ := same_self hz
  exact Pr.punchcutref18_Same.calls K x.f0 x.f1 x.f2 x.f3 A4 c4 x.f4 A5 c5 x.f5 x.f0 x.f1 x.f2 x.f3 E4 u4 x.f4 E5 u5 x.f5 true w g4 l4 g5 l5 h4 m4 h5 m5 (hK K (Nat.le_refl _))
theorem own_c {x : S28} (hz : Sz x) (A4 : Option Addr) (c4 : Nat) (A5 : Option Addr) (c5 : Nat) (w : World) (h : k28.K w x [.int .u8 x.f0, .int .i64 x.f1, .int .i64 x.f2, .string x.f3, .slice A4 x.f4.length c4, .slice A5 x.f5.length c5]) :
    Calls Tryz.prog 20 #[.agg #[.int .u8 x.f0, .int .i64 x.f1, .int .i64 x.f2, .string x.f3, .slice A4 x.f4.length c4, .slice A5 x.f5.length c5]] w fun e w' => ∃ B d, e = .returned (.agg #[.int .u8 x.f0, .int .i64 x.f1, .int .i64 x.f2, .string x.f3, .slice B x.f4.length d, .slice A5 x.f5.length c5]) ∧ k34.K w' x [.int .u8 x.f0, .int .i64 x.f1, .int .i64 x.f2, .string x.f3, .slice B x.f4.length d, .slice A5 x.f5.length c5] ∧ Below w.heap.size w w' := by
  obtain ⟨A4', c4', A5', c5', he, l4, g4, l5, g5⟩ := k28_open h
  injection he with _ he; injection he with _ he; injection he with _ he; injection he with _ he
  injection he with e4 he; injection he with e5 _
  injection e4 with e4a _ e4c; injection e5 with e5a _ e5c
  subst e4a e4c e5a e5c
  refine (own_ok hz [.int .u8 x.f0, .int .i64 x.f1, .int .i64 x.f2, .string x.f3, .slice A4 x.f4.length c4, .slice A5 x.f5.length c5] A5 c5 (fun k => True ∧ k < w.heap.size) w ⟨A4, c4, rfl⟩ (Kd.FK_bound (FK_of_K h)) (fun k hk => hk.2)).mono ?_
  rintro e w' ⟨v4, rfl, hb, hN⟩
  obtain ⟨B, d, rfl⟩ := Kd.N_slice hN
  have := Kd.N_reads' hN
  exact ⟨B, d, rfl, k34_mk w' x this.2.1 this.2.2 l5 (Kd.C_below g5 hb), hb⟩
set_option maxRecDepth 100000 in
set_option maxHeartbeats 16000000 in
theorem law_some (A : Option Addr) (c : Nat) (p : List UInt8) (w : World) (G : Gl w) (hp : RB w A p) (hc : p.length ≤ c) (hpl : p.length ≤ 9223372036854775806) (x : S28) (q : Nat) (hr : rparseS (p.take 300) = some (x, q)) :
    Calls Tryz.prog 3 #[.slice A p.length c] w fun e w' => e = .returned (.bool true) ∧ Below w.heap.size w w' := by
  have hsm : (p.take 300).length < 2147483640 := by rw [List.length_take]; omega
  have HP := Aside0.mk hp
  have HG := Aside0.mk G
  have HPP := Aside0.mk (parse_from hr)
  have HRR := Aside0.mk hr
  have HZ := Aside0.mk (rparseS_sz (by omega) hr)
  have HRI := Aside0.mk (parseS_right (parse_from hr))
  obtain ⟨p', hp'⟩ : ∃ p', p.take 300 = p' := ⟨_, rfl⟩
  have HC := Aside0.mk (fun W (hW : RB W A p) => cut_ok A c p 300 (by decide) W hW hc hpl)
  have eqq : ((q : Int) == (q : Int)) = true := by simp
  rw [hp'] at HC HPP HRR hsm
  clear hp G hr hp'
  go_enter Tryz.func3, Tryz.ntmps3
  go_wp2_with (first
    | (go_at_call 14; refine (awake_ok w HG.out).mono ?_; rintro e w1 ⟨rfl, hb1⟩; have H1 := Aside0.mk hb1; clear hb1)
    | (go_at_call 15; refine (HC.out _ (HP.out.below H1.out)).mono ?_; rintro e w2 ⟨B, d, rfl, hB, hd, hb2⟩; have H2 := Aside0.mk (H1.out.trans (hb2.mono H1.out.size)); have HB := Aside0.mk hB; clear hB hb2)
    | (go_at_call 16; refine (parse_okc HB.out hd hsm (HG.out.below H2.out) HPP.out).mono ?_; rintro e w3 ⟨A4, c4, A5, c5, rfl, hk3, hb3⟩; have H3 := Aside0.mk ((H2.out.trans (hb3.mono H2.out.size)).alloc (Nat.le_trans H2.out.size hb3.size) (.cells #[.int .u8 x.f0, .int .i64 x.f1, .int .i64 x.f2, .string x.f3, .slice A4 x.f4.length c4, .slice A5 x.f5.length c5] 28)); have HB3 := Aside0.mk (HB.out.below (hb3.alloc hb3.size (.cells #[.int .u8 x.f0, .int .i64 x.f1, .int .i64 x.f2, .string x.f3, .slice A4 x.f4.length c4, .slice A5 x.f5.length c5] 28))); have L3 := Aside0.mk (blk_new w3 (.cells #[.int .u8 x.f0, .int .i64 x.f1, .int .i64 x.f2, .string x.f3, .slice A4 x.f4.length c4, .slice A5 x.f5.length c5] 28)); have K3 := Aside0.mk (k28.K_below ((Below.refl w3.heap.size w3).alloc (Nat.le_refl _) (.cells #[.int .u8 x.f0, .int .i64 x.f1, .int .i64 x.f2, .string x.f3, .slice A4 x.f4.length c4, .slice A5 x.f5.length c5] 28)) hk3); clear hb3 hk3)
    | (go_at_call 17; refine (rparse_yes HB3.out hd hsm HRR.out).mono ?_; rintro e w4 ⟨E4, u4, E5, u5, rfl, hk4, hb4⟩; have H4 := Aside0.mk ((H3.out.trans (hb4.mono H3.out.size)).alloc (Nat.le_trans H3.out.size hb4.size) (.cells #[.int .u8 x.f0, .int .i64 x.f1, .int .i64 x.f2, .string x.f3, .slice E4 x.f4.length u4, .slice E5 x.f5.length u5] 34)); have L4 := Aside0.mk (blk_alloc (blk_below hb4 L3.out) (.cells #[.int .u8 x.f0, .int .i64 x.f1, .int .i64 x.f2, .string x.f3, .slice E4 x.f4.length u4, .slice E5 x.f5.length u5] 34)); have M4 := Aside0.mk (blk_new w4 (.cells #[.int .u8 x.f0, .int .i64 x.f1, .int .i64 x.f2, .string x.f3, .slice E4 x.f4.length u4, .slice E5 x.f5.length u5] 34)); have K4 := Aside0.mk (k28.K_below (hb4.alloc hb4.size (.cells #[.int .u8 x.f0, .int .i64 x.f1, .int .i64 x.f2, .string x.f3, .slice E4 x.f4.length u4, .slice E5 x.f5.length u5] 34)) K3.out); have J4 := Aside0.mk (k34.K_below ((Below.refl w4.heap.size w4).alloc (Nat.le_refl _) (.cells #[.int .u8 x.f0, .int .i64 x.f1, .int .i64 x.f2, .string x.f3, .slice E4 x.f4.length u4, .slice E5 x.f5.length u5] 34)) hk4); obtain ⟨⟨z0, z1, z2, z3, z4, z5⟩, -⟩ := six_c L4.out; obtain ⟨⟨y0, y1, y2, y3, y4, y5⟩, -⟩ := six_c M4.out; clear hb4 hk4))
  obtain ⟨W4, hW4⟩ : ∃ W, W = w4.alloc (.cells #[.int .u8 x.f0, .int .i64 x.f1, .int .i64 x.f2, .string x.f3, .slice E4 x.f4.length u4, .slice E5 x.f5.length u5] 34) := ⟨_, rfl⟩
  rw [← hW4] at H4 L4 M4 K4 J4 z0 z1 z2 z3 z4 z5 y0 y1 y2 y3 y4 y5
  rw [← hW4]
  clear hW4
  go_region_held3 (fun w' => w'.cell? ⟨w3.heap.size, 0, none⟩ = some (.int .u8 x.f0) ∧ w'.cell? ⟨w3.heap.size, 1, none⟩ = some (.int .i64 x.f1) ∧ w'.cell? ⟨w3.heap.size, 2, none⟩ = some (.int .i64 x.f2) ∧ w'.cell? ⟨w3.heap.size, 3, none⟩ = some (.string x.f3) ∧ w'.cell? ⟨w3.heap.size, 4, none⟩ = some (.slice A4 x.f4.length c4) ∧ w'.cell? ⟨w3.heap.size, 5, none⟩ = some (.slice A5 x.f5.length c5) ∧ w'.cell? ⟨w4.heap.size, 0, none⟩ = some (.int .u8 x.f0) ∧ w'.cell? ⟨w4.heap.size, 1, none⟩ = some (.int .i64 x.f1) ∧ w'.cell? ⟨w4.heap.size, 2, none⟩ = some (.int .i64 x.f2) ∧ w'.cell? ⟨w4.heap.size, 3, none⟩ = some (.string x.f3) ∧ w'.cell? ⟨w4.heap.size, 4, none⟩ = some (.slice E4 x.f4.length u4) ∧ w'.cell? ⟨w4.heap.size, 5, none⟩ = some (.slice E5 x.f5.length u5))
    (go_keep)
    ((first
      | (go_at_call 20; refine (own_c HZ.out A4 c4 A5 c5 _ (k28.K_below ((Below.refl W4.heap.size W4).drew) K4.out)).mono ?_; rintro e w5 ⟨B6, d6, rfl, hk5, hb5⟩; have hb5' : Below W4.heap.size W4 w5 := ((Below.refl _ _).drew).trans hb5; have H5 := Aside0.mk (H4.out.trans (hb5'.mono H4.out.size)); have L5 := Aside0.mk (blk_below hb5' L4.out); have M5 := Aside0.mk (blk_below hb5' M4.out); have K5 := Aside0.mk (k28.K_below hb5' K4.out); have J5 := Aside0.mk (k34.K_below hb5' J4.out); have N5 := Aside0.mk hk5; obtain ⟨⟨a0, a1, a2, a3, a4, a5⟩, -⟩ := six_c L5.out; obtain ⟨⟨b0, b1, b2, b3, b4, b5⟩, -⟩ := six_c M5.out; clear hb5 hb5' hk5)
      | (go_at_call 19; refine (rsame_ok HZ.out B6 d6 A5 c5 E4 u4 E5 u5 _ N5.out J5.out).mono ?_; rintro e w6 ⟨rfl, hb6⟩; have H6 := Aside0.mk (H5.out.trans (hb6.mono H5.out.size)); have K6 := Aside0.mk (k28.K_below hb6 K5.out); obtain ⟨⟨d0, d1, d2, d3, d4, d5⟩, -⟩ := six_c (blk_below hb6 L5.out); obtain ⟨⟨f0, f1, f2, f3, f4, f5⟩, -⟩ := six_c (blk_below hb6 M5.out); have L6 := Aside0.mk (blk_below hb6 L5.out); have M6 := Aside0.mk (blk_below hb6 M5.out); clear hb6)
      | (go_at_call 21; refine (Right_ok x _ true _ K6.out HZ.out.sm HRI.out).mono ?_; rintro e w7 ⟨rfl, hb7⟩; have H7 := Aside0.mk (H6.out.trans (hb7.mono H6.out.size)); obtain ⟨⟨g0, g1, g2, g3, g4, g5⟩, -⟩ := six_c (blk_below hb7 L6.out); obtain ⟨⟨h0, h1, h2, h3, h4, h5⟩, -⟩ := six_c (blk_below hb7 M6.out); clear hb7)))
  go_wp2
  go_ret
  exact ⟨rfl, H7.out⟩
theorem parses_ok (A : Option Addr) (c : Nat) (p : List UInt8) (w : World) (G : Gl w) (hp : RB w A p) (hc : p.length ≤ c) (hpl : p.length ≤ 9223372036854775806) :
    Calls Tryz.prog 3 #[.slice A p.length c] w fun e w' => e = .returned (.bool true) ∧ Below w.heap.size w w' := by
  cases hr : rparseS (p.take 300) with
  | none =>
    obtain ⟨er, h1, h2⟩ := parse_none (by rw [List.length_take]; omega) hr
    exact law_none A c p w G hp hc hpl er h2 h1 hr
  | some xq => exact law_some A c p w G hp hc hpl xq.1 xq.2 hr
end Go.Proofs.YtnckaeehcldheaaGreatDoor.Ob
end

section
set_option linter.unusedVariables false
set_option linter.unusedSimpArgs false
namespace Go.Proofs.YtnckaeehcldheaaGreatDoor.objectParses
open Go.ChangeShapes Go.WideShapes Go.ChangeAt Go.RowKit
open YtnckaeehcldheaaGreatDoorW.PrintWords
theorem gl {W : World} (hs : W.ShapedOpen Tryz.prog) (h : laidMetH Tryz.prog Rows.objectParsesRow.laid W) : Ob.Gl W := by
  rw [MakeChecks.laidMetH_plain _ _ _ (by kernel_rfl)] at h
  exact Ob.Gl_of hs h (by simp [Rows.objectParsesRow]) (by simp [Rows.objectParsesRow]) (by simp [Rows.objectParsesRow])
def IsRow (w : World) (a : Option Addr) (len cap : Nat) (zs : List Int) : Prop :=
  (a = none ∧ len = 0 ∧ cap = 0 ∧ zs = []) ∨
  ∃ x, a = some x ∧ len ≤ cap ∧ cap ≤ maxLen ∧ zs.length = cap ∧ (∀ i, i < zs.length → w.cell? (x.add i) = some (.int .u8 (zs.getD i 0))) ∧ ∀ n ∈ zs, (Lit.int .u8 n).wf = true
theorem rb {w : World} {a : Option Addr} {len cap : Nat} {zs : List Int} (h : IsRow w a len cap zs) : ∃ p : List UInt8, p.length = len ∧ len ≤ cap ∧ Ob.RB w a p := by
  rcases h with ⟨rfl, rfl, rfl, rfl⟩ | ⟨x, rfl, hl, hm, hz, hc, hwf⟩
  · exact ⟨[], rfl, Nat.le_refl _, Kd.C_nil _ _⟩
  · refine ⟨(zs.take len).map fun z => UInt8.ofNat z.toNat, by rw [List.length_map, List.length_take]; omega, hl, by simp, by rw [List.length_map, List.length_take]; unfold maxLen at hm; omega, fun _ => ⟨x, rfl, fun j q hj => ?_⟩⟩
    obtain ⟨hj1, hj2⟩ := List.getElem?_eq_some_iff.1 hj
    have hj3 : j < zs.length ∧ j < len := by
      simp [Ob.bl] at hj1
      omega
    have hq : q = zs[j]'hj3.1 := by
      rw [← hj2]
      have hw := hwf _ (List.getElem_mem hj3.1)
      simp [Lit.wf, IntKind.min, IntKind.max, IntKind.signed, IntKind.bits] at hw
      simp [Ob.bl]
      omega
    refine ⟨[.int .u8 q], rfl, rfl, fun i u hu => ?_⟩
    obtain rfl : i = 0 := by
      have := (List.getElem?_eq_some_iff.1 hu).1
      simp at this
      exact this
    simp at hu
    subst hu
    have hd : j * (Kd.int .u8).sz + 0 = j := by simp [Kd.int, Kd.scalar]
    rw [hd, hc j hj3.1, hq, List.getD_eq_getElem?_getD, List.getElem?_eq_getElem hj3.1]
    rfl
theorem walk (W : World) (G : Ob.Gl W) (a : Option Addr) (len cap : Nat) (zs : List Int) (h : IsRow W a len cap zs) (hy : len * 1 ≤ 140737488351232) :
    Calls Tryz.prog 3 #[.slice a len cap] W fun e w' => e = .returned (.bool true) ∧ Below W.heap.size W w' := by
  obtain ⟨p, rfl, hc, hp⟩ := rb h
  exact Ob.parses_ok a cap p W G hp hc (by omega)
theorem reads (os : Os) {H : Type} (enc : TypeId × Value → H) : ∃ places, DataW.whole enc Tryz.prog ((World.laidAll Tryz.prog os Rows.objectParsesRow.laid).forCall (fun _ _ => 0) ⟨#[], #[.slice none 0 0], []⟩).memory Tryz.f3.params.toList Rows.objectParsesSpec.vars false #[Value.slice none 0 0].toList 8 = some ([.nil], [], places) :=
  ⟨[], by kernel_rfl⟩
set_option maxRecDepth 100000 in
theorem lifted (os : Os) (started : os.Started) (H : Type) (enc : TypeId × Value → H) (F : Stop.Interp) :
    ReturnsInHanded {} Tryz.checked os 3 .any ((OpenSpec.ofChange Rows.objectParsesSpec).preRow enc Tryz.prog Tryz.f3 Rows.objectParsesRow.domain false Rows.objectParsesRow.laid) (((OpenSpec.ofChange Rows.objectParsesSpec).at F).post enc Tryz.prog Tryz.f3 false true false false) := by
  obtain ⟨places, hx⟩ := reads os enc
  refine returnsInHanded_of_row (C := Tryz.checked) (s := OpenSpec.ofChange Rows.objectParsesSpec) Ob.own_knob started (by kernel_rfl) Tryz.func3
    ⟨World.laidAll Tryz.prog os Rows.objectParsesRow.laid, fun _ _ => 0, ⟨#[], #[.slice none 0 0], []⟩, World.laidAll_os _ _ _, World.shaped_of_ZipB (by kernel_rfl) (by kernel_rfl), rfl, (Input.okWide_of_okWideB (by kernel_rfl)).2,
      OpenSpec.preRow_of_cond 8 hx (by kernel_rfl) (fun k hk => by cases hk) (by kernel_rfl) (by rw [MakeChecks.laidMetH_plain _ _ _ (by kernel_rfl)]; exact laidMet_laidAll _ (by kernel_rfl) (by kernel_rfl)), by simp [Assume.holds]⟩ ?_
  intro W base args ds gs before hval0 hW _ _ hsz0 hL hS _
  have hsz : (DataW.weightsEach Tryz.prog (Tryz.f3.params.toList ++ Rows.objectParsesSpec.plain.varTypes Tryz.prog) (ds ++ gs)).all (· ≤ reachBytes) = true := hsz0
  have hval : ∀ (j : Nat) t v, Tryz.f3.params[j]? = some t → args[j]? = some v → Value.okWide Tryz.prog W .any base t v := hval0
  have hW' := hW
  obtain ⟨p, q, hA0, hV, rfl, hfz, hnd⟩ := hW
  have hA : DataW.TrodAll enc Tryz.prog W 0 (fun _ => true) true Tryz.f3.params.toList args.toList ds p := hA0
  rw [Tryz.params3] at hA hval hsz
  obtain ⟨v0, vs0, d0, ds0, p0, q0, hargs, rfl, rfl, h0, r0⟩ := trodAll_cons hA
  obtain ⟨rfl, rfl, rfl⟩ := trodAll_nil r0
  obtain rfl : args = #[v0] := by cases args; simp_all
  obtain ⟨rfl, rfl⟩ := trodVars_none hV
  obtain ⟨a0, len0, cap0, rfl⟩ := okWide_slice Tryz.underlying22 (hval 0 22 v0 rfl rfl)
  have k0 := h0
  have lt0 : ∀ x ∈ p0, x.block < W.heap.size := by obtain ⟨m, hm⟩ := k0; exact DataW.trod_lt m _ _ _ hm
  obtain ⟨z0, w0⟩ : ∃ zs, IsRow W a0 len0 cap0 zs := by
    obtain ⟨fuel, hf⟩ := h0
    rcases open_ints Tryz.underlying22 Tryz.underlying5 (by kernel_rfl) hf with ⟨hcs, _⟩ | ⟨x, l, c, zs, hcs, _, hl, hm, hz, _, hcell, hwz⟩
    · simp [Value.cells] at hcs
      obtain ⟨rfl, rfl, rfl⟩ := hcs
      exact ⟨[], .inl ⟨rfl, rfl, rfl, rfl⟩⟩
    · simp [Value.cells] at hcs
      obtain ⟨rfl, rfl, rfl⟩ := hcs
      exact ⟨zs, .inr ⟨_, rfl, hl, hm, by simpa using hz, hcell, hwz⟩⟩
  have y0 : len0 * 1 ≤ 140737488351232 := YtnckaeehcldheaaGreatDoorW.PrintWords.sized_ints hsz (j := 0) (t := 22) rfl rfl Tryz.underlying22 Tryz.underlying5 (by kernel_rfl) (by kernel_rfl) h0
  clear hA0 hval0 hsz0 hsz
  simp only [List.append_nil] at hW'
  refine (walk W (gl hS hL) a0 len0 cap0 z0 w0 y0).mono fun e W' ⟨he, bel⟩ => ?_
  subst he
  exact ⟨_, rfl, _, _, _, [], _, [], hW', trodAll_mk1 (shut_bool Tryz.underlying4 _), (trodAll_cons_mk (Below.trod Ob.laid_out (by kernel_rfl) (of_decide_eq_true (by kernel_rfl)) k0 bel lt0) trodAll_mk0), rfl, bel.frame _, fun h => by cases h⟩
theorem said : Rows.ObjectParsesSaid :=
  OpenClaim.holds_of_cond 3 Tryz.f3 rfl rfl rfl rfl rfl rfl rfl ⟨rfl, rfl, rfl, rfl, rfl⟩ rfl rfl rfl rfl rfl (by kernel_rfl) Tryz.func3 (by kernel_rfl)
    (of_decide_eq_true (by kernel_rfl)) (by unfold Func.isWrapper; first | (rw [if_pos (by decide +kernel)]; kernel_rfl) | (rw [if_neg (by decide +kernel)]; exact ⟨rfl, rfl⟩))
    (fun os started H enc _ F => by rw [OpenClaim.pre_eq_preRow]; exact lifted os started H enc F)
theorem plain (f : FuncId) (fn : Func) (hf : Tryz.pinned.checked.prog.funcNamed "punchcut/punchcutlaw18.ObjectParses" = some f) (hfn : Tryz.pinned.checked.prog.funcs[f]? = some fn) :
    true = Tryz.pinned.checked.prog.looks [] ∧ ∀ (j : Nat) t, fn.params[j]? = some t → Tryz.pinned.checked.prog.wantsStandIn t = false := by
  obtain rfl : f = 3 := Option.some.inj ((show Tryz.prog.funcNamed "punchcut/punchcutlaw18.ObjectParses" = some 3 by kernel_rfl).symm.trans hf) |>.symm
  obtain rfl : fn = Tryz.f3 := (Option.some.inj (Tryz.func3.symm.trans hfn)).symm
  refine ⟨by kernel_rfl, fun j t ht => ?_⟩
  rw [Tryz.params3] at ht
  obtain rfl : t = 22 := by simpa using Array.mem_of_getElem? ht
  exact (show Tryz.prog.wantsStandIn 22 = false by kernel_rfl)
theorem card : Rows.ObjectParsesCardSaid :=
  Claim7.holds_tied_plain_at .later [] _ _ _ _ said (fun _ h => by cases h) (by kernel_rfl) (fun _ h => by cases h) objectParses_row_tie rfl ⟨rfl, rfl⟩ (by kernel_rfl) rfl plain (by kernel_rfl)
end Go.Proofs.YtnckaeehcldheaaGreatDoor.objectParses
namespace Go.Proofs.YtnckaeehcldheaaGreatDoor
theorem objectParses_card : Rows.ObjectParsesCardSaid := objectParses.card
#print axioms objectParses_card
end Go.Proofs.YtnckaeehcldheaaGreatDoor
end
