import Derived.Deep.DrawnRows
import Derived.Deep.RegionHeld3
import Derived.Deep.RegionLaw
import Derived.Test.YtnckaeehcldheaaGreatDoorMP0
import Derived.Test.YtnckaeehcldheaaGreatDoorMP1

section
set_option linter.unusedVariables false
set_option linter.unusedSimpArgs false
namespace Go.Proofs.YtnckaeehcldheaaGreatDoor.Ob
open Go.RowKit Go.Shelf YtnckaeehcldheaaGreatDoorW.PrintWords
theorem newline_nat (b : UInt8) : newline b = (decide (b.toNat = 10) || decide (b.toNat = 13)) := by
  rw [← u8_is b 10 (by decide), ← u8_is b 13 (by decide)]
  simp only [newline, memB, List.contains_cons, List.contains_nil, Bool.or_false]
  rfl
theorem skip_nl {b : UInt8} (l : List UInt8) (h : b.toNat = 10 ∨ b.toNat = 13) : skipL (b :: l) true = skipL (b :: l) false := by
  have hn : newline b = true := by rw [newline_nat]; simpa using h
  have hb : blank b = true := by rw [blankN]; rcases h with h | h <;> simp [h]
  have h37 : ¬ (b == 37) = true := by
    intro e
    have : b = 37 := by simpa using e
    subst this
    rcases h with h | h <;> exact absurd h (by decide)
  rw [skipL, skipL, if_neg h37, if_pos hb, hn]
  rfl
theorem skip_in {b : UInt8} (l : List UInt8) (h1 : ¬ b.toNat = 10) (h2 : ¬ b.toNat = 13) : skipL (b :: l) true = 1 + skipL l true := by
  have hn : newline b = false := by rw [newline_nat]; simp [h1, h2]
  rw [skipL, hn]
  rfl
set_option maxRecDepth 100000 in
set_option maxHeartbeats 4000000 in
theorem rskip_ok (A : Option Addr) (c : Nat) (p : List UInt8) (at_ q : Nat) (w : World) (hp : RB w A p) (hat : at_ ≤ p.length) (hq : skipAt p at_ = q) :
    Calls Tryz.prog 85 #[.slice A p.length c, .int .i64 (at_ : Int)] w fun e w' => e = .returned (.int .i64 (q : Int)) ∧ w' = w := by
  have hl := hp.le
  have d1 : decide ((at_ : Int) < 0) = false := by simp
  have d2 : decide (p.length < at_) = false := by simp; omega
  have d2' : decide ((p.length : Int) < (at_ : Int)) = false := by simp; omega
  have HP := Aside0.mk hp
  have HQ := Aside0.mk (show at_ + skipL (p.drop at_) false = q from hq)
  clear hp hq
  go_enter Tryz.func85, Tryz.ntmps85
  go_wp2
  go_loop [1] (fun a => ∃ (k : Nat), a = .int .i64 k ∧ k ≤ p.length ∧ Aside0 (k + skipL (p.drop k) false = q)) (fun a => p.length - (intOf a).toNat)
  case atStart => exact ⟨at_, rfl, hat, HQ⟩
  case round =>
    obtain ⟨k, rfl, hk, HE⟩ := hrel
    by_cases hlt : k < p.length
    · obtain ⟨ad, e, hc⟩ := HP.out.at_ k hlt
      subst e
      have hdrop := Aside0.mk (List.drop_eq_getElem_cons hlt)
      obtain ⟨b, hb⟩ : ∃ b, p[k] = b := ⟨_, rfl⟩
      have HBK := Aside0.mk hb
      rw [hb] at hc hdrop
      clear hb
      by_cases h37 : b.toNat = 37
      · have g1 : (((b.toNat : Int)) == 37) = true := by simp; omega
        have b37 : b = 37 := UInt8.toNat_inj.1 (by rw [h37]; rfl)
        have HS := Aside0.mk (show k + skipL (p.drop k) true = q by
          have := HE.out
          rw [hdrop.out, b37, skipL, if_pos (by rfl)] at this
          rw [hdrop.out, b37, skip_in _ (by decide) (by decide)]
          exact this)
        have H37 := Aside0.mk h37
        clear h37 b37
        go_wp2
        clear hc g1
        go_loop [1] (fun a => ∃ (j : Nat), a = .int .i64 j ∧ k ≤ j ∧ j ≤ p.length ∧ Aside0 (j + skipL (p.drop j) true = q)) (fun a => p.length - (intOf a).toNat)
        case atStart => exact ⟨k, rfl, Nat.le_refl _, hk, HS⟩
        case round =>
          obtain ⟨j, rfl, hj0, hj, HJ⟩ := hrel
          by_cases hjl : j < p.length
          · obtain ⟨ad2, e, hc2⟩ := HP.out.at_ j hjl
            cases e
            have hdrop2 := Aside0.mk (List.drop_eq_getElem_cons hjl)
            obtain ⟨d, hd⟩ : ∃ d, p[j] = d := ⟨_, rfl⟩
            have HDJ := Aside0.mk hd
            rw [hd] at hc2 hdrop2
            clear hd
            by_cases n1 : d.toNat = 10
            · have e1 : (((d.toNat : Int)) == 10) = true := by simp; omega
              have e1' : (((d.toNat : Int)) != 10) = false := by simp; omega
              have N := Aside0.mk n1
              clear n1
              go_wp2
              go_round
              case rel => exact ⟨j, rfl, by omega, ⟨by have := HJ.out; rw [hdrop2.out, skip_nl _ (.inl N.out)] at this; rw [hdrop2.out]; exact this⟩⟩
              case measure =>
                have hne : k ≠ j := by
                  intro e
                  subst e
                  have hbd : b = d := HBK.out.symm.trans HDJ.out
                  have h1 := H37.out
                  have h2 := N.out
                  rw [hbd] at h1
                  omega
                simp [intOf]; omega
            · have e1 : (((d.toNat : Int)) == 10) = false := by simp; omega
              have e1' : (((d.toNat : Int)) != 10) = true := by simp; omega
              by_cases n2 : d.toNat = 13
              · have e2 : (((d.toNat : Int)) == 13) = true := by simp; omega
                have e2' : (((d.toNat : Int)) != 13) = false := by simp; omega
                have N := Aside0.mk n2
                clear n1 n2
                go_wp2
                go_round
                case rel => exact ⟨j, rfl, by omega, ⟨by have := HJ.out; rw [hdrop2.out, skip_nl _ (.inr N.out)] at this; rw [hdrop2.out]; exact this⟩⟩
                case measure =>
                  have hne : k ≠ j := by
                    intro e
                    subst e
                    have hbd : b = d := HBK.out.symm.trans HDJ.out
                    have h1 := H37.out
                    have h2 := N.out
                    rw [hbd] at h1
                    omega
                  simp [intOf]; omega
              · have e2 : (((d.toNat : Int)) == 13) = false := by simp; omega
                have e2' : (((d.toNat : Int)) != 13) = true := by simp; omega
                have N := Aside0.mk (And.intro n1 n2)
                clear n1 n2
                go_wp2
                go_round
                case rel => exact ⟨j + 1, by go_num, by omega, by omega, ⟨by have := HJ.out; rw [hdrop2.out, skip_in _ N.out.1 N.out.2] at this; omega⟩⟩
                case measure => simp [intOf]; omega
          · go_wp2
            go_round
            case rel => exact ⟨j, rfl, by omega, ⟨by have := HJ.out; rw [List.drop_of_length_le (by omega)] at this ⊢; exact this⟩⟩
            case measure => simp [intOf]; omega
      · have g1 : (((b.toNat : Int)) == 37) = false := by simp; omega
        have b37 : ¬ (b == 37) = true := fun e => h37 (by have : b = 37 := by simpa using e
                                                          rw [this]; rfl)
        have G := Aside0.mk b37
        clear h37 b37
        obtain ⟨r, hr⟩ : ∃ r, blank b = r := ⟨_, rfl⟩
        have B := Aside0.mk hr
        clear hr
        cases r with
        | true =>
          go_wp2_with (go_at_call 119; refine (rblank_ok b true _ B.out).mono ?_; rintro e w1 ⟨rfl, rfl⟩)
          go_round
          case rel => exact ⟨k + 1, by go_num, by omega, ⟨by have := HE.out; rw [hdrop.out, skipL, if_neg G.out, if_pos B.out] at this; omega⟩⟩
          case measure => simp [intOf]; omega
        | false =>
          go_wp2_with (go_at_call 119; refine (rblank_ok b false _ B.out).mono ?_; rintro e w1 ⟨rfl, rfl⟩)
          go_ret
          have := HE.out
          rw [hdrop.out, skipL, if_neg G.out, if_neg (by simp [B.out])] at this
          exact ⟨ret_int (by omega), rfl⟩
    · go_wp2
      go_ret
      have := HE.out
      obtain rfl : k = p.length := by omega
      simp only [List.drop_length, skipL] at this
      exact ⟨ret_int (by omega), rfl⟩
end Go.Proofs.YtnckaeehcldheaaGreatDoor.Ob
end

section
set_option linter.unusedVariables false
set_option linter.unusedSimpArgs false
namespace Go.Proofs.YtnckaeehcldheaaGreatDoor.Ob
open Go.RowKit Go.Shelf YtnckaeehcldheaaGreatDoorW.PrintWords
set_option maxRecDepth 100000 in
theorem rname_ok (A : Option Addr) (c : Nat) (p : List UInt8) (at_ q : Nat) (s : ByteArray) (r : Bool) (w : World) (hp : RB w A p) (hc : p.length ≤ c) (hpl : p.length ≤ 4294967281) (hat : at_ ≤ p.length) (hs : s = ofL (wordL (p.drop at_))) (hq : at_ + (wordL (p.drop at_)).length = q) (hr : plainL s.data.toList = r) :
    Calls Tryz.prog 89 #[.slice A p.length c, .int .i64 (at_ : Int)] w fun e w' => e = .returned (.tuple #[.string s, .int .i64 (q : Int), .bool r]) ∧ Below w.heap.size w w' := by
  have hsl : s.size ≤ 4294967281 := by
    rw [hs, ofL_size]
    have := wordL_le (p.drop at_)
    rw [List.length_drop] at this
    omega
  have HW := Aside0.mk (rword_ok A c p at_ q s w hp hc hat hs hq)
  have HR := Aside0.mk hr
  clear hp hr hs hq
  go_enter Tryz.func89, Tryz.ntmps89
  go_wp2_with (first | (go_at_call 90; refine HW.out.mono ?_; rintro e w1 ⟨rfl, hb1⟩; have HB1 := Aside0.mk hb1; clear hb1) | (go_at_call 46; refine (rplain_ok s r _ hsl HR.out).mono ?_; rintro e w2 ⟨rfl, hb2⟩; have HB2 := Aside0.mk (HB1.out.trans (Below.mono hb2 HB1.out.size)); clear hb2))
  exact bodyPost_ret (v := .tuple #[.string s, .int .i64 (q : Int), .bool r]) (by simp [results, Tryz.results89, go_sem]) rfl ⟨rfl, HB2.out⟩
def foldR : List UInt8 → Nat → Option Nat
  | [], n => some n
  | c :: l, n => if 922337203685477580 < n then none else foldR l (10 * n + (c.toNat - 48))
def numEnd (m : Bool) (n : Nat) : Option Int := if 9223372036854775808 < n ∨ (n = 9223372036854775808 ∧ m = false) then none else if m = true ∧ 0 < n then some (-(n : Int)) else some (n : Int)
def numT (m : Bool) (l : List UInt8) : Option Int := if digB l = true then (foldR l 0).bind (numEnd m) else none
def numR (s : List UInt8) : Option Int := match s with
  | [] => none
  | c :: l => if c = 45 then numT true l else if c = 43 then numT false l else numT false (c :: l)
def numV2 (o : Option Int) : Value := .tuple #[.int .i64 (o.getD 0), .bool o.isSome]
end Go.Proofs.YtnckaeehcldheaaGreatDoor.Ob
end

section
set_option linter.unusedVariables false
set_option linter.unusedSimpArgs false
namespace Go.Proofs.YtnckaeehcldheaaGreatDoor.Ob
open Go.RowKit Go.Shelf YtnckaeehcldheaaGreatDoorW.PrintWords
def valD : List UInt8 → Nat → Nat
  | [], n => n
  | c :: l, n => valD l (10 * n + (c.toNat - 48))
theorem valD_cons (c : UInt8) (l : List UInt8) (n : Nat) : valD (c :: l) n = valD l (10 * n + (c.toNat - 48)) := rfl
theorem valD_ge (l : List UInt8) : ∀ n, n ≤ valD l n := by
  induction l with
  | nil => intro n; exact Nat.le_refl _
  | cons c l ih => intro n; have := ih (10 * n + (c.toNat - 48)); rw [valD_cons]; omega
theorem foldR_val (l : List UInt8) : ∀ n, valD l n ≤ 9223372036854775808 → foldR l n = some (valD l n) := by
  induction l with
  | nil => intro n _; rfl
  | cons c l ih =>
    intro n h
    have hg := valD_ge l (10 * n + (c.toNat - 48))
    rw [valD_cons] at h ⊢
    rw [foldR, if_neg (by omega), ih _ h]
theorem foldR_some (l : List UInt8) : ∀ n u, foldR l n = some u → u = valD l n := by
  induction l with
  | nil => intro n u h; injection h with h; exact h.symm
  | cons c l ih =>
    intro n u h
    rw [foldR] at h
    split at h
    · cases h
    · exact ih _ _ h
theorem isDig_iff (c : UInt8) : isDig c = true ↔ (48 ≤ c.toNat ∧ c.toNat ≤ 57) := by simp [isDig]
theorem parseM_val (l : List UInt8) : ∀ n, l.all isDig = true → valD l n ≤ 18446744073709551615 → Lib.parseUintM (2 ^ 64 - 1) n l = .ok (valD l n) := by
  induction l with
  | nil => intro n _ _; rfl
  | cons c l ih =>
    intro n hd h
    rw [List.all_cons, Bool.and_eq_true] at hd
    have hc := (isDig_iff c).1 hd.1
    have hg := valD_ge l (10 * n + (c.toNat - 48))
    rw [valD_cons] at h ⊢
    rw [Lib.parseUintM, if_pos hc, if_neg (by omega), if_neg (by omega), show n * 10 + (c.toNat - 48) = 10 * n + (c.toNat - 48) by omega]
    exact ih _ hd.2 h
theorem parseM_ok (l : List UInt8) : ∀ n u, Lib.parseUintM (2 ^ 64 - 1) n l = .ok u → l.all isDig = true ∧ u = valD l n := by
  induction l with
  | nil => intro n u h; injection h with h; exact ⟨rfl, h.symm⟩
  | cons c l ih =>
    intro n u h
    rw [Lib.parseUintM] at h
    split at h
    · next hc =>
      split at h
      · cases h
      split at h
      · cases h
      · obtain ⟨h1, h2⟩ := ih _ _ h
        rw [List.all_cons, (isDig_iff c).2 hc, h1]
        exact ⟨rfl, by rw [h2, valD_cons, show n * 10 + (c.toNat - 48) = 10 * n + (c.toNat - 48) by omega]⟩
    · cases h
theorem numEnd_some {m : Bool} {n : Nat} {v : Int} (h : numEnd m n = some v) : n ≤ 9223372036854775808 ∧ (m = false → n < 9223372036854775808) ∧ v = if m = true then -(n : Int) else (n : Int) := by
  unfold numEnd at h
  split at h
  · cases h
  · next h1 =>
    split at h
    · next h2 => injection h with h; exact ⟨by omega, by intro hm; rw [hm] at h2; simp at h2, by rw [← h, if_pos h2.1]⟩
    · next h2 =>
      injection h with h
      refine ⟨by omega, fun hm => ?_, ?_⟩
      · rcases Nat.lt_or_ge n 9223372036854775808 with h3 | h3
        · exact h3
        · exact absurd (Or.inr ⟨by omega, hm⟩) h1
      · cases m with
        | false => simp [← h]
        | true => have : n = 0 := by simp at h2; exact h2
                  subst this; simp [← h]
theorem numEnd_mk {m : Bool} {n : Nat} (h1 : n ≤ 9223372036854775808) (h2 : m = false → n < 9223372036854775808) : numEnd m n = some (if m = true then -(n : Int) else (n : Int)) := by
  unfold numEnd
  rw [if_neg (by rintro (h | ⟨h, hm⟩); omega; have := h2 hm; omega)]
  cases m with
  | false => simp
  | true =>
    split
    · rfl
    · next h => have : n = 0 := by simp at h; exact h
                subst this; rfl
theorem numT_iff (m : Bool) (l : List UInt8) (v : Int) : numT m l = some v ↔ (l.all isDig = true ∧ l ≠ [] ∧ valD l 0 ≤ 9223372036854775808 ∧ (m = false → valD l 0 < 9223372036854775808) ∧ v = if m = true then -(valD l 0 : Int) else (valD l 0 : Int)) := by
  unfold numT digB
  constructor
  · intro h
    split at h
    · next hd =>
      rw [Bool.and_eq_true] at hd
      obtain ⟨u, hu, he⟩ := Option.bind_eq_some_iff.1 h
      obtain rfl := foldR_some _ _ _ hu
      obtain ⟨a, b, c⟩ := numEnd_some he
      exact ⟨hd.1, by rintro rfl; simp at hd, a, b, c⟩
    · cases h
  · rintro ⟨h1, h2, h3, h4, h5⟩
    have h6 : (l.all isDig && !l.isEmpty) = true := by rw [h1]; cases l with
      | nil => exact absurd rfl h2
      | cons _ _ => rfl
    rw [if_pos h6, foldR_val _ _ h3, h5]
    exact numEnd_mk h3 h4
def synI : Lib.NumEnd Int := Lib.parseIntB 64 []
theorem synI_ne {v : Int} (h : synI = .ok v) : False := by
  unfold synI at h
  unfold Lib.parseIntB at h
  cases h
def finI (m : Bool) (o : Lib.NumEnd Nat) : Lib.NumEnd Int := match o with
  | .range => .range
  | .ok u => if ¬ m = true ∧ 2 ^ (64 - 1) ≤ u then .range else if m = true ∧ 2 ^ (64 - 1) < u then .range else .ok (if m = true then -(u : Int) else (u : Int))
  | _ => synI
theorem parseI_iff (c : UInt8) (l : List UInt8) (v : Int) : Lib.parseIntB 64 (c :: l) = .ok v ↔ (if c = 45 then numT true l else if c = 43 then numT false l else numT false (c :: l)) = some v := by
  have key : ∀ (m : Bool) (r : List UInt8), finI m (Lib.parseUintB 64 r) = .ok v ↔ numT m r = some v := by
    intro m r
    rw [numT_iff]
    unfold finI
    unfold Lib.parseUintB
    by_cases hr : r = []
    · rw [if_pos hr]
      constructor
      · intro h; exact (synI_ne h).elim
      · rintro ⟨_, h, _⟩; exact absurd hr h
    · rw [if_neg hr]
      constructor
      · intro h
        cases hp : Lib.parseUintM (2 ^ 64 - 1) 0 r with
        | range => rw [hp] at h; cases h
        | ok u =>
          obtain ⟨a, rfl⟩ := parseM_ok _ _ _ hp
          rw [hp] at h
          dsimp only at h
          split at h
          · cases h
          split at h
          · cases h
          · next h1 h2 =>
            injection h with h
            refine ⟨a, hr, ?_, ?_, h.symm⟩
            · cases m with
              | false => simp at h1; omega
              | true => simp at h2; omega
            · rintro rfl; simp at h1; omega
        | _ => rw [hp] at h; exact (synI_ne h).elim
      · rintro ⟨a, _, b, c, d⟩
        rw [parseM_val _ _ a (by omega)]
        dsimp only
        rw [if_neg (by rintro ⟨x, y⟩; have := c (by simpa using x); omega), if_neg (by rintro ⟨x, y⟩; omega), d]
  have fin : ∀ (m : Bool) (r : List UInt8), (c.toNat = 45 ↔ m = true) → (if c.toNat = 43 ∨ c.toNat = 45 then l else c :: l) = r → Lib.parseIntB 64 (c :: l) = finI m (Lib.parseUintB 64 r) := by
    intro m r hm hr
    unfold Lib.parseIntB
    dsimp only
    rw [hr]
    cases Lib.parseUintB 64 r with
    | range => rfl
    | ok u => simp only [finI, hm]
    | _ => rfl
  by_cases h45 : c = 45
  · subst h45
    rw [if_pos rfl, ← key true l, fin true l (by decide) (by simp)]
  · have n45 : c.toNat ≠ 45 := fun e => h45 (UInt8.toNat_inj.1 (by rw [e]; rfl))
    by_cases h43 : c = 43
    · subst h43
      rw [if_neg h45, if_pos rfl, ← key false l, fin false l (by decide) (by simp)]
    · have n43 : c.toNat ≠ 43 := fun e => h43 (UInt8.toNat_inj.1 (by rw [e]; rfl))
      rw [if_neg h45, if_neg h43, ← key false (c :: l), fin false (c :: l) (by simp [n45]) (by simp [n43, n45])]
theorem parseI_numR (s : List UInt8) (v : Int) : Lib.parseIntB 64 s = .ok v ↔ numR s = some v := by
  cases s with
  | nil => exact ⟨(fun h => by cases h), (fun h => by cases h)⟩
  | cons c l => exact parseI_iff c l v
theorem ten_dig (c : UInt8) : ten.contains c = isDig c := by
  have : ∀ n : Fin 256, ten.contains (UInt8.ofNat n.val) = isDig (UInt8.ofNat n.val) := by decide +kernel
  have h := this ⟨c.toNat, c.toNat_lt⟩
  simpa using h
theorem dropWhile_nil {α : Type} {f : α → Bool} {l : List α} : l.dropWhile f = [] ↔ l.all f = true := by
  induction l with
  | nil => simp
  | cons a l ih =>
    rw [List.dropWhile_cons]
    cases h : f a
    · simp [h]
    · simp [h, ih]
theorem trimS_nil (l : List UInt8) : (Lib.trimS l ten).isEmpty = l.all isDig := by
  have e : (fun c => ten.contains c) = isDig := funext ten_dig
  rw [Bool.eq_iff_iff, List.isEmpty_iff]
  unfold Lib.trimS Lib.trimLeftS Lib.trimRightS
  rw [e, dropWhile_nil, List.all_reverse]
  constructor
  · intro h
    have h2 : l.reverse.all isDig = true := by
      rw [← List.takeWhile_append_dropWhile (p := isDig) (l := l.reverse), List.all_append, h, List.all_takeWhile]
      rfl
    rwa [List.all_reverse] at h2
  · intro h
    have h2 : l.reverse.dropWhile isDig = [] := dropWhile_nil.2 (by rwa [List.all_reverse])
    rw [h2]; rfl
theorem index_none {l : List UInt8} (h : l.all isDig = true) : Lib.index l [46] = -1 := by
  induction l with
  | nil => rfl
  | cons c l ih =>
    rw [List.all_cons, Bool.and_eq_true] at h
    have := ih h.2
    have hc : (46 == c) = false := by
      rw [beq_eq_false_iff_ne]; rintro rfl; exact absurd h.1 (by decide)
    rw [Lib.index, if_neg (by simp [List.isPrefixOf, hc]), this, if_pos (by rfl)]
theorem replace_dig {l : List UInt8} (h : l.all isDig = true) : Lib.replace l [46] [] 1 = l := by
  have hi := index_none h
  unfold Lib.replace
  rw [if_neg (by decide)]
  obtain ⟨k, hk⟩ : ∃ k, Lib.replaceNum l [46] 1 = k := ⟨_, rfl⟩
  rw [hk]
  cases k with
  | zero => rfl
  | succ k => rw [Lib.replaceK, hi, if_pos (by rfl)]
theorem signs_dig {l : List UInt8} (h : l.all isDig = true) : Lib.trimLeftS l [43, 45] = l := by
  cases l with
  | nil => rfl
  | cons c l =>
    rw [List.all_cons, Bool.and_eq_true] at h
    have hc := (isDig_iff c).1 h.1
    unfold Lib.trimLeftS
    rw [List.dropWhile_cons_of_neg]
    simp only [List.contains_cons, List.contains_nil, Bool.or_false, Bool.or_eq_true, beq_iff_eq]
    rintro (rfl | rfl) <;> exact absurd hc (by decide)
theorem numT_dig {m : Bool} {l : List UInt8} {v : Int} (h : numT m l = some v) : l.all isDig = true := ((numT_iff m l v).1 h).1
theorem numL_of {s d : List UInt8} {v : Int} (hd : Lib.trimLeftS s [43, 45] = d) (hlen : s.length ≤ d.length + 1) (ha : d.all isDig = true) (hp : Lib.parseIntB 64 s = .ok v) : numL s = (v, 0) := by
  unfold numL
  dsimp only
  rw [hd, replace_dig ha, if_neg (by omega), if_neg (by simp), hp, trimS_nil, ha]
  rfl
theorem numL_iff (s : List UInt8) (v : Int) : numL s = (v, 0) ↔ numR s = some v := by
  rw [← parseI_numR]
  constructor
  · intro h
    unfold numL at h
    dsimp only at h
    split at h
    · exact absurd (show (_ : Int) = 0 from congrArg Prod.snd h) (by decide)
    split at h
    · exact absurd (show (_ : Int) = 0 from congrArg Prod.snd h) (by decide)
    · cases hp : Lib.parseIntB 64 s with
      | ok u =>
        rw [hp] at h
        unfold numP at h
        dsimp only at h
        split at h
        · injection h with h; rw [h]
        · exact absurd (show (_ : Int) = 0 from congrArg Prod.snd h) (by decide)
      | _ => rw [hp] at h; exact absurd (congrArg Prod.snd h) (by decide : ¬ (2 : Int) = 0)
  · intro h
    cases s with
    | nil => cases h
    | cons c l =>
      have h2 := (parseI_iff c l v).1 h
      split at h2
      · next e =>
        subst e
        have ha := numT_dig h2
        exact numL_of (d := l) (by unfold Lib.trimLeftS; rw [List.dropWhile_cons_of_pos (by decide)]; exact signs_dig ha) (by simp) ha h
      split at h2
      · next e =>
        subst e
        have ha := numT_dig h2
        exact numL_of (d := l) (by unfold Lib.trimLeftS; rw [List.dropWhile_cons_of_pos (by decide)]; exact signs_dig ha) (by simp) ha h
      · have ha := numT_dig h2
        exact numL_of (d := c :: l) (signs_dig ha) (by simp) ha h
end Go.Proofs.YtnckaeehcldheaaGreatDoor.Ob
end

section
set_option linter.unusedVariables false
set_option linter.unusedSimpArgs false
namespace Go.Proofs.YtnckaeehcldheaaGreatDoor.Ob
open Go.RowKit Go.Shelf YtnckaeehcldheaaGreatDoorW.PrintWords
abbrev RO := Option (S28 × Nat)
def rlinkS (p : List UInt8) (e : Nat) (s : List UInt8) (n : Int) : S28 × Nat :=
  let s1 := skipAt p e
  let gen := wordL (p.drop s1)
  let s2 := skipAt p (s1 + gen.length)
  let last := wordL (p.drop s2)
  if digB s = true then
    match numR gen with
    | some g => if digB gen = true ∧ last = [82] then (⟨7, n, min g 100000, ⟨#[]⟩, [], []⟩, s2 + last.length) else (⟨2, n, 0, ⟨#[]⟩, [], []⟩, e)
    | none => (⟨2, n, 0, ⟨#[]⟩, [], []⟩, e)
  else (⟨2, n, 0, ⟨#[]⟩, [], []⟩, e)
def rwordS (p : List UInt8) (q : Nat) : RO :=
  let s := wordL (p.drop q)
  let e := q + s.length
  if s = nullL then some (⟨0, 0, 0, ⟨#[]⟩, [], []⟩, e)
  else if s = trueL then some (⟨1, 1, 0, ⟨#[]⟩, [], []⟩, e)
  else if s = falseL then some (⟨1, 0, 0, ⟨#[]⟩, [], []⟩, e)
  else (numR s).map (rlinkS p e s)
def rtextS (p : List UInt8) (q : Nat) : RO := (textS p q).map fun x => (⟨4, 0, 0, ofL x.1, [], []⟩, x.2)
def rnameS (p : List UInt8) (q : Nat) : RO :=
  let s := wordL (p.drop q)
  if plainL s = true then some (⟨3, 0, 0, ofL s, [], []⟩, q + s.length) else none
mutual
def rvalF (p : List UInt8) : Nat → Nat → Nat → Option RO
  | 0, _, _ => none
  | f + 1, at_, deep =>
    let q := skipAt p at_
    if 40 < deep then some none
    else if p.length ≤ q then some none
    else if pre p q [60, 60] = true then rlistF p f (q + 2) 6 [62, 62] deep [] []
    else if pre p q [91] = true then rlistF p f (q + 1) 5 [93] deep [] []
    else if pre p q [60] = true then some (rtextS p (q + 1))
    else if pre p q [47] = true then some (rnameS p (q + 1))
    else some (rwordS p q)
def rlistF (p : List UInt8) : Nat → Nat → Int → List UInt8 → Nat → List S28 → List ByteArray → Option RO
  | 0, _, _, _, _, _, _ => none
  | f + 1, at_, kind, fin, deep, xs, ks =>
    let q := skipAt p at_
    if pre p q fin = true then some (some (⟨kind, 0, 0, ⟨#[]⟩, xs, ks⟩, q + fin.length))
    else if kind = 6 then
      if pre p q [47] = true then
        let s := wordL (p.drop (q + 1))
        if plainL s = true then
          match rvalF p f (q + 1 + s.length) (deep + 1) with
          | none => none
          | some none => some none
          | some (some (x, q2)) => rlistF p f q2 kind fin deep (xs ++ [x]) (ks ++ [ofL s])
        else some none
      else some none
    else match rvalF p f q (deep + 1) with
      | none => none
      | some none => some none
      | some (some (x, q2)) => rlistF p f q2 kind fin deep (xs ++ [x]) ks
end
mutual
def hgt : S28 → Nat
  | ⟨_, _, _, _, xs, _⟩ => hgtL xs
def hgtL : List S28 → Nat
  | [] => 0
  | x :: xs => max (1 + hgt x) (hgtL xs)
end
mutual
def capV : S28 → S28
  | ⟨a, b, c, s, xs, ks⟩ => ⟨a, b, min c 100000, s, capL xs, ks⟩
def capL : List S28 → List S28
  | [] => []
  | x :: xs => capV x :: capL xs
end
theorem hgt_eq (x : S28) : hgt x = hgtL x.f4 := by cases x; rw [hgt]
theorem capV_eq (x : S28) : capV x = ⟨x.f0, x.f1, min x.f2 100000, x.f3, capL x.f4, x.f5⟩ := by cases x; rw [capV]
theorem capL_map (xs : List S28) : capL xs = xs.map capV := by
  induction xs with
  | nil => rw [capL]; rfl
  | cons x xs ih => rw [capL, ih]; rfl
theorem capL_snoc (xs : List S28) (x : S28) : capL (xs ++ [x]) = capL xs ++ [capV x] := by
  rw [capL_map, capL_map, List.map_append]; rfl
theorem hgtL_mem {xs : List S28} {x : S28} (h : x ∈ xs) : hgt x + 1 ≤ hgtL xs := by
  induction xs with
  | nil => cases h
  | cons y ys ih =>
    rw [hgtL]
    rcases List.mem_cons.1 h with rfl | h
    · omega
    · have := ih h; omega
theorem hgtL_le {xs : List S28} {n : Nat} (h : ∀ x ∈ xs, hgt x < n) : hgtL xs ≤ n := by
  induction xs with
  | nil => rw [hgtL]; omega
  | cons y ys ih =>
    rw [hgtL]
    have h1 := h y (by simp)
    have h2 := ih (fun x hx => h x (by simp [hx]))
    omega
mutual
theorem hgt_cap : ∀ x : S28, hgt (capV x) = hgt x
  | ⟨_, _, _, _, xs, _⟩ => by rw [capV, hgt, hgt]; exact hgtL_cap xs
theorem hgtL_cap : ∀ xs : List S28, hgtL (capL xs) = hgtL xs
  | [] => by rw [capL]
  | x :: xs => by rw [capL, hgtL, hgtL, hgt_cap x, hgtL_cap xs]
end
@[simp] theorem min0c : min (0 : Int) 100000 = 0 := by decide
def capR : PR → RO
  | .ok (x, k) => some (capV x, k)
  | .error _ => none
theorem plain_hash {s : List UInt8} (h : plainL s = true) : memB s 35 = false := by
  cases hm : memB s 35 with
  | false => rfl
  | true =>
    exfalso
    unfold plainL at h
    rw [Bool.and_eq_true, List.all_eq_true] at h
    have := h.1 35 (by unfold memB at hm; simpa using hm)
    exact absurd this (by decide)
theorem nameS_iff (s : List UInt8) : (nameS s).2 = 0 ↔ plainL s = true := by
  unfold nameS
  constructor
  · intro h
    split at h
    · exact absurd h (by decide)
    split at h
    · assumption
    · exact absurd h (by decide)
  · intro h
    rw [if_neg (by rw [plain_hash h]; simp), if_pos h]
theorem nameS_val {s : List UInt8} (h : plainL s = true) : (nameS s).1 = s := by
  unfold nameS
  rw [if_neg (by rw [plain_hash h]; simp), if_pos h]
theorem rnameS_eq (p : List UInt8) (q : Nat) : rnameS p q = capR (ofName p q) := by
  unfold rnameS ofName
  dsimp only
  by_cases h : plainL (wordL (p.drop q)) = true
  · rw [if_pos h, if_pos ((nameS_iff _).2 h), nameS_val h]
    simp [capR, capV, capL]
  · rw [if_neg h, if_neg (fun e => h ((nameS_iff _).1 e))]
    rfl
theorem rtextS_eq (p : List UInt8) (q : Nat) : rtextS p q = capR (ofText (textS p q)) := by
  unfold rtextS ofText
  cases textS p q with
  | none => rfl
  | some x => simp [capR, capV, capL]
theorem sign_dig {l : List UInt8} (h : l.all isDig = true) : l.any signB = false := by
  rw [List.any_eq_false]
  intro b hb
  have := (isDig_iff b).1 (List.all_eq_true.1 h b hb)
  intro e
  simp only [signB, memB, List.contains_cons, List.contains_nil, Bool.or_false, Bool.or_eq_true, beq_iff_eq] at e
  rcases e with rfl | rfl <;> exact absurd this (by decide)
theorem dig_sign {s : List UInt8} {v : Int} (h : numR s = some v) : digB s = !(s.any signB) := by
  cases s with
  | nil => cases h
  | cons c l =>
    unfold numR at h
    dsimp only at h
    split at h
    · next e => subst e; rfl
    split at h
    · next e => subst e; rfl
    · have ha := numT_dig h
      rw [sign_dig ha]
      unfold digB
      rw [ha]
      rfl
theorem numL_fail {s : List UInt8} (h : numR s = none) : (numL s).2 ≠ 0 := by
  intro e
  have := (numL_iff s (numL s).1).1 (by rw [← e])
  rw [h] at this
  cases this
theorem rlink_eq (p : List UInt8) (e : Nat) (s : List UInt8) (n : Int) (hn : numR s = some n) : some (rlinkS p e s n) = capR (ofRef (0, refS p e s n)) := by
  unfold rlinkS ofRef refS
  dsimp only
  rw [if_pos rfl]
  obtain ⟨gen, hg⟩ : ∃ g, wordL (p.drop (skipAt p e)) = g := ⟨_, rfl⟩
  rw [hg]
  obtain ⟨last, hl⟩ : ∃ g, wordL (p.drop (skipAt p (skipAt p e + gen.length))) = g := ⟨_, rfl⟩
  rw [hl]
  have hd := dig_sign hn
  cases hgn : numR gen with
  | none =>
    rw [if_neg (c := (numL gen).2 = 0 ∧ last = [82] ∧ (s ++ gen).any signB = false) (fun h => numL_fail hgn h.1)]
    split <;> simp [capR, capV, capL]
  | some g =>
    have hgl := (numL_iff gen g).2 hgn
    have hd2 := dig_sign hgn
    rw [hgl]
    dsimp only
    by_cases h1 : digB s = true
    · rw [if_pos h1]
      by_cases h2 : digB gen = true ∧ last = [82]
      · have h3 : (s ++ gen).any signB = false := by
          rw [h1] at hd; rw [h2.1] at hd2
          rw [List.any_append]
          simp at hd hd2 ⊢
          exact ⟨hd, hd2⟩
        rw [if_pos h2, if_pos ⟨rfl, h2.2, h3⟩]
        simp [capR, capV, capL]
        omega
      · rw [if_neg h2, if_neg (fun h => h2 ⟨by rw [hd2]; have := h.2.2; rw [List.any_append, Bool.or_eq_false_iff] at this; rw [this.2]; rfl, h.2.1⟩)]
        simp [capR, capV, capL]
    · rw [if_neg h1, if_neg (fun h => h1 (by rw [hd]; have := h.2.2; rw [List.any_append, Bool.or_eq_false_iff] at this; rw [this.1]; rfl))]
      simp [capR, capV, capL]
theorem rwordS_eq (p : List UInt8) (q : Nat) : rwordS p q = capR (ofRef (wordS p q)) := by
  unfold rwordS wordS
  dsimp only
  obtain ⟨s, hs⟩ : ∃ s, wordL (p.drop q) = s := ⟨_, rfl⟩
  rw [hs]
  by_cases h1 : s = nullL
  · rw [if_pos h1, if_pos h1]; simp [ofRef, capR, capV, capL]
  rw [if_neg h1, if_neg h1]
  by_cases h2 : s = trueL
  · rw [if_pos h2, if_pos h2]; simp [ofRef, capR, capV, capL]
  rw [if_neg h2, if_neg h2]
  by_cases h3 : s = falseL
  · rw [if_pos h3, if_pos h3]; simp [ofRef, capR, capV, capL]
  rw [if_neg h3, if_neg h3]
  cases hn : numR s with
  | none =>
    have := numL_fail hn
    rw [if_neg this]
    unfold ofRef
    dsimp only
    rw [if_neg this]
    rfl
  | some n =>
    have hl := (numL_iff s n).2 hn
    rw [hl]
    dsimp only
    rw [if_pos rfl, Option.map_some]
    exact rlink_eq p _ s n hn
theorem wordL_pos_lt {p : List UInt8} {q : Nat} (h : p.length ≤ q) : wordL (p.drop q) = [] := by
  rw [List.drop_of_length_le h]; rfl
theorem ofRef_nil {p : List UInt8} {q : Nat} (h : wordL (p.drop q) = []) : ofRef (wordS p q) = .error (numL []).2 := by
  have e : wordS p q = ((numL []).2, ⟨0, 0, 0, q⟩) := by
    unfold wordS
    dsimp only
    rw [h]
    rw [if_neg (by simp [nullL]), if_neg (by simp [trueL]), if_neg (by simp [falseL]), if_neg numL_nil]
  rw [e]
  unfold ofRef
  rw [if_neg numL_nil]
theorem ofRef_lt {p : List UInt8} {q : Nat} {x : S28} {k : Nat} (h : ofRef (wordS p q) = .ok (x, k)) : q < p.length := by
  rcases Nat.lt_or_ge q p.length with h1 | h1
  · exact h1
  · rw [ofRef_nil (wordL_pos_lt h1)] at h
    cases h
theorem capR_some {r : PR} {y : S28} {k : Nat} (h : capR r = some (y, k)) : ∃ x, r = .ok (x, k) ∧ capV x = y := by
  cases r with
  | error e => cases h
  | ok v =>
    obtain ⟨x, j⟩ := v
    injection h with h
    injection h with h1 h2
    exact ⟨x, by rw [h2], h1⟩
theorem fwd (p : List UInt8) : ∀ f, (∀ at_ deep x k, valueF p f at_ deep = some (.ok (x, k)) → rvalF p f at_ deep = some (some (capV x, k))) ∧
    (∀ at_ kind fin deep xs ks x k, listF p f at_ kind fin deep xs ks = some (.ok (x, k)) → rlistF p f at_ kind fin deep (capL xs) ks = some (some (capV x, k))) := by
  intro f
  induction f with
  | zero => exact ⟨fun _ _ _ _ h => by simp [valueF] at h, fun _ _ _ _ _ _ _ _ h => by simp [listF] at h⟩
  | succ f ih =>
    obtain ⟨ihv, ihl⟩ := ih
    refine ⟨?_, ?_⟩
    · intro at_ deep x k h
      rw [valueF] at h
      rw [rvalF]
      obtain ⟨q, hq⟩ : ∃ q, skipAt p at_ = q := ⟨_, rfl⟩
      rw [hq] at h ⊢
      by_cases h0 : 32 < deep
      · rw [if_pos h0] at h; cases h
      rw [if_neg h0] at h
      rw [if_neg (show ¬ 40 < deep by omega)]
      have far : ∀ s : List UInt8, s ≠ [] → pre p q s = true → ¬ p.length ≤ q := by
        intro s hs hp
        have := pre_le hp hs
        have := List.length_pos_iff.2 hs
        omega
      by_cases h1 : pre p q [60, 60] = true
      · rw [if_pos h1] at h
        rw [if_neg (far _ (by simp) h1), if_pos h1]
        have := ihl _ _ _ _ _ _ _ _ h
        rwa [capL] at this
      rw [if_neg h1] at h
      by_cases h2 : pre p q [91] = true
      · rw [if_pos h2] at h
        rw [if_neg (far _ (by simp) h2), if_neg h1, if_pos h2]
        have := ihl _ _ _ _ _ _ _ _ h
        rwa [capL] at this
      rw [if_neg h2] at h
      by_cases h3 : pre p q [60] = true
      · rw [if_pos h3] at h
        rw [if_neg (far _ (by simp) h3), if_neg h1, if_neg h2, if_pos h3, rtextS_eq, Option.some.inj h]
        rfl
      rw [if_neg h3] at h
      by_cases h4 : pre p q [40] = true
      · rw [if_pos h4] at h; cases h
      rw [if_neg h4] at h
      by_cases h5 : pre p q [47] = true
      · rw [if_pos h5] at h
        rw [if_neg (far _ (by simp) h5), if_neg h1, if_neg h2, if_neg h3, if_pos h5, rnameS_eq, Option.some.inj h]
        rfl
      rw [if_neg h5] at h
      have hlt := ofRef_lt (Option.some.inj h)
      rw [if_neg (by omega), if_neg h1, if_neg h2, if_neg h3, if_neg h5, rwordS_eq, Option.some.inj h]
      rfl
    · intro at_ kind fin deep xs ks x k h
      rw [listF] at h
      rw [rlistF]
      obtain ⟨q, hq⟩ : ∃ q, skipAt p at_ = q := ⟨_, rfl⟩
      rw [hq] at h ⊢
      dsimp only at h ⊢
      by_cases h1 : pre p q fin = true
      · rw [if_pos h1] at h ⊢
        injection h with h
        injection h with h
        injection h with h h'
        rw [← h, ← h', capV]
        congr 4
      rw [if_neg h1] at h ⊢
      have key : ∀ a js, (match valueF p f a (deep + 1) with
          | none => none
          | some (.error e) => some (.error e)
          | some (.ok (x, q2)) => listF p f q2 kind fin deep (xs ++ [x]) js) = some (.ok (x, k)) → (match rvalF p f a (deep + 1) with
          | none => none
          | some none => some none
          | some (some (x, q2)) => rlistF p f q2 kind fin deep (capL xs ++ [x]) js) = some (some (capV x, k)) := by
        intro a js h
        cases hv : valueF p f a (deep + 1) with
        | none => rw [hv] at h; cases h
        | some r =>
          cases r with
          | error e => rw [hv] at h; cases h
          | ok y =>
            obtain ⟨y, j⟩ := y
            rw [hv] at h
            rw [ihv _ _ _ _ hv]
            have := ihl _ _ _ _ _ _ _ _ h
            rw [capL_snoc] at this
            exact this
      by_cases h2 : kind = 6
      · rw [if_pos h2] at h ⊢
        by_cases h3 : pre p q [47] = true
        · rw [if_pos h3] at h ⊢
          by_cases h4 : (nameS (wordL (p.drop (q + 1)))).2 = 0
          · rw [if_pos h4] at h
            have h5 := (nameS_iff _).1 h4
            rw [if_pos h5]
            rw [nameS_val h5] at h
            exact key _ _ h
          · rw [if_neg h4] at h; cases h
        · rw [if_neg h3] at h; cases h
      · rw [if_neg h2] at h ⊢
        exact key _ _ h
theorem rlist_pre (p : List UInt8) : ∀ f at_ kind fin deep ys ks y k, rlistF p f at_ kind fin deep ys ks = some (some (y, k)) → ∃ t, y.f4 = ys ++ t := by
  intro f
  induction f with
  | zero => intro _ _ _ _ _ _ _ _ h; simp [rlistF] at h
  | succ f ih =>
    intro at_ kind fin deep ys ks y k h
    rw [rlistF] at h
    obtain ⟨q, hq⟩ : ∃ q, skipAt p at_ = q := ⟨_, rfl⟩
    rw [hq] at h
    dsimp only at h
    by_cases h1 : pre p q fin = true
    · rw [if_pos h1] at h
      injection h with h
      injection h with h
      injection h with h h'
      exact ⟨[], by rw [← h]; simp⟩
    rw [if_neg h1] at h
    have key : ∀ a js, (match rvalF p f a (deep + 1) with
          | none => none
          | some none => some none
          | some (some (x, q2)) => rlistF p f q2 kind fin deep (ys ++ [x]) js) = some (some (y, k)) → ∃ t, y.f4 = ys ++ t := by
      intro a js h
      cases hv : rvalF p f a (deep + 1) with
      | none => rw [hv] at h; cases h
      | some r =>
        cases r with
        | none => rw [hv] at h; cases h
        | some z =>
          obtain ⟨z, j⟩ := z
          rw [hv] at h
          obtain ⟨t, ht⟩ := ih _ _ _ _ _ _ _ _ h
          exact ⟨z :: t, by rw [ht]; simp⟩
    by_cases h2 : kind = 6
    · rw [if_pos h2] at h
      by_cases h3 : pre p q [47] = true
      · rw [if_pos h3] at h
        by_cases h4 : plainL (wordL (p.drop (q + 1))) = true
        · rw [if_pos h4] at h; exact key _ _ h
        · rw [if_neg h4] at h; cases h
      · rw [if_neg h3] at h; cases h
    · rw [if_neg h2] at h; exact key _ _ h
theorem bwd (p : List UInt8) : ∀ f, (∀ at_ deep y k, rvalF p f at_ deep = some (some (y, k)) → deep + hgt y ≤ 32 → ∃ x, valueF p f at_ deep = some (.ok (x, k)) ∧ capV x = y) ∧
    (∀ at_ kind fin deep xs ks y k, rlistF p f at_ kind fin deep (capL xs) ks = some (some (y, k)) → deep + hgt y ≤ 32 → ∃ x, listF p f at_ kind fin deep xs ks = some (.ok (x, k)) ∧ capV x = y) := by
  intro f
  induction f with
  | zero => exact ⟨fun _ _ _ _ h => by simp [rvalF] at h, fun _ _ _ _ _ _ _ _ h => by simp [rlistF] at h⟩
  | succ f ih =>
    obtain ⟨ihv, ihl⟩ := ih
    refine ⟨?_, ?_⟩
    · intro at_ deep y k h hd
      rw [rvalF] at h
      rw [valueF]
      obtain ⟨q, hq⟩ : ∃ q, skipAt p at_ = q := ⟨_, rfl⟩
      rw [hq] at h ⊢
      rw [if_neg (show ¬ 40 < deep by omega)] at h
      rw [if_neg (show ¬ 32 < deep by omega)]
      by_cases h0 : p.length ≤ q
      · rw [if_pos h0] at h; cases h
      rw [if_neg h0] at h
      by_cases h1 : pre p q [60, 60] = true
      · rw [if_pos h1] at h ⊢
        exact ihl _ _ _ _ _ _ _ _ (by rw [capL]; exact h) hd
      rw [if_neg h1] at h ⊢
      by_cases h2 : pre p q [91] = true
      · rw [if_pos h2] at h ⊢
        exact ihl _ _ _ _ _ _ _ _ (by rw [capL]; exact h) hd
      rw [if_neg h2] at h ⊢
      by_cases h3 : pre p q [60] = true
      · rw [if_pos h3] at h ⊢
        rw [rtextS_eq] at h
        obtain ⟨x, e, hx⟩ := capR_some (Option.some.inj h)
        exact ⟨x, by rw [e], hx⟩
      rw [if_neg h3] at h ⊢
      by_cases h5 : pre p q [47] = true
      · rw [if_pos h5] at h ⊢
        have h4 : ¬ pre p q [40] = true := by
          intro h4
          unfold pre Lib.hasPrefix at h4 h5
          have e1 := List.isPrefixOf_iff_prefix.1 h4
          have e2 := List.isPrefixOf_iff_prefix.1 h5
          obtain ⟨t, ht⟩ := e1
          obtain ⟨t2, ht2⟩ := e2
          rw [← ht2] at ht
          injection ht with ht
          exact absurd ht (by decide)
        rw [if_neg h4]
        rw [rnameS_eq] at h
        obtain ⟨x, e, hx⟩ := capR_some (Option.some.inj h)
        exact ⟨x, by rw [e], hx⟩
      rw [if_neg h5] at h
      rw [rwordS_eq] at h
      obtain ⟨x, e, hx⟩ := capR_some (Option.some.inj h)
      have h4 : ¬ pre p q [40] = true := by
        intro h4
        unfold pre Lib.hasPrefix at h4
        obtain ⟨t, ht⟩ := List.isPrefixOf_iff_prefix.1 h4
        have hw : wordL (p.drop q) = [] := by rw [← ht]; exact wordL_stop _ (by decide)
        rw [ofRef_nil hw] at e
        cases e
      rw [if_neg h4, if_neg h5]
      exact ⟨x, by rw [e], hx⟩
    · intro at_ kind fin deep xs ks y k h hd
      rw [rlistF] at h
      rw [listF]
      obtain ⟨q, hq⟩ : ∃ q, skipAt p at_ = q := ⟨_, rfl⟩
      rw [hq] at h ⊢
      dsimp only at h ⊢
      by_cases h1 : pre p q fin = true
      · rw [if_pos h1] at h ⊢
        injection h with h
        injection h with h
        injection h with h h'
        exact ⟨⟨kind, 0, 0, ⟨#[]⟩, xs, ks⟩, by rw [h'], by rw [← h, capV]; congr 3⟩
      rw [if_neg h1] at h ⊢
      have key : ∀ a js, (match rvalF p f a (deep + 1) with
          | none => none
          | some none => some none
          | some (some (x, q2)) => rlistF p f q2 kind fin deep (capL xs ++ [x]) js) = some (some (y, k)) → ∃ x, (match valueF p f a (deep + 1) with
          | none => none
          | some (.error e) => some (.error e)
          | some (.ok (x, q2)) => listF p f q2 kind fin deep (xs ++ [x]) js) = some (.ok (x, k)) ∧ capV x = y := by
        intro a js h
        cases hv : rvalF p f a (deep + 1) with
        | none => rw [hv] at h; cases h
        | some r =>
          cases r with
          | none => rw [hv] at h; cases h
          | some z =>
            obtain ⟨z, j⟩ := z
            rw [hv] at h
            dsimp only at h
            obtain ⟨t, ht⟩ := rlist_pre p _ _ _ _ _ _ _ _ _ h
            have hm : z ∈ y.f4 := by rw [ht]; simp
            have hz := hgtL_mem hm
            rw [← hgt_eq] at hz
            obtain ⟨x, hx, hc⟩ := ihv _ _ _ _ hv (by omega)
            rw [hx]
            exact ihl _ _ _ _ _ _ _ _ (by rw [capL_snoc, hc]; exact h) hd
      by_cases h2 : kind = 6
      · rw [if_pos h2] at h ⊢
        by_cases h3 : pre p q [47] = true
        · rw [if_pos h3] at h ⊢
          by_cases h4 : plainL (wordL (p.drop (q + 1))) = true
          · rw [if_pos h4] at h
            rw [if_pos ((nameS_iff _).2 h4), nameS_val h4]
            exact key _ _ h
          · rw [if_neg h4] at h; cases h
        · rw [if_neg h3] at h; cases h
      · rw [if_neg h2] at h ⊢
        exact key _ _ h
end Go.Proofs.YtnckaeehcldheaaGreatDoor.Ob
end

section
set_option linter.unusedVariables false
set_option linter.unusedSimpArgs false
namespace Go.Proofs.YtnckaeehcldheaaGreatDoor.Ob
open Go.RowKit Go.Shelf YtnckaeehcldheaaGreatDoorW.PrintWords
theorem capR_far {r : PR} {a n : Nat} (h : ∀ x k, r = .ok (x, k) → a < k ∧ k ≤ n) : ∀ x k, capR r = some (x, k) → a < k ∧ k ≤ n := by
  intro x k hk
  obtain ⟨y, hy, _⟩ := capR_some hk
  exact h y k hy
def RFine (p : List UInt8) (at_ : Nat) (o : Option RO) : Prop := ∃ r, o = some r ∧ ∀ x k, r = some (x, k) → at_ < k ∧ k ≤ p.length
theorem RFine.mk' {p : List UInt8} {at_ : Nat} {r : RO} (h : ∀ x k, r = some (x, k) → at_ < k ∧ k ≤ p.length) : RFine p at_ (some r) := ⟨r, rfl, h⟩
theorem RFine.up {p : List UInt8} {a b : Nat} {o : Option RO} (h : RFine p b o) (hab : a ≤ b) : RFine p a o := by
  obtain ⟨r, e, hr⟩ := h
  exact ⟨r, e, fun x k hk => by have := hr x k hk; omega⟩
theorem rfine_all (p : List UInt8) : ∀ f, (∀ at_ deep, at_ ≤ p.length → 2 * (p.length - at_) + 1 ≤ f → RFine p at_ (rvalF p f at_ deep)) ∧ (∀ at_ kind fin deep xs ks, fin ≠ [] → at_ ≤ p.length → 2 * (p.length - at_) + 2 ≤ f → RFine p at_ (rlistF p f at_ kind fin deep xs ks)) := by
  intro f
  induction f with
  | zero => exact ⟨fun _ _ _ h => by omega, fun _ _ _ _ _ _ _ _ h => by omega⟩
  | succ f ih =>
    obtain ⟨ihv, ihl⟩ := ih
    refine ⟨?_, ?_⟩
    · intro at_ deep hat hf
      rw [rvalF]
      obtain ⟨q, hq⟩ : ∃ q, skipAt p at_ = q := ⟨_, rfl⟩
      have hq1 : at_ ≤ q := by rw [← hq]; exact le_skipAt p at_
      have hq2 : q ≤ p.length := by rw [← hq]; exact skipAt_le hat
      rw [hq]
      split
      · exact RFine.mk' (fun _ _ h => by cases h)
      split
      · exact RFine.mk' (fun _ _ h => by cases h)
      split
      · next h => have := pre_le h (by simp); simp at this; exact (ihl (q + 2) 6 _ deep _ _ (by simp) (by omega) (by omega)).up (by omega)
      split
      · next h => have := pre_le h (by simp); simp at this; exact (ihl (q + 1) 5 _ deep _ _ (by simp) (by omega) (by omega)).up (by omega)
      split
      · next h =>
        have := pre_le h (by simp); simp at this
        rw [rtextS_eq]
        exact RFine.mk' (capR_far (fun x k hk => by have := ofText_far (by omega) hk; omega))
      split
      · next h =>
        have := pre_le h (by simp); simp at this
        rw [rnameS_eq]
        exact RFine.mk' (capR_far (fun x k hk => by have := ofName_far (by omega) hk; omega))
      · rw [rwordS_eq]
        exact RFine.mk' (capR_far (fun x k hk => by have := ofRef_far hq2 hk; omega))
    · intro at_ kind fin deep xs ks hfin hat hf
      rw [rlistF]
      obtain ⟨q, hq⟩ : ∃ q, skipAt p at_ = q := ⟨_, rfl⟩
      have hq1 : at_ ≤ q := by rw [← hq]; exact le_skipAt p at_
      have hq2 : q ≤ p.length := by rw [← hq]; exact skipAt_le hat
      rw [hq]
      dsimp only
      have hfl := List.length_pos_iff.2 hfin
      have key : ∀ a (ys : List S28) (js : List ByteArray), q ≤ a → a ≤ p.length → RFine p at_ (match rvalF p f a (deep + 1) with
          | none => none
          | some none => some none
          | some (some (x, q2)) => rlistF p f q2 kind fin deep (xs ++ [x]) js) := by
        intro a ys js ha1 ha2
        obtain ⟨r, hr, hb⟩ := ihv a (deep + 1) ha2 (by omega)
        rw [hr]
        cases r with
        | none => exact RFine.mk' (fun _ _ h => by cases h)
        | some x =>
          obtain ⟨x, k⟩ := x
          have := hb x k rfl
          exact (ihl k kind fin deep _ _ hfin this.2 (by omega)).up (by omega)
      split
      · next h => have := pre_le h hfin; exact RFine.mk' (fun x k hk => by injection hk with hk; injection hk with _ hk; omega)
      split
      · split
        · next h =>
          have := pre_le h (by simp); simp at this
          have hw := word_end_le p (q + 1) (by omega)
          split
          · exact key _ [] _ (by omega) hw
          · exact RFine.mk' (fun _ _ h => by cases h)
        · exact RFine.mk' (fun _ _ h => by cases h)
      · exact key _ [] _ (Nat.le_refl _) hq2
theorem rval_far (p : List UInt8) : ∀ f, (∀ at_ deep x k, at_ ≤ p.length → rvalF p f at_ deep = some (some (x, k)) → at_ < k ∧ k ≤ p.length) ∧ (∀ at_ kind fin deep xs ks x k, fin ≠ [] → at_ ≤ p.length → rlistF p f at_ kind fin deep xs ks = some (some (x, k)) → at_ < k ∧ k ≤ p.length) := by
  intro f
  induction f with
  | zero => exact ⟨fun _ _ _ _ _ h => by simp [rvalF] at h, fun _ _ _ _ _ _ _ _ _ _ h => by simp [rlistF] at h⟩
  | succ f ih =>
    obtain ⟨ihv, ihl⟩ := ih
    refine ⟨?_, ?_⟩
    · intro at_ deep x k hat hr
      rw [rvalF] at hr
      obtain ⟨q, hq⟩ : ∃ q, skipAt p at_ = q := ⟨_, rfl⟩
      have hq1 : at_ ≤ q := by rw [← hq]; exact le_skipAt p at_
      have hq2 : q ≤ p.length := by rw [← hq]; exact skipAt_le hat
      rw [hq] at hr
      split at hr
      · cases hr
      split at hr
      · cases hr
      split at hr
      · next h => have := pre_le h (by simp); simp at this; have := ihl _ _ _ _ _ _ _ _ (by simp) (by omega) hr; omega
      split at hr
      · next h => have := pre_le h (by simp); simp at this; have := ihl _ _ _ _ _ _ _ _ (by simp) (by omega) hr; omega
      split at hr
      · next h =>
        have := pre_le h (by simp); simp at this
        rw [rtextS_eq] at hr
        have := capR_far (a := q + 1) (fun x k hk => ofText_far (by omega) hk) x k (Option.some.inj hr); omega
      split at hr
      · next h =>
        have := pre_le h (by simp); simp at this
        rw [rnameS_eq] at hr
        have := capR_far (a := q) (n := p.length) (fun x k hk => by have := ofName_far (q := q + 1) (by omega) hk; omega) x k (Option.some.inj hr); omega
      · rw [rwordS_eq] at hr
        have := capR_far (a := q) (fun x k hk => ofRef_far hq2 hk) x k (Option.some.inj hr); omega
    · intro at_ kind fin deep xs ks x k hfin hat hr
      rw [rlistF] at hr
      obtain ⟨q, hq⟩ : ∃ q, skipAt p at_ = q := ⟨_, rfl⟩
      have hq1 : at_ ≤ q := by rw [← hq]; exact le_skipAt p at_
      have hq2 : q ≤ p.length := by rw [← hq]; exact skipAt_le hat
      rw [hq] at hr
      dsimp only at hr
      have hfl := List.length_pos_iff.2 hfin
      have key : ∀ a js, q ≤ a → a ≤ p.length → (match rvalF p f a (deep + 1) with
          | none => none
          | some none => some none
          | some (some (x, q2)) => rlistF p f q2 kind fin deep (xs ++ [x]) js) = some (some (x, k)) → at_ < k ∧ k ≤ p.length := by
        intro a js ha1 ha h
        cases hv : rvalF p f a (deep + 1) with
        | none => rw [hv] at h; cases h
        | some r =>
          cases r with
          | none => rw [hv] at h; cases h
          | some z =>
            obtain ⟨z, j⟩ := z
            rw [hv] at h
            have h1 := ihv _ _ _ _ ha hv; have h2 := ihl _ _ _ _ _ _ _ _ hfin h1.2 h; omega
      split at hr
      · next h => have := pre_le h hfin; injection hr with hr; injection hr with hr; injection hr with _ hr; omega
      split at hr
      · split at hr
        · next h =>
          have := pre_le h (by simp); simp at this
          have hw := word_end_le p (q + 1) (by omega)
          split at hr
          · exact key _ _ (by omega) hw hr
          · cases hr
        · cases hr
      · exact key _ _ (Nat.le_refl _) hq2 hr
theorem rval_le (p : List UInt8) (f : Nat) : (∀ at_ deep x k, at_ ≤ p.length → rvalF p f at_ deep = some (some (x, k)) → k ≤ p.length) ∧ (∀ at_ kind fin deep xs ks x k, fin ≠ [] → at_ ≤ p.length → rlistF p f at_ kind fin deep xs ks = some (some (x, k)) → k ≤ p.length) :=
  ⟨fun a b c d e h => ((rval_far p f).1 a b c d e h).2, fun a b c d e g x k hx ha h => ((rval_far p f).2 a b c d e g x k hx ha h).2⟩
end Go.Proofs.YtnckaeehcldheaaGreatDoor.Ob
end

section
set_option linter.unusedVariables false
set_option linter.unusedSimpArgs false
namespace Go.Proofs.YtnckaeehcldheaaGreatDoor.Ob
open Go.RowKit Go.Shelf YtnckaeehcldheaaGreatDoorW.PrintWords
inductive Sz : S28 → Prop
  | mk {x : S28} (h0 : 0 ≤ x.f0) (h3 : x.f3.size ≤ 4294967281) (h5 : ∀ k ∈ x.f5, k.size ≤ 4294967281) (l4 : x.f4.length ≤ 1099511627776) (l5 : x.f5.length ≤ 1099511627776) (h4 : ∀ y ∈ x.f4, Sz y) : Sz x
theorem Sz.sm {x : S28} (h : Sz x) : Sm x := by
  induction h with
  | mk h0 h3 h5 l4 l5 h4 ih => exact .mk h3 h5 ih
theorem Sz.flat (x : S28) (h0 : 0 ≤ x.f0) (h3 : x.f3.size ≤ 4294967281) (h4 : x.f4 = []) (h5 : x.f5 = []) : Sz x := .mk h0 h3 (by rw [h5]; simp) (by rw [h4]; simp) (by rw [h5]; simp) (by rw [h4]; simp)
theorem rlink_sz (p : List UInt8) (e : Nat) (s : List UInt8) (n : Int) : Sz (rlinkS p e s n).1 := by
  have key : ∀ k n g : Int, 0 ≤ k → Sz ⟨k, n, g, ⟨#[]⟩, [], []⟩ := fun k n g h => Sz.flat _ h (by show (0 : Nat) ≤ _; omega) rfl rfl
  unfold rlinkS
  dsimp only
  split
  · cases numR (wordL (p.drop (skipAt p e))) with
    | none => exact key _ _ _ (by decide)
    | some g =>
      dsimp only
      split <;> exact key _ _ _ (by decide)
  · exact key _ _ _ (by decide)
theorem rword_sz {p : List UInt8} {q : Nat} {x : S28} {k : Nat} (h : rwordS p q = some (x, k)) : Sz x := by
  have key : ∀ k n g : Int, 0 ≤ k → Sz ⟨k, n, g, ⟨#[]⟩, [], []⟩ := fun k n g h => Sz.flat _ h (by show (0 : Nat) ≤ _; omega) rfl rfl
  unfold rwordS at h
  dsimp only at h
  split at h
  · injection h with h; injection h with h _; rw [← h]; exact key _ _ _ (by decide)
  split at h
  · injection h with h; injection h with h _; rw [← h]; exact key _ _ _ (by decide)
  split at h
  · injection h with h; injection h with h _; rw [← h]; exact key _ _ _ (by decide)
  · obtain ⟨n, _, hn⟩ := Option.map_eq_some_iff.1 h
    have := rlink_sz p (q + (wordL (p.drop q)).length) (wordL (p.drop q)) n
    rw [hn] at this
    exact this
theorem rsz_all (p : List UInt8) (hpl : p.length ≤ 4294967281) : ∀ f, (∀ at_ deep x k, at_ ≤ p.length → rvalF p f at_ deep = some (some (x, k)) → Sz x) ∧ (∀ at_ kind fin deep xs ks x k, 0 ≤ kind → fin ≠ [] → at_ ≤ p.length → rlistF p f at_ kind fin deep xs ks = some (some (x, k)) → xs.length ≤ at_ → ks.length ≤ at_ → (∀ y ∈ xs, Sz y) → (∀ j ∈ ks, j.size ≤ 4294967281) → Sz x) := by
  intro f
  induction f with
  | zero => exact ⟨fun _ _ _ _ _ h => by simp [rvalF] at h, fun _ _ _ _ _ _ _ _ _ _ _ h => by simp [rlistF] at h⟩
  | succ f ih =>
    obtain ⟨ihv, ihl⟩ := ih
    refine ⟨?_, ?_⟩
    · intro at_ deep x k hat h
      rw [rvalF] at h
      obtain ⟨q, hq⟩ : ∃ q, skipAt p at_ = q := ⟨_, rfl⟩
      have hq2 : q ≤ p.length := by rw [← hq]; exact skipAt_le hat
      rw [hq] at h
      split at h
      · cases h
      split at h
      · cases h
      split at h
      · next h1 => have := pre_le h1 (by simp); simp at this; exact ihl _ _ _ _ _ _ _ _ (by decide) (by simp) (by omega) h (by simp) (by simp) (by simp) (by simp)
      split at h
      · next h1 => have := pre_le h1 (by simp); simp at this; exact ihl _ _ _ _ _ _ _ _ (by decide) (by simp) (by omega) h (by simp) (by simp) (by simp) (by simp)
      split at h
      · injection h with h
        obtain ⟨u, hu, e⟩ := Option.map_eq_some_iff.1 h
        injection e with e _
        rw [← e]
        have := textS_len (p := p) (t := u.1) (k := u.2) hu
        exact Sz.flat _ (by show (0 : Int) ≤ 4; decide) (by show (ofL u.1).size ≤ _; rw [ofL_size]; omega) rfl rfl
      split at h
      · injection h with h
        unfold rnameS at h
        dsimp only at h
        split at h
        · injection h with h; injection h with h _; rw [← h]
          have := wordL_len p (q + 1)
          exact Sz.flat _ (by show (0 : Int) ≤ 3; decide) (by show (ofL (wordL (p.drop (q + 1)))).size ≤ _; rw [ofL_size]; omega) rfl rfl
        · cases h
      · exact rword_sz (Option.some.inj h)
    · intro at_ kind fin deep xs ks x k hkd hfin hat h hxl hkl hxs hks
      rw [rlistF] at h
      obtain ⟨q, hq⟩ : ∃ q, skipAt p at_ = q := ⟨_, rfl⟩
      have hq1 : at_ ≤ q := by rw [← hq]; exact le_skipAt p at_
      have hq2 : q ≤ p.length := by rw [← hq]; exact skipAt_le hat
      rw [hq] at h
      dsimp only at h
      have key : ∀ a (js : List ByteArray), q ≤ a → a ≤ p.length → js.length ≤ a + 1 → (∀ j ∈ js, j.size ≤ 4294967281) → (match rvalF p f a (deep + 1) with
          | none => none
          | some none => some none
          | some (some (x, q2)) => rlistF p f q2 kind fin deep (xs ++ [x]) js) = some (some (x, k)) → Sz x := by
        intro a js ha1 ha hjl hjs h
        cases hv : rvalF p f a (deep + 1) with
        | none => rw [hv] at h; cases h
        | some r =>
          cases r with
          | none => rw [hv] at h; cases h
          | some z =>
            obtain ⟨z, j⟩ := z
            rw [hv] at h
            have hz := ihv _ _ _ _ ha hv
            have hf := (rval_far p f).1 _ _ _ _ ha hv
            refine ihl _ _ _ _ _ _ _ _ hkd hfin hf.2 h (by rw [List.length_append, List.length_singleton]; omega) (by omega) (fun y hy => ?_) hjs
            rcases List.mem_append.1 hy with hy | hy
            · exact hxs y hy
            · rw [List.mem_singleton.1 hy]; exact hz
      split at h
      · injection h with h
        injection h with h
        injection h with h _
        rw [← h]
        exact .mk hkd (by show (0 : Nat) ≤ _; omega) hks (by show xs.length ≤ _; omega) (by show ks.length ≤ _; omega) hxs
      split at h
      · split at h
        · next h1 =>
          have := pre_le h1 (by simp); simp at this
          have hw := word_end_le p (q + 1) (by omega)
          split at h
          · refine key _ _ (by omega) hw (by rw [List.length_append, List.length_singleton]; omega) (fun j hj => ?_) h
            rcases List.mem_append.1 hj with hj | hj
            · exact hks j hj
            · rw [List.mem_singleton.1 hj, ofL_size]
              have := wordL_len p (q + 1)
              omega
          · cases h
        · cases h
      · exact key _ _ (Nat.le_refl _) hq2 (by omega) hks h
def rbareB (x : S28) : Bool := decide (0 ≤ x.f0) && (decide (x.f0 ≤ 7) && (bareB x && (x.f0 != 6 || x.f5.length == x.f4.length)))
mutual
def rrightB : S28 → Bool
  | ⟨a, b, c, s, xs, ks⟩ => rbareB ⟨a, b, c, s, xs, ks⟩ && (decide (hgtL xs ≤ 32) && (if a = 1 then b == 0 || b == 1 else if a = 3 then plainL s.data.toList
      else if a = 7 then decide (0 < b) && (decide (b < 2147483648) && (decide (0 ≤ c) && decide (c < 65536))) else keysOk [] ks && rrightL xs))
def rrightL : List S28 → Bool
  | [] => true
  | x :: xs => rrightB x && rrightL xs
end
theorem rrightL_all (xs : List S28) : rrightL xs = xs.all rrightB := by
  induction xs with
  | nil => rw [rrightL]; rfl
  | cons x xs ih => rw [rrightL, ih]; rfl
theorem rrightB_eq (x : S28) : rrightB x = (rbareB x && (decide (hgt x ≤ 32) && (if x.f0 = 1 then x.f1 == 0 || x.f1 == 1 else if x.f0 = 3 then plainL x.f3.data.toList
      else if x.f0 = 7 then decide (0 < x.f1) && (decide (x.f1 < 2147483648) && (decide (0 ≤ x.f2) && decide (x.f2 < 65536))) else keysOk [] x.f5 && x.f4.all rrightB))) := by
  obtain ⟨a, b, c, s, xs, ks⟩ := x
  rw [rrightB, hgt, rrightL_all]
theorem bare_facts {x : S28} (h : bareB x = true) : (x.f0 = 7 ∨ x.f2 = 0) ∧ (x.f0 = 5 ∨ x.f0 = 6 ∨ x.f4 = []) ∧ (x.f0 = 6 ∨ x.f5 = []) := by
  unfold bareB at h
  simp only [Bool.and_eq_true, Bool.or_eq_true, beq_iff_eq] at h
  obtain ⟨⟨⟨⟨_, h2⟩, _⟩, h4⟩, h5⟩ := h
  refine ⟨h2, ?_, ?_⟩
  · rcases h4 with (h4 | h4) | h4
    · exact .inl h4
    · exact .inr (.inl h4)
    · exact .inr (.inr (List.eq_nil_of_length_eq_zero (by omega)))
  · rcases h5 with h5 | h5
    · exact .inl h5
    · exact .inr (List.eq_nil_of_length_eq_zero (by omega))
theorem right_step {x : S28} {n : Nat} (h0 : 0 ≤ x.f0) (hc : ∀ y ∈ x.f4, rightN n y = true → rrightB y = true) (hh : hgt x ≤ 32) (h : rightN (n + 1) x = true) : rrightB x = true := by
  rw [rrightB_eq]
  rw [rightN] at h
  simp only [Bool.and_eq_true, decide_eq_true_eq] at h
  obtain ⟨h7, hb, hr⟩ := h
  have hbf := bare_facts hb
  simp only [Bool.and_eq_true, decide_eq_true_eq]
  have hlen : x.f0 = 6 → x.f5.length = x.f4.length := by
    intro e
    rw [if_neg (by omega), if_neg (by omega), if_neg (by omega), if_pos e] at hr
    simp only [Bool.and_eq_true, keyedB, beq_iff_eq] at hr
    have := hr.1.2
    omega
  refine ⟨?_, hh, ?_⟩
  · unfold rbareB
    simp only [Bool.and_eq_true, decide_eq_true_eq, Bool.or_eq_true, bne_iff_ne, ne_eq, beq_iff_eq]
    refine ⟨h0, h7, hb, ?_⟩
    by_cases e : x.f0 = 6
    · exact .inr (hlen e)
    · exact .inl e
  · by_cases k1 : x.f0 = 1
    · rw [if_pos k1] at hr ⊢; exact hr
    rw [if_neg k1] at hr ⊢
    by_cases k3 : x.f0 = 3
    · rw [if_pos k3] at hr ⊢; exact hr
    rw [if_neg k3] at hr ⊢
    by_cases k7 : x.f0 = 7
    · rw [if_pos k7] at hr ⊢
      simp only [Bool.and_eq_true, decide_eq_true_eq] at hr ⊢
      omega
    rw [if_neg k7] at hr ⊢
    rw [Bool.and_eq_true] at hr ⊢
    refine ⟨?_, ?_⟩
    · by_cases k6 : x.f0 = 6
      · rw [if_pos k6] at hr
        have := hr.1
        unfold keyedB at this
        rw [Bool.and_eq_true] at this
        exact this.1
      · rcases hbf.2.2 with e | e
        · exact absurd e k6
        · rw [e]; rfl
    · rw [List.all_eq_true] at hr ⊢
      exact fun y hy => hc y hy (hr.2 y hy)
theorem right_back {x : S28} {n : Nat} (hc : ∀ y ∈ x.f4, rrightB y = true → rightN n y = true) (h : rrightB x = true) : rightN (n + 1) x = true := by
  rw [rrightB_eq] at h
  rw [rightN]
  simp only [Bool.and_eq_true, decide_eq_true_eq] at h ⊢
  obtain ⟨hb, hh, hr⟩ := h
  unfold rbareB at hb
  simp only [Bool.and_eq_true, decide_eq_true_eq, Bool.or_eq_true, bne_iff_ne, ne_eq, beq_iff_eq] at hb
  obtain ⟨h0, h7, hb, hl⟩ := hb
  refine ⟨h7, hb, ?_⟩
  by_cases k1 : x.f0 = 1
  · rw [if_pos k1] at hr ⊢; exact hr
  rw [if_neg k1] at hr ⊢
  by_cases k3 : x.f0 = 3
  · rw [if_pos k3] at hr ⊢; exact hr
  rw [if_neg k3] at hr ⊢
  by_cases k7 : x.f0 = 7
  · rw [if_pos k7] at hr ⊢
    simp only [Bool.and_eq_true, decide_eq_true_eq] at hr ⊢
    omega
  rw [if_neg k7] at hr ⊢
  rw [Bool.and_eq_true] at hr ⊢
  refine ⟨?_, ?_⟩
  · by_cases k6 : x.f0 = 6
    · rw [if_pos k6]
      unfold keyedB
      rw [Bool.and_eq_true, beq_iff_eq]
      rcases hl with hl | hl
      · exact absurd k6 hl
      · exact ⟨hr.1, by omega⟩
    · rw [if_neg k6]
  · have hr2 := hr.2
    rw [List.all_eq_true] at hr2 ⊢
    exact fun y hy => hc y hy (hr2 y hy)
theorem cap_same {x : S28} (h2 : min x.f2 100000 = x.f2) (h4 : ∀ y ∈ x.f4, capV y = y) : capV x = x := by
  rw [capV_eq, h2, capL_map]
  have : x.f4.map capV = x.f4 := by
    conv => rhs; rw [← List.map_id x.f4]
    exact List.map_congr_left h4
  rw [this]
  cases x
  rfl
theorem right_A : ∀ (n : Nat) (x : S28), n ≤ 33 → Sz (capV x) → rightN n x = true → capV x = x ∧ hgt x < n ∧ rrightB x = true := by
  intro n
  induction n with
  | zero => intro x _ _ h; simp [rightN] at h
  | succ n ih =>
    intro x hn hz h
    have h' := h
    rw [rightN] at h'
    simp only [Bool.and_eq_true, decide_eq_true_eq] at h'
    obtain ⟨h7, hb, hr⟩ := h'
    have hbf := bare_facts hb
    have hzz := hz
    rw [capV_eq] at hzz
    cases hzz with
    | mk h0 h3 h5 l4 l5 h4 =>
    dsimp only at h0 h4
    have hch : ∀ y ∈ x.f4, rightN n y = true := by
      intro y hy
      rcases hbf.2.1 with e | e | e
      · rw [if_neg (by omega), if_neg (by omega), if_neg (by omega)] at hr
        rw [Bool.and_eq_true, List.all_eq_true] at hr
        exact hr.2 y hy
      · rw [if_neg (by omega), if_neg (by omega), if_neg (by omega)] at hr
        rw [Bool.and_eq_true, List.all_eq_true] at hr
        exact hr.2 y hy
      · rw [e] at hy; cases hy
    have hI : ∀ y ∈ x.f4, capV y = y ∧ hgt y < n ∧ rrightB y = true := fun y hy => ih y (by omega) (h4 _ (by rw [capL_map]; exact List.mem_map_of_mem hy)) (hch y hy)
    have hh : hgt x ≤ n := by rw [hgt_eq]; exact hgtL_le (fun y hy => (hI y hy).2.1)
    refine ⟨cap_same ?_ (fun y hy => (hI y hy).1), by omega, right_step h0 (fun y hy _ => (hI y hy).2.2) (by omega) h⟩
    by_cases k7 : x.f0 = 7
    · rw [if_neg (by omega), if_neg (by omega), if_pos k7] at hr
      simp only [Bool.and_eq_true, decide_eq_true_eq] at hr
      omega
    · rcases hbf.1 with e | e
      · exact absurd e k7
      · rw [e]; decide
theorem right_B : ∀ (n : Nat) (x : S28), hgt x < n → rrightB (capV x) = true → rightN n x = true ∧ capV x = x := by
  intro n
  induction n with
  | zero => intro x h; omega
  | succ n ih =>
    intro x hh h
    have h' := h
    rw [rrightB_eq] at h'
    rw [capV_eq] at h'
    simp only [Bool.and_eq_true, decide_eq_true_eq] at h'
    obtain ⟨hb, -, hr⟩ := h'
    unfold rbareB at hb
    simp only [Bool.and_eq_true, decide_eq_true_eq] at hb
    have hbf := bare_facts hb.2.2.1
    dsimp only at hbf hb
    have hch : ∀ y ∈ x.f4, rrightB (capV y) = true := by
      intro y hy
      have key : (keysOk [] x.f5 = true ∧ (capL x.f4).all rrightB = true) → rrightB (capV y) = true := by
        rintro ⟨-, h2⟩
        rw [List.all_eq_true] at h2
        exact h2 _ (by rw [capL_map]; exact List.mem_map_of_mem hy)
      rcases hbf.2.1 with e | e | e
      · rw [if_neg (by omega), if_neg (by omega), if_neg (by omega), Bool.and_eq_true] at hr; exact key hr
      · rw [if_neg (by omega), if_neg (by omega), if_neg (by omega), Bool.and_eq_true] at hr; exact key hr
      · rw [capL_map] at e; rw [List.map_eq_nil_iff.1 e] at hy; cases hy
    have hI : ∀ y ∈ x.f4, rightN n y = true ∧ capV y = y := fun y hy => ih y (by have := hgtL_mem hy; rw [hgt_eq] at hh; omega) (hch y hy)
    have hs : capV x = x := by
      refine cap_same ?_ (fun y hy => (hI y hy).2)
      by_cases k7 : x.f0 = 7
      · rw [if_neg (by omega), if_neg (by omega), if_pos k7] at hr
        simp only [Bool.and_eq_true, decide_eq_true_eq] at hr
        omega
      · rcases hbf.1 with e | e
        · exact absurd e k7
        · omega
    rw [hs] at h
    exact ⟨right_back (fun y hy _ => (hI y hy).1) h, hs⟩
def rparseV (p : List UInt8) : RO := (rvalF p (2 * p.length + 1) 0 0).getD none
theorem rparseV_eq (p : List UInt8) : rvalF p (2 * p.length + 1) 0 0 = some (rparseV p) := by
  obtain ⟨r, h, _⟩ := (rfine_all p (2 * p.length + 1)).1 0 0 (by omega) (by omega)
  unfold rparseV
  rw [h]
  rfl
def rparseS (p : List UInt8) : RO := match rparseV p with
  | none => none
  | some (v, k) => if rrightB v = true then some (v, k) else none
theorem rparseV_sz {p : List UInt8} (hpl : p.length ≤ 4294967281) {x : S28} {k : Nat} (h : rparseV p = some (x, k)) : Sz x :=
  (rsz_all p hpl _).1 0 0 x k (by omega) (by rw [rparseV_eq, h])
theorem parse_to {p : List UInt8} (hpl : p.length ≤ 4294967281) {x : S28} {k : Nat} (h : parseS p = .ok (x, k)) : rparseS p = some (x, k) := by
  unfold parseS at h
  cases hv : parseV p with
  | error e => rw [hv] at h; cases h
  | ok v =>
    obtain ⟨v, j⟩ := v
    rw [hv] at h
    dsimp only at h
    split at h
    · next hr =>
      injection h with h
      injection h with h1 h2
      subst h1 h2
      have hf := (fwd p _).1 0 0 v j (by rw [parseV_eq, hv])
      rw [rparseV_eq] at hf
      have hf := Option.some.inj hf
      obtain ⟨hc, _, hrr⟩ := right_A 33 v (by omega) (rparseV_sz hpl hf) hr
      rw [hc] at hf
      unfold rparseS
      rw [hf]
      dsimp only
      rw [if_pos hrr]
    · cases h
theorem parse_from {p : List UInt8} {x : S28} {k : Nat} (h : rparseS p = some (x, k)) : parseS p = .ok (x, k) := by
  unfold rparseS at h
  cases hv : rparseV p with
  | none => rw [hv] at h; cases h
  | some v =>
    obtain ⟨v, j⟩ := v
    rw [hv] at h
    dsimp only at h
    split at h
    · next hr =>
      injection h with h
      injection h with h1 h2
      subst h1 h2
      have hh : hgt v ≤ 32 := by
        rw [rrightB_eq] at hr
        simp only [Bool.and_eq_true, decide_eq_true_eq] at hr
        exact hr.2.1
      obtain ⟨u, hu, hc⟩ := (bwd p _).1 0 0 v j (by rw [rparseV_eq, hv]) (by omega)
      rw [parseV_eq] at hu
      have hu := Option.some.inj hu
      rw [← hc] at hr
      have hb := right_B 33 u (by rw [← hgt_cap, hc]; omega) hr
      rw [hb.2] at hc
      subst hc
      unfold parseS
      rw [hu]
      dsimp only
      rw [if_pos hb.1]
    · cases h
theorem err_nameS (s : List UInt8) : (nameS s).2 = 0 ∨ (nameS s).2 = 2 ∨ (nameS s).2 = 14 := by
  unfold nameS
  split
  · exact .inr (.inr rfl)
  split
  · exact .inl rfl
  · exact .inr (.inl rfl)
theorem err_numL (s : List UInt8) : (numL s).2 = 0 ∨ (numL s).2 = 2 ∨ (numL s).2 = 14 := by
  unfold numL
  dsimp only
  split
  · exact .inr (.inl rfl)
  split
  · exact .inr (.inr rfl)
  · unfold numP
    split
    · split
      · exact .inl rfl
      · exact .inr (.inl rfl)
    · exact .inr (.inl rfl)
theorem err_all (p : List UInt8) : ∀ f, (∀ at_ deep e, valueF p f at_ deep = some (.error e) → e = 2 ∨ e = 14) ∧ (∀ at_ kind fin deep xs ks e, listF p f at_ kind fin deep xs ks = some (.error e) → e = 2 ∨ e = 14) := by
  intro f
  induction f with
  | zero => exact ⟨fun _ _ _ h => by simp [valueF] at h, fun _ _ _ _ _ _ _ h => by simp [listF] at h⟩
  | succ f ih =>
    obtain ⟨ihv, ihl⟩ := ih
    refine ⟨?_, ?_⟩
    · intro at_ deep e h
      rw [valueF] at h
      obtain ⟨q, hq⟩ : ∃ q, skipAt p at_ = q := ⟨_, rfl⟩
      rw [hq] at h
      split at h
      · injection h with h; injection h with h; exact .inl h.symm
      split at h
      · exact ihl _ _ _ _ _ _ _ h
      split at h
      · exact ihl _ _ _ _ _ _ _ h
      split at h
      · injection h with h
        unfold ofText at h
        split at h
        · injection h with h; exact .inl h.symm
        · cases h
      split at h
      · injection h with h; injection h with h; exact .inr h.symm
      split at h
      · injection h with h
        unfold ofName at h
        dsimp only at h
        split at h
        · cases h
        · next hn =>
          injection h with h
          rw [← h]
          rcases err_nameS (wordL (p.drop (q + 1))) with e | e | e
          · exact absurd e hn
          · exact .inl e
          · exact .inr e
      · injection h with h
        unfold ofRef at h
        split at h
        · cases h
        · next hn =>
          injection h with h
          rw [← h]
          unfold wordS at hn ⊢
          dsimp only at hn ⊢
          split
          · next e => rw [if_pos e] at hn; exact absurd rfl hn
          · next e1 =>
            rw [if_neg e1] at hn
            split
            · next e => rw [if_pos e] at hn; exact absurd rfl hn
            · next e2 =>
              rw [if_neg e2] at hn
              split
              · next e => rw [if_pos e] at hn; exact absurd rfl hn
              · next e3 =>
                rw [if_neg e3] at hn
                split
                · next e => rw [if_pos e] at hn; exact absurd rfl hn
                · next e4 =>
                  rcases err_numL (wordL (p.drop q)) with e | e | e
                  · exact absurd e e4
                  · exact .inl e
                  · exact .inr e
    · intro at_ kind fin deep xs ks e h
      rw [listF] at h
      obtain ⟨q, hq⟩ : ∃ q, skipAt p at_ = q := ⟨_, rfl⟩
      rw [hq] at h
      dsimp only at h
      have key : ∀ a js, (match valueF p f a (deep + 1) with
          | none => none
          | some (.error e) => some (.error e)
          | some (.ok (x, q2)) => listF p f q2 kind fin deep (xs ++ [x]) js) = some (.error e) → e = 2 ∨ e = 14 := by
        intro a js h
        cases hv : valueF p f a (deep + 1) with
        | none => rw [hv] at h; cases h
        | some r =>
          cases r with
          | error e' => rw [hv] at h; injection h with h; injection h with h; subst h; exact ihv _ _ _ hv
          | ok y => obtain ⟨y, j⟩ := y; rw [hv] at h; exact ihl _ _ _ _ _ _ _ h
      split at h
      · cases h
      split at h
      · split at h
        · split at h
          · exact key _ _ h
          · next hn =>
            injection h with h; injection h with h
            rw [← h]
            rcases err_nameS (wordL (p.drop (q + 1))) with e | e | e
            · exact absurd e hn
            · exact .inl e
            · exact .inr e
        · injection h with h; injection h with h; exact .inl h.symm
      · exact key _ _ h
theorem parse_err_code {p : List UInt8} {e : Int} (h : parseS p = .error e) : e = 2 ∨ e = 14 := by
  unfold parseS at h
  cases hv : parseV p with
  | error e' =>
    rw [hv] at h
    injection h with h
    subst h
    exact (err_all p _).1 0 0 e' (by rw [parseV_eq, hv])
  | ok v =>
    obtain ⟨v, j⟩ := v
    rw [hv] at h
    dsimp only at h
    split at h
    · cases h
    · injection h with h; exact .inl h.symm
end Go.Proofs.YtnckaeehcldheaaGreatDoor.Ob
end

section
set_option linter.unusedVariables false
set_option linter.unusedSimpArgs false
namespace Go.Proofs.YtnckaeehcldheaaGreatDoor.Ob
open Go.RowKit Go.Shelf YtnckaeehcldheaaGreatDoorW.PrintWords
theorem dig_at {l : List UInt8} {k : Nat} {b : UInt8} (h : digB l = true) (hb : l[k]? = some b) : isDig b = true := by
  cases hd : isDig b with
  | true => rfl
  | false => rw [digB, allF_stop hb hd] at h; exact absurd h (by simp)
theorem drop_at {l : List UInt8} {k : Nat} {b : UInt8} (hb : l[k]? = some b) : l.drop k = b :: l.drop (k + 1) := by
  obtain ⟨hk, e⟩ := List.getElem?_eq_some_iff.1 hb
  rw [List.drop_eq_getElem_cons hk, e]
set_option maxRecDepth 100000 in
set_option maxHeartbeats 8000000 in
theorem rnum_minus (s T : ByteArray) (l : List UInt8) (w : World) (hs : s.size ≤ 4294967281) (h0 : 0 < s.size) (h45 : s[0].toNat = 45) (hT : s.extract 1 s.size = T) (hTs : T.size ≤ 4294967281) (HL : Aside0 (l = T.data.toList)) (HN : Aside0 (numR s.data.toList = numT true l)) :
    Calls Tryz.prog 91 #[.string s] w fun e w' => e = .returned (numV2 (numR s.data.toList)) ∧ w' = w := by
  have he : s.toList.isEmpty = false := by
    rw [Lib.toList_data]
    have h2 := Lib.size_eq s
    cases hh : s.data.toList with
    | nil => rw [hh] at h2; rw [h2] at h0; exact absurd h0 (by simp)
    | cons => rfl
  obtain ⟨b0, hb0⟩ : ∃ b, s[0] = b := ⟨_, rfl⟩
  rw [hb0] at h45
  have e1 : ((b0.toNat : Int) == 45) = true := by rw [h45]; decide
  obtain ⟨d, hd⟩ : ∃ d, digB l = d := ⟨_, rfl⟩
  have HD := Aside0.mk hd
  rw [HL.out] at hd
  have HDD := Aside0.mk hd
  clear hd
  cases d with
  | false =>
    have HY := Aside0.mk (show numR s.data.toList = none by rw [HN.out, numT, if_neg (by rw [HD.out]; simp)])
    go_enter Tryz.func91, Tryz.ntmps91
    go_wp2_with (go_at_call 92; refine (rdigits_ok T false _ hTs HDD.out).mono ?_; rintro e w1 ⟨rfl, rfl⟩)
    go_ret2
    refine ⟨?_, rfl⟩
    rw [HY.out]
    rfl
  | true =>
    go_enter Tryz.func91, Tryz.ntmps91
    go_wp2_with (go_at_call 92; refine (rdigits_ok T true _ hTs HDD.out).mono ?_; rintro e w1 ⟨rfl, rfl⟩)
    try rw [hT]
    clear hT
    go_loop [5, 6] (fun a b => ∃ (n k : Nat), a = .int .u64 n ∧ b = .int .i64 k ∧ k ≤ T.size ∧ n ≤ 9223372036854775809 ∧ Aside0 (foldR (l.drop k) n = foldR l 0)) (fun _ b => T.size - (intOf b).toNat)
    case atStart => exact ⟨0, 0, rfl, rfl, Nat.zero_le _, Nat.zero_le _, ⟨rfl⟩⟩
    case round =>
      obtain ⟨n, k, rfl, rfl, hk, hn, HF⟩ := hrel
      by_cases hlt : k < T.size
      · have HB := Aside0.mk (show l[k]? = some T[k] by rw [HL.out]; exact str_at T k hlt)
        obtain ⟨b, hb⟩ : ∃ b, T[k] = b := ⟨_, rfl⟩
        rw [hb] at HB
        have hdig : isDig b = true := dig_at HD.out HB.out
        have hb1 : 48 ≤ b.toNat := by simp [isDig] at hdig; omega
        have hb2 : b.toNat ≤ 57 := by simp [isDig] at hdig; omega
        have hdrop := Aside0.mk (drop_at HB.out)
        clear hdig
        by_cases hbig : 922337203685477580 < n
        · have HY := Aside0.mk (show numR s.data.toList = none by rw [HN.out, numT, if_pos HD.out, ← HF.out, hdrop.out, foldR, if_pos hbig]; rfl)
          go_wp2
          go_ret2
          refine ⟨?_, rfl⟩
          rw [HY.out]
          rfl
        · have HF3 := Aside0.mk (show foldR (l.drop (k + 1)) (10 * n + (b.toNat - 48)) = foldR l 0 by rw [← HF.out, hdrop.out, foldR, if_neg hbig])
          go_wp2
          go_round
          case rel => exact ⟨10 * n + (b.toNat - 48), k + 1, by go_num, by go_num, by omega, by omega, HF3⟩
          case measure => simp [intOf]; omega
      · have hk2 : k = T.size := by omega
        have HF2 := Aside0.mk (show foldR l 0 = some n by rw [← HF.out, List.drop_of_length_le (by rw [HL.out, ← Lib.size_eq]; omega)]; rfl)
        have HX := Aside0.mk (show numR s.data.toList = numEnd true n by rw [HN.out, numT, if_pos HD.out, HF2.out]; rfl)
        clear HF HF2
        by_cases c1 : 9223372036854775808 < n
        · have HY := Aside0.mk (show numR s.data.toList = none by rw [HX.out, numEnd, if_pos (.inl c1)])
          clear HX
          go_wp2
          go_ret2
          refine ⟨?_, rfl⟩
          rw [HY.out]
          rfl
        · by_cases c2 : n = 9223372036854775808
          · subst c2
            have HY := Aside0.mk (show numR s.data.toList = numEnd true 9223372036854775808 from HX.out)
            clear HX
            go_wp2
            go_ret2
            refine ⟨?_, rfl⟩
            rw [HY.out]
            rfl
          · by_cases c3 : 0 < n
            · have HY := Aside0.mk (show numR s.data.toList = some (-(n : Int)) by rw [HX.out, numEnd, if_neg (by omega)]; rw [if_pos ⟨rfl, c3⟩])
              clear HX
              go_wp2
              go_ret2
              refine ⟨?_, rfl⟩
              rw [HY.out]
              refine congrArg (fun v => Ending.returned (.tuple #[.int .i64 v, .bool true])) ?_
              show _ = (_ : Int)
              simp
              try omega
            · obtain rfl : n = 0 := by omega
              have HY := Aside0.mk (show numR s.data.toList = some 0 by rw [HX.out, numEnd, if_neg (by omega), if_neg (by simp)]; rfl)
              clear HX
              go_wp2
              go_ret2
              refine ⟨?_, rfl⟩
              rw [HY.out]
              rfl
set_option maxRecDepth 100000 in
set_option maxHeartbeats 8000000 in
theorem rnum_plus (s T : ByteArray) (l : List UInt8) (w : World) (hs : s.size ≤ 4294967281) (h0 : 0 < s.size) (h43 : s[0].toNat = 43) (hT : s.extract 1 s.size = T) (hTs : T.size ≤ 4294967281) (HL : Aside0 (l = T.data.toList)) (HN : Aside0 (numR s.data.toList = numT false l)) :
    Calls Tryz.prog 91 #[.string s] w fun e w' => e = .returned (numV2 (numR s.data.toList)) ∧ w' = w := by
  have he : s.toList.isEmpty = false := by
    rw [Lib.toList_data]
    have h2 := Lib.size_eq s
    cases hh : s.data.toList with
    | nil => rw [hh] at h2; rw [h2] at h0; exact absurd h0 (by simp)
    | cons => rfl
  obtain ⟨b0, hb0⟩ : ∃ b, s[0] = b := ⟨_, rfl⟩
  rw [hb0] at h43
  have e1 : ((b0.toNat : Int) == 45) = false := by rw [h43]; decide
  have e2 : ((b0.toNat : Int) == 43) = true := by rw [h43]; decide
  obtain ⟨d, hd⟩ : ∃ d, digB l = d := ⟨_, rfl⟩
  have HD := Aside0.mk hd
  rw [HL.out] at hd
  have HDD := Aside0.mk hd
  clear hd
  cases d with
  | false =>
    have HY := Aside0.mk (show numR s.data.toList = none by rw [HN.out, numT, if_neg (by rw [HD.out]; simp)])
    go_enter Tryz.func91, Tryz.ntmps91
    go_wp2_with (go_at_call 92; refine (rdigits_ok T false _ hTs HDD.out).mono ?_; rintro e w1 ⟨rfl, rfl⟩)
    go_ret2
    refine ⟨?_, rfl⟩
    rw [HY.out]
    rfl
  | true =>
    go_enter Tryz.func91, Tryz.ntmps91
    go_wp2_with (go_at_call 92; refine (rdigits_ok T true _ hTs HDD.out).mono ?_; rintro e w1 ⟨rfl, rfl⟩)
    try rw [hT]
    clear hT
    go_loop [5, 6] (fun a b => ∃ (n k : Nat), a = .int .u64 n ∧ b = .int .i64 k ∧ k ≤ T.size ∧ n ≤ 9223372036854775809 ∧ Aside0 (foldR (l.drop k) n = foldR l 0)) (fun _ b => T.size - (intOf b).toNat)
    case atStart => exact ⟨0, 0, rfl, rfl, Nat.zero_le _, Nat.zero_le _, ⟨rfl⟩⟩
    case round =>
      obtain ⟨n, k, rfl, rfl, hk, hn, HF⟩ := hrel
      by_cases hlt : k < T.size
      · have HB := Aside0.mk (show l[k]? = some T[k] by rw [HL.out]; exact str_at T k hlt)
        obtain ⟨b, hb⟩ : ∃ b, T[k] = b := ⟨_, rfl⟩
        rw [hb] at HB
        have hdig : isDig b = true := dig_at HD.out HB.out
        have hb1 : 48 ≤ b.toNat := by simp [isDig] at hdig; omega
        have hb2 : b.toNat ≤ 57 := by simp [isDig] at hdig; omega
        have hdrop := Aside0.mk (drop_at HB.out)
        clear hdig
        by_cases hbig : 922337203685477580 < n
        · have HY := Aside0.mk (show numR s.data.toList = none by rw [HN.out, numT, if_pos HD.out, ← HF.out, hdrop.out, foldR, if_pos hbig]; rfl)
          go_wp2
          go_ret2
          refine ⟨?_, rfl⟩
          rw [HY.out]
          rfl
        · have HF3 := Aside0.mk (show foldR (l.drop (k + 1)) (10 * n + (b.toNat - 48)) = foldR l 0 by rw [← HF.out, hdrop.out, foldR, if_neg hbig])
          go_wp2
          go_round
          case rel => exact ⟨10 * n + (b.toNat - 48), k + 1, by go_num, by go_num, by omega, by omega, HF3⟩
          case measure => simp [intOf]; omega
      · have hk2 : k = T.size := by omega
        have HF2 := Aside0.mk (show foldR l 0 = some n by rw [← HF.out, List.drop_of_length_le (by rw [HL.out, ← Lib.size_eq]; omega)]; rfl)
        have HX := Aside0.mk (show numR s.data.toList = numEnd false n by rw [HN.out, numT, if_pos HD.out, HF2.out]; rfl)
        clear HF HF2
        by_cases c1 : 9223372036854775808 < n
        · have HY := Aside0.mk (show numR s.data.toList = none by rw [HX.out, numEnd, if_pos (.inl c1)])
          clear HX
          go_wp2
          go_ret2
          refine ⟨?_, rfl⟩
          rw [HY.out]
          rfl
        · by_cases c2 : n = 9223372036854775808
          · subst c2
            have HY := Aside0.mk (show numR s.data.toList = numEnd false 9223372036854775808 from HX.out)
            clear HX
            go_wp2
            go_ret2
            refine ⟨?_, rfl⟩
            rw [HY.out]
            rfl
          · by_cases c3 : 0 < n
            · have HY := Aside0.mk (show numR s.data.toList = some ((n : Int)) by rw [HX.out, numEnd, if_neg (by omega)]; rw [if_neg (by simp)])
              clear HX
              go_wp2
              go_ret2
              refine ⟨?_, rfl⟩
              rw [HY.out]
              refine congrArg (fun v => Ending.returned (.tuple #[.int .i64 v, .bool true])) ?_
              show _ = (_ : Int)
              simp
              try omega
            · obtain rfl : n = 0 := by omega
              have HY := Aside0.mk (show numR s.data.toList = some 0 by rw [HX.out, numEnd, if_neg (by omega), if_neg (by simp)]; rfl)
              clear HX
              go_wp2
              go_ret2
              refine ⟨?_, rfl⟩
              rw [HY.out]
              rfl
set_option maxRecDepth 100000 in
set_option maxHeartbeats 8000000 in
theorem rnum_none (T : ByteArray) (l : List UInt8) (w : World) (hTs : T.size ≤ 4294967281) (h0 : 0 < T.size) (h43 : ¬ T[0].toNat = 43) (h45 : ¬ T[0].toNat = 45) (HL : Aside0 (l = T.data.toList)) (HN : Aside0 (numR T.data.toList = numT false l)) :
    Calls Tryz.prog 91 #[.string T] w fun e w' => e = .returned (numV2 (numR T.data.toList)) ∧ w' = w := by
  have he : T.toList.isEmpty = false := by
    rw [Lib.toList_data]
    have h2 := Lib.size_eq T
    cases hh : T.data.toList with
    | nil => rw [hh] at h2; rw [h2] at h0; exact absurd h0 (by simp)
    | cons => rfl
  obtain ⟨b0, hb0⟩ : ∃ b, T[0] = b := ⟨_, rfl⟩
  rw [hb0] at h43 h45
  have e1 : ((b0.toNat : Int) == 45) = false := by simp; omega
  have e2 : ((b0.toNat : Int) == 43) = false := by simp; omega
  have hT : T = T := rfl
  obtain ⟨d, hd⟩ : ∃ d, digB l = d := ⟨_, rfl⟩
  have HD := Aside0.mk hd
  rw [HL.out] at hd
  have HDD := Aside0.mk hd
  clear hd
  cases d with
  | false =>
    have HY := Aside0.mk (show numR T.data.toList = none by rw [HN.out, numT, if_neg (by rw [HD.out]; simp)])
    go_enter Tryz.func91, Tryz.ntmps91
    go_wp2_with (go_at_call 92; refine (rdigits_ok T false _ hTs HDD.out).mono ?_; rintro e w1 ⟨rfl, rfl⟩)
    go_ret2
    refine ⟨?_, rfl⟩
    rw [HY.out]
    rfl
  | true =>
    go_enter Tryz.func91, Tryz.ntmps91
    go_wp2_with (go_at_call 92; refine (rdigits_ok T true _ hTs HDD.out).mono ?_; rintro e w1 ⟨rfl, rfl⟩)
    clear hT
    go_loop [5, 6] (fun a b => ∃ (n k : Nat), a = .int .u64 n ∧ b = .int .i64 k ∧ k ≤ T.size ∧ n ≤ 9223372036854775809 ∧ Aside0 (foldR (l.drop k) n = foldR l 0)) (fun _ b => T.size - (intOf b).toNat)
    case atStart => exact ⟨0, 0, rfl, rfl, Nat.zero_le _, Nat.zero_le _, ⟨rfl⟩⟩
    case round =>
      obtain ⟨n, k, rfl, rfl, hk, hn, HF⟩ := hrel
      by_cases hlt : k < T.size
      · have HB := Aside0.mk (show l[k]? = some T[k] by rw [HL.out]; exact str_at T k hlt)
        obtain ⟨b, hb⟩ : ∃ b, T[k] = b := ⟨_, rfl⟩
        rw [hb] at HB
        have hdig : isDig b = true := dig_at HD.out HB.out
        have hb1 : 48 ≤ b.toNat := by simp [isDig] at hdig; omega
        have hb2 : b.toNat ≤ 57 := by simp [isDig] at hdig; omega
        have hdrop := Aside0.mk (drop_at HB.out)
        clear hdig
        by_cases hbig : 922337203685477580 < n
        · have HY := Aside0.mk (show numR T.data.toList = none by rw [HN.out, numT, if_pos HD.out, ← HF.out, hdrop.out, foldR, if_pos hbig]; rfl)
          go_wp2
          go_ret2
          refine ⟨?_, rfl⟩
          rw [HY.out]
          rfl
        · have HF3 := Aside0.mk (show foldR (l.drop (k + 1)) (10 * n + (b.toNat - 48)) = foldR l 0 by rw [← HF.out, hdrop.out, foldR, if_neg hbig])
          go_wp2
          go_round
          case rel => exact ⟨10 * n + (b.toNat - 48), k + 1, by go_num, by go_num, by omega, by omega, HF3⟩
          case measure => simp [intOf]; omega
      · have hk2 : k = T.size := by omega
        have HF2 := Aside0.mk (show foldR l 0 = some n by rw [← HF.out, List.drop_of_length_le (by rw [HL.out, ← Lib.size_eq]; omega)]; rfl)
        have HX := Aside0.mk (show numR T.data.toList = numEnd false n by rw [HN.out, numT, if_pos HD.out, HF2.out]; rfl)
        clear HF HF2
        by_cases c1 : 9223372036854775808 < n
        · have HY := Aside0.mk (show numR T.data.toList = none by rw [HX.out, numEnd, if_pos (.inl c1)])
          clear HX
          go_wp2
          go_ret2
          refine ⟨?_, rfl⟩
          rw [HY.out]
          rfl
        · by_cases c2 : n = 9223372036854775808
          · subst c2
            have HY := Aside0.mk (show numR T.data.toList = numEnd false 9223372036854775808 from HX.out)
            clear HX
            go_wp2
            go_ret2
            refine ⟨?_, rfl⟩
            rw [HY.out]
            rfl
          · by_cases c3 : 0 < n
            · have HY := Aside0.mk (show numR T.data.toList = some ((n : Int)) by rw [HX.out, numEnd, if_neg (by omega)]; rw [if_neg (by simp)])
              clear HX
              go_wp2
              go_ret2
              refine ⟨?_, rfl⟩
              rw [HY.out]
              refine congrArg (fun v => Ending.returned (.tuple #[.int .i64 v, .bool true])) ?_
              show _ = (_ : Int)
              simp
              try omega
            · obtain rfl : n = 0 := by omega
              have HY := Aside0.mk (show numR T.data.toList = some 0 by rw [HX.out, numEnd, if_neg (by omega), if_neg (by simp)]; rfl)
              clear HX
              go_wp2
              go_ret2
              refine ⟨?_, rfl⟩
              rw [HY.out]
              rfl
end Go.Proofs.YtnckaeehcldheaaGreatDoor.Ob
end

section
set_option linter.unusedVariables false
set_option linter.unusedSimpArgs false
namespace Go.Proofs.YtnckaeehcldheaaGreatDoor.Ob
open Go.RowKit Go.Shelf YtnckaeehcldheaaGreatDoorW.PrintWords
theorem tail_list (s : ByteArray) : (s.extract 1 s.size).data.toList = s.data.toList.drop 1 := by
  rw [ByteArray.data_extract, Array.toList_extract, List.extract_eq_take_drop]
  exact List.take_of_length_le (by rw [List.length_drop, ← Lib.size_eq]; omega)
theorem cons_list (s : ByteArray) (h : 0 < s.size) : s.data.toList = s[0] :: s.data.toList.drop 1 := by
  have := drop_at (str_at s 0 h)
  simpa using this
set_option maxRecDepth 100000 in
theorem rnumber_ok (s : ByteArray) (w : World) (hs : s.size ≤ 4294967281) :
    Calls Tryz.prog 91 #[.string s] w fun e w' => e = .returned (numV2 (numR s.data.toList)) ∧ w' = w := by
  by_cases h0 : 0 < s.size
  · have hc := cons_list s h0
    have ht := tail_list s
    have hTs : (s.extract 1 s.size).size ≤ 4294967281 := by
      rw [Lib.size_eq, ht, List.length_drop, ← Lib.size_eq]; omega
    by_cases h45 : s[0].toNat = 45
    · refine rnum_minus s _ (s.data.toList.drop 1) w hs h0 h45 rfl hTs ⟨ht.symm⟩ ⟨?_⟩
      rw [hc, numR, if_pos (UInt8.toNat_inj.1 (by rw [h45]; rfl))]
      rfl
    · by_cases h43 : s[0].toNat = 43
      · refine rnum_plus s _ (s.data.toList.drop 1) w hs h0 h43 rfl hTs ⟨ht.symm⟩ ⟨?_⟩
        rw [hc, numR, if_neg (fun e => h45 (by rw [e]; rfl)), if_pos (UInt8.toNat_inj.1 (by rw [h43]; rfl))]
        rfl
      · refine rnum_none s s.data.toList w hs h0 h43 h45 ⟨rfl⟩ ⟨?_⟩
        rw [hc, numR, if_neg (fun e => h45 (by rw [e]; rfl)), if_neg (fun e => h43 (by rw [e]; rfl))]
  · have h1 : s = ⟨#[]⟩ := str_empty s (by omega)
    subst h1
    clear h0 hs
    go_enter Tryz.func91, Tryz.ntmps91
    go_wp2_with (go_at_call 92; refine (rdigits_ok ⟨#[]⟩ false _ (by decide) (by decide)).mono ?_; rintro e w1 ⟨rfl, rfl⟩)
    go_ret2
    exact ⟨rfl, rfl⟩
end Go.Proofs.YtnckaeehcldheaaGreatDoor.Ob
end

section
set_option linter.unusedVariables false
set_option linter.unusedSimpArgs false
namespace Go.Proofs.YtnckaeehcldheaaGreatDoor.Ob
open Go.RowKit Go.Shelf YtnckaeehcldheaaGreatDoorW.PrintWords
def hexR (c : UInt8) : Int := if 48 ≤ c.toNat ∧ c.toNat ≤ 57 then (c.toNat : Int) - 48 else if 97 ≤ c.toNat ∧ c.toNat ≤ 102 then (c.toNat : Int) - 87 else if 65 ≤ c.toNat ∧ c.toNat ≤ 70 then (c.toNat : Int) - 55 else -1
theorem hexR_le (c : UInt8) : -1 ≤ hexR c ∧ hexR c ≤ 15 := by
  unfold hexR
  repeat' split
  all_goals omega
theorem hexR_all : ∀ n : Fin 256, hexD (UInt8.ofNat n.val) = if hexR (UInt8.ofNat n.val) < 0 then none else some (UInt8.ofNat (hexR (UInt8.ofNat n.val)).toNat) := by decide +kernel
theorem hexR_D (c : UInt8) : hexD c = if hexR c < 0 then none else some (UInt8.ofNat (hexR c).toNat) := by
  have := hexR_all ⟨c.toNat, c.toNat_lt⟩
  simpa using this
def scanT : List UInt8 → Nat → List UInt8 → Bool → Option (List UInt8 × Nat)
  | [], _, _, _ => none
  | c :: l, k, xs, hf => if c = 62 then some (xs, k + 1) else if blank c = true then scanT l (k + 1) xs hf else match hexD c with
    | none => none
    | some d => if hf = true then scanT l (k + 1) (xs.set (xs.length - 1) (xs.getD (xs.length - 1) 0 ||| d)) false else scanT l (k + 1) (xs ++ [UInt8.ofNat (16 * d.toNat)]) true
theorem scan_idx (l : List UInt8) : ∀ (k : Nat) (xs : List UInt8) (hf : Bool), scanT l k xs hf = if Lib.indexByte l 62 < 0 then none else (undL (l.take (Lib.indexByte l 62).toNat) xs hf).map fun t => (t, k + (Lib.indexByte l 62).toNat + 1) := by
  induction l with
  | nil => intro k xs hf; rfl
  | cons c l ih =>
    intro k xs hf
    by_cases h62 : c = 62
    · subst h62
      have : Lib.indexByte (62 :: l) 62 = 0 := by simp [Lib.indexByte]
      rw [this, scanT, if_pos rfl]
      simp [undL]
    · have hge := Lib.indexByte_ge l 62
      have hb : (c == 62) = false := by simpa using h62
      obtain ⟨v, hv⟩ : ∃ v, Lib.indexByte l 62 = v := ⟨_, rfl⟩
      rw [hv] at hge
      have hi : Lib.indexByte (c :: l) 62 = if v == -1 then -1 else v + 1 := by rw [Lib.indexByte, hb, hv]; rfl
      have ih' : ∀ (k : Nat) (xs : List UInt8) (hf : Bool), scanT l k xs hf = if v < 0 then none else (undL (l.take v.toNat) xs hf).map fun t => (t, k + v.toNat + 1) := by intro k xs hf; rw [ih k xs hf, hv]
      by_cases hv0 : v < 0
      · obtain rfl : v = -1 := by omega
        have hi2 : Lib.indexByte (c :: l) 62 = -1 := by rw [hi]; rfl
        rw [hi2, if_pos (show (-1 : Int) < 0 by decide), scanT, if_neg h62]
        split
        · rw [ih', if_pos hv0]
        · cases hexD c with
          | none => rfl
          | some d =>
            show (if hf = true then _ else _) = _
            split <;> rw [ih', if_pos hv0]
      · have hb2 : (v == -1) = false := by simp; omega
        have hi2 : Lib.indexByte (c :: l) 62 = v + 1 := by rw [hi, hb2]; rfl
        have htn : (v + 1).toNat = v.toNat + 1 := by omega
        rw [hi2, if_neg (show ¬ v + 1 < 0 by omega), htn, List.take_succ_cons, undL, scanT, if_neg h62]
        have hk : ∀ a : Nat, k + 1 + a + 1 = k + (a + 1) + 1 := fun a => by omega
        split
        · rw [ih', if_neg hv0, hk]
        · cases hexD c with
          | none => rfl
          | some d =>
            show (if hf = true then _ else _) = Option.map _ (if hf = true then _ else _)
            split <;> rw [ih', if_neg hv0, hk]
theorem textS_scan (p : List UInt8) (at_ : Nat) : textS p at_ = scanT (p.drop at_) at_ [] false := by
  rw [scan_idx, textS]
end Go.Proofs.YtnckaeehcldheaaGreatDoor.Ob
end

section
set_option linter.unusedVariables false
set_option linter.unusedSimpArgs false
namespace Go.Proofs.YtnckaeehcldheaaGreatDoor.Ob
open Go.RowKit Go.Shelf YtnckaeehcldheaaGreatDoorW.PrintWords
theorem rhexR_ok (c : UInt8) (v : Int) (w : World) (h : hexR c = v) :
    Calls Tryz.prog 120 #[.int .u8 (c.toNat : Int)] w fun e w' => e = .returned (.int .i64 v) ∧ w' = w := by
  subst h
  exact rhex_ok c w
theorem or_16 (a b : UInt8) (ha : a.toNat % 16 = 0) (hb : b.toNat < 16) : (a ||| b).toNat = a.toNat + b.toNat := by
  rw [UInt8.toNat_or]
  obtain ⟨q, hq⟩ : ∃ q, a.toNat = 2 ^ 4 * q := ⟨a.toNat / 16, by omega⟩
  rw [hq, Nat.two_pow_add_eq_or_of_lt (by omega)]
def TextR (w : World) (o : Option (List UInt8 × Nat)) (e : Ending) (w' : World) : Prop :=
  Below w.heap.size w w' ∧ match o with
  | none => ∃ s n, e = .returned (.tuple #[.string s, .int .i64 n, .bool false])
  | some (t, q) => e = .returned (.tuple #[.string (ofL t), .int .i64 (q : Int), .bool true])
theorem TextR.no {w w' : World} {o : Option (List UInt8 × Nat)} {e : Ending} (s : ByteArray) (n : Int) (hb : Below w.heap.size w w') (h : o = none) (he : e = .returned (.tuple #[.string s, .int .i64 n, .bool false])) : TextR w o e w' := by
  subst h; exact ⟨hb, s, n, he⟩
theorem TextR.yes {w w' : World} {o : Option (List UInt8 × Nat)} {e : Ending} {t : List UInt8} {q : Nat} (hb : Below w.heap.size w w') (h : o = some (t, q)) (he : e = .returned (.tuple #[.string (ofL t), .int .i64 (q : Int), .bool true])) : TextR w o e w' := by
  subst h; exact ⟨hb, he⟩
set_option maxRecDepth 100000 in
set_option maxHeartbeats 8000000 in
theorem rtext_ok (A : Option Addr) (c : Nat) (p : List UInt8) (at_ : Nat) (o : Option (List UInt8 × Nat)) (w : World) (hp : RB w A p) (hpl : p.length < 4294967281) (hat : at_ ≤ p.length) (ho : textS p at_ = o) :
    Calls Tryz.prog 88 #[.slice A p.length c, .int .i64 (at_ : Int)] w (TextR w o) := by
  have HP := Aside0.mk hp
  have HO := Aside0.mk (show scanT (p.drop at_) at_ [] false = o by rw [← textS_scan]; exact ho)
  clear hp ho
  go_enter Tryz.func88, Tryz.ntmps88
  go_wp2
  go_loopw [1, 7, 8] (fun a v nn wr => ∃ (k : Nat) (hf : Bool) (xs : List UInt8) (n : Nat), a = .int .i64 k ∧ nn = .int .i64 n ∧ k ≤ p.length ∧ n ≤ 2 * k ∧ Aside0 (n + (if hf = true then 1 else 0) = 2 * xs.length) ∧ Aside0 (wr.ownsRow w.heap.size 5 1 v (bl xs).length (nums .u8 (bl xs))) ∧ Aside0 (Below w.heap.size w wr) ∧ Aside0 (scanT (p.drop k) k xs hf = o) ∧ Aside0 (hf = true → (xs.getD (xs.length - 1) 0).toNat % 16 = 0) ∧ Aside0 (xs.length ≤ k)) (fun a _ _ _ => p.length - (intOf a).toNat)
  case atStart => exact ⟨at_, false, [], 0, rfl, rfl, hat, Nat.zero_le _, ⟨rfl⟩, ⟨own_nil _ _ _ _⟩, ⟨Below.refl _ _⟩, HO, ⟨fun h => by cases h⟩, ⟨Nat.zero_le _⟩⟩
  case round =>
    obtain ⟨k, hf, xs, n, rfl, rfl, hk, hn, HN, HV, HW, HE, HX, HL⟩ := hrel
    clear HO
    by_cases hlt : k < p.length
    · obtain ⟨ad, e, hc⟩ := (HP.out.below HW.out).at_ k hlt
      cases e
      obtain ⟨b, hb⟩ : ∃ b, p[k] = b := ⟨_, rfl⟩
      rw [hb] at hc
      have hE := HE.out
      rw [List.drop_eq_getElem_cons hlt, hb, scanT] at hE
      have HE2 := Aside0.mk hE
      clear HE hE hb
      by_cases h62 : b = 62
      · have e1 : ((b.toNat : Int) == 62) = true := by rw [h62]; decide
        have e1' : ((b.toNat : Int) != 62) = false := by rw [h62]; decide
        have HS := Aside0.mk (show o = some (xs, k + 1) by rw [← HE2.out, if_pos h62])
        clear HE2 h62
        obtain ⟨A2, c2, rfl, hrb, -⟩ := own_RB HV.out
        have hst := hrb.str c2
        clear hrb
        go_wp2
        exact bodyPost_ret (v := .tuple #[.string ⟨xs.toArray⟩, .int .i64 ((k : Int) + 1), .bool true]) (by simp [results, Tryz.results88, go_sem]) rfl (TextR.yes HW.out HS.out rfl)
      · have e1 : ((b.toNat : Int) == 62) = false := by
          have : b.toNat ≠ 62 := fun e => h62 (UInt8.toNat_inj.1 e)
          simp; omega
        have e1' : ((b.toNat : Int) != 62) = true := by rw [bne, e1]; rfl
        obtain ⟨q, hq⟩ : ∃ q, blank b = q := ⟨_, rfl⟩
        have HQ := Aside0.mk hq
        have HE3 := Aside0.mk (HE2.out.symm.trans (if_neg h62))
        clear hq HE2 h62
        cases q with
        | true =>
          go_wp2_with (go_at_call 119; refine (rblank_ok b true _ HQ.out).mono ?_; rintro e w1 ⟨rfl, rfl⟩)
          go_roundw
          case rel => exact ⟨k + 1, hf, xs, n, by go_num, rfl, by omega, by omega, HN, HV, HW, ⟨by rw [HE3.out, if_pos HQ.out]⟩, HX, ⟨by have := HL.out; omega⟩⟩
          case measure => simp [intOf]; omega
        | false =>
          obtain ⟨v, hv⟩ : ∃ v, hexR b = v := ⟨_, rfl⟩
          have HH := Aside0.mk hv
          have hv1 : -1 ≤ v := by rw [← hv]; exact (hexR_le b).1
          have hv2 : v ≤ 15 := by rw [← hv]; exact (hexR_le b).2
          have HE4 := Aside0.mk (HE3.out.trans (if_neg (by rw [HQ.out]; simp)))
          clear HE3 hv
          by_cases h0 : v < 0
          · have HS := Aside0.mk (show o = none by rw [HE4.out, hexR_D, HH.out, if_pos h0])
            clear HE4
            go_wp2_with (first | (go_at_call 119; refine (rblank_ok b false _ HQ.out).mono ?_; rintro e w1 ⟨rfl, rfl⟩) | (go_at_call 120; refine (rhexR_ok b v _ HH.out).mono ?_; rintro e w1 ⟨rfl, rfl⟩))
            exact bodyPost_ret (v := .tuple #[.string ⟨#[]⟩, .int .i64 0, .bool false]) (by simp [results, Tryz.results88, go_sem]) rfl (TextR.no _ _ HW.out HS.out rfl)
          · cases hf with
            | false =>
              have hm2 : (n : Int) % 2 = 0 := by have := HN.out; simp at this; omega
              have hxl := HL.out
              have hnat : 16 * (UInt8.ofNat v.toNat).toNat = 16 * v.toNat := by simp; omega
              have HE6 := Aside0.mk (show o = _ by rw [HE4.out, hexR_D, HH.out, if_neg (show ¬ v < 0 by omega)])
              go_wp2_with (first | (go_at_call 119; refine (rblank_ok b false _ HQ.out).mono ?_; rintro e w1 ⟨rfl, rfl⟩) | (go_at_call 120; refine (rhexR_ok b v _ HH.out).mono ?_; rintro e w1 ⟨rfl, rfl⟩) | (at_builtin; refine print_append_num w.heap.size rfl (.tmp 38) (.tmp 42) 22 5 .u8 1 rfl Tryz.underlying22 Tryz.info5 (by decide) _ (bl xs) _ rfl rfl HV.out HW.out HW.out.size (by simp; omega) ?_; intro v1 w3 hown hB1 hg hat))
              go_roundw
              case rel =>
                refine ⟨k + 1, true, xs ++ [UInt8.ofNat (16 * v.toNat)], n + 1, by go_num, by go_num, by omega, by omega, ⟨by have := HN.out; simp at this ⊢; omega⟩, ⟨?_⟩, ⟨hB1⟩, ⟨by rw [HE6.out, if_neg (by simp), hnat]⟩, ⟨fun _ => by simp <;> omega⟩, ⟨by simp <;> omega⟩⟩
                have e : bl xs ++ [16 * v] = bl (xs ++ [UInt8.ofNat (16 * v.toNat)]) := by
                  simp [bl]; omega
                rw [e] at hown
                exact hown
              case measure => simp [intOf]; omega
            | true =>
              have hlen : 0 < xs.length := by have := HN.out; simp at this; omega
              have hL := HL.out
              have hm2 : (n : Int) % 2 = 1 := by have := HN.out; simp at this; omega
              obtain ⟨m, hm⟩ : ∃ m, xs.length - 1 = m := ⟨_, rfl⟩
              have hd2 : (n : Int) / 2 = (m : Int) := by have := HN.out; simp at this; omega
              obtain ⟨g, cap, hv', hgb, hgl⟩ := HV.out.form (by simpa using hlen)
              subst hv'
              obtain ⟨x0, hx0⟩ : ∃ x0 : UInt8, xs.getD (xs.length - 1) 0 = x0 := ⟨_, rfl⟩
              have hx16 : x0.toNat % 16 = 0 := by rw [← hx0]; exact HX.out rfl
              obtain ⟨hcell, hfro⟩ := own_at HV.out ((xs.length - 1 : Nat) : Int) (by omega) (by simp; omega)
              rw [rd_bl _ _ (by omega), show xs[xs.length - 1]'(by omega) = x0 by rw [← hx0]; simp [List.getD_eq_getElem?_getD, List.getElem?_eq_getElem (show xs.length - 1 < xs.length by omega)]] at hcell
              simp only [Int.toNat_natCast] at hcell hfro
              have hst := (own_store HV.out ((xs.length - 1 : Nat) : Int) ((x0.toNat : Int) + v)).1
              simp only [Int.toNat_natCast] at hst
              rw [hm] at hcell hfro hst
              have hx240 : x0.toNat ≤ 240 := by have := x0.toNat_lt; omega
              have HX0 := Aside0.mk hx0
              have HM := Aside0.mk hm
              have HST := Aside0.mk hst
              have H16 := Aside0.mk hx16
              clear hx0 hst hm hx16
              have hml : m < xs.length := by rw [← HM.out]; omega
              go_wp2_with (first | (go_at_call 119; refine (rblank_ok b false _ HQ.out).mono ?_; rintro e w1 ⟨rfl, rfl⟩) | (go_at_call 120; refine (rhexR_ok b v _ HH.out).mono ?_; rintro e w1 ⟨rfl, rfl⟩))
              have HE6 := Aside0.mk (show o = _ by rw [HE4.out, hexR_D, HH.out, if_neg (show ¬ v < 0 by omega)])
              go_roundw
              case rel =>
                have hor : ((x0 ||| UInt8.ofNat v.toNat).toNat : Int) = (x0.toNat : Int) + v := by
                  have h1 := or_16 x0 (UInt8.ofNat v.toNat) H16.out (by simp; omega)
                  rw [h1]
                  simp
                  omega
                refine ⟨k + 1, false, xs.set m (x0 ||| UInt8.ofNat v.toNat), n + 1, by go_num, by go_num, by omega, by omega, ⟨by have := HN.out; simp at this ⊢; omega⟩, ⟨?_⟩, ⟨HW.out.setCell hgb _⟩, ⟨by rw [HE6.out, ← HM.out, HX0.out]; rfl⟩, ⟨fun h => by cases h⟩, ⟨by simp <;> omega⟩⟩
                have e : (bl xs).set m ((x0.toNat : Int) + v) = bl (xs.set m (x0 ||| UInt8.ofNat v.toNat)) := by
                  rw [← hor]
                  simp [bl, List.map_set]
                have hst := HST.out
                rw [e] at hst
                simpa using hst
              case measure => simp [intOf]; omega
    · have HS := Aside0.mk (show o = none by rw [← HE.out, List.drop_of_length_le (by omega)]; rfl)
      obtain ⟨A2, c2, rfl, hrb, -⟩ := own_RB HV.out
      have hst := hrb.str c2
      clear hrb
      go_wp2
      exact bodyPost_ret (v := .tuple #[.string ⟨xs.toArray⟩, .int .i64 ((k : Int) + 1), .bool false]) (by simp [results, Tryz.results88, go_sem]) rfl (TextR.no _ _ HW.out HS.out rfl)
end Go.Proofs.YtnckaeehcldheaaGreatDoor.Ob
end

section
namespace Go.Proofs.YtnckaeehcldheaaGreatDoor.Ob
open Go.RowKit YtnckaeehcldheaaGreatDoorW.PrintWords
set_option linter.unusedVariables false
def F34 (d : Kd S28) : Kd S28 := Kd.iso (Kd.pair (Kd.int .u8) (Kd.pair (Kd.int .i64) (Kd.pair (Kd.int .i64) (Kd.pair Kd.string (Kd.pair (Kd.slice 34 d) (Kd.slice 9 Kd.string)))))) (fun x : S28 => (x.f0, x.f1, x.f2, x.f3, x.f4, x.f5))
theorem mono34 : Kd.Mono F34 := Kd.mono_iso _ (Kd.mono_pair (Kd.mono_const _) (Kd.mono_pair (Kd.mono_const _) (Kd.mono_pair (Kd.mono_const _) (Kd.mono_pair (Kd.mono_const _) (Kd.mono_pair (Kd.mono_slice 34 Kd.mono_id) (Kd.mono_const _))))))
theorem sub34 : Kd.Sub F34 [9, 34] := Kd.sub_iso _ (Kd.sub_pair (Kd.sub_const _ (by decide)) (Kd.sub_pair (Kd.sub_const _ (by decide)) (Kd.sub_pair (Kd.sub_const _ (by decide)) (Kd.sub_pair (Kd.sub_const _ (by decide)) (Kd.sub_pair (Kd.sub_slice 34 (by decide) Kd.sub_id) (Kd.sub_const _ (by decide)))))))
theorem sz34 : ∀ n, (Kd.upto F34 6 [9, 34] n).sz = 6 := Kd.upto_sz (fun _ => rfl)
def k34 : Kd S28 := Kd.fix F34 6 [9, 34] sz34 (Kd.upto_E sub34)
theorem k34_open {w : World} {x : S28} {cs : List Value} (h : k34.K w x cs) : ∃ A4 c4 A5 c5, cs = [.int .u8 x.f0, .int .i64 x.f1, .int .i64 x.f2, .string x.f3, .slice A4 x.f4.length c4, .slice A5 x.f5.length c5] ∧ x.f4.length ≤ c4 ∧ k34.C w A4 x.f4.length x.f4 ∧ x.f5.length ≤ c5 ∧ Kd.string.C w A5 x.f5.length x.f5 := by
  obtain ⟨n, h⟩ := h
  cases n with
  | zero => exact h.elim
  | succ n =>
    obtain ⟨_, _, rfl, rfl, ⟨_, _, rfl, rfl, ⟨_, _, rfl, rfl, ⟨_, _, rfl, rfl, ⟨_, _, rfl, ⟨A4, c4, rfl, l4, g4⟩, ⟨A5, c5, rfl, l5, g5⟩⟩⟩⟩⟩⟩ := h
    exact ⟨A4, c4, A5, c5, rfl, l4, Kd.fix_C g4, l5, g5⟩
theorem k34_openM {w : World} {base : Nat} {ok : Nat → Prop} {x : S28} {cs : List Value} (h : k34.M w base ok x cs) : ∃ v4 v5, cs = [.int .u8 x.f0, .int .i64 x.f1, .int .i64 x.f2, .string x.f3, v4, v5] ∧ k34.R 34 w base ok v4 x.f4 ∧ Kd.string.R 9 w base ok v5 x.f5 := by
  obtain ⟨n, h⟩ := h
  cases n with
  | zero => exact h.elim
  | succ n =>
    obtain ⟨_, _, rfl, rfl, ⟨_, _, rfl, rfl, ⟨_, _, rfl, rfl, ⟨_, _, rfl, rfl, ⟨_, _, rfl, ⟨v4, rfl, g4⟩, ⟨v5, rfl, g5⟩⟩⟩⟩⟩⟩ := h
    exact ⟨v4, v5, rfl, Kd.fix_R g4, g5⟩
theorem k34_mk (w : World) (x : S28) {A4 : Option Addr} {c4 : Nat} (l4 : x.f4.length ≤ c4) (g4 : k34.C w A4 x.f4.length x.f4) {A5 : Option Addr} {c5 : Nat} (l5 : x.f5.length ≤ c5) (g5 : Kd.string.C w A5 x.f5.length x.f5) : k34.K w x [.int .u8 x.f0, .int .i64 x.f1, .int .i64 x.f2, .string x.f3, .slice A4 x.f4.length c4, .slice A5 x.f5.length c5] := by
  obtain ⟨n4, q4⟩ := Kd.fix_C_back mono34 g4
  have r4 := Kd.upto_C_le mono34 sz34 (show n4 ≤ n4 by omega) q4
  exact ⟨n4 + 1, ⟨[.int .u8 x.f0], [.int .i64 x.f1, .int .i64 x.f2, .string x.f3, .slice A4 x.f4.length c4, .slice A5 x.f5.length c5], rfl, rfl, ⟨[.int .i64 x.f1], [.int .i64 x.f2, .string x.f3, .slice A4 x.f4.length c4, .slice A5 x.f5.length c5], rfl, rfl, ⟨[.int .i64 x.f2], [.string x.f3, .slice A4 x.f4.length c4, .slice A5 x.f5.length c5], rfl, rfl, ⟨[.string x.f3], [.slice A4 x.f4.length c4, .slice A5 x.f5.length c5], rfl, rfl, ⟨[.slice A4 x.f4.length c4], [.slice A5 x.f5.length c5], rfl, ⟨A4, c4, rfl, l4, r4⟩, ⟨A5, c5, rfl, l5, g5⟩⟩⟩⟩⟩⟩⟩
theorem k34_mkM (w : World) (base : Nat) (ok : Nat → Prop) (x : S28) {v4 : Value} (g4 : k34.R 34 w base ok v4 x.f4) {v5 : Value} (g5 : Kd.string.R 9 w base ok v5 x.f5) : k34.M w base ok x [.int .u8 x.f0, .int .i64 x.f1, .int .i64 x.f2, .string x.f3, v4, v5] := by
  obtain ⟨n4, q4⟩ := Kd.fix_R_back mono34 g4
  have r4 := Kd.upto_R_le mono34 sz34 (show n4 ≤ n4 by omega) q4
  exact ⟨n4 + 1, ⟨[.int .u8 x.f0], [.int .i64 x.f1, .int .i64 x.f2, .string x.f3, v4, v5], rfl, rfl, ⟨[.int .i64 x.f1], [.int .i64 x.f2, .string x.f3, v4, v5], rfl, rfl, ⟨[.int .i64 x.f2], [.string x.f3, v4, v5], rfl, rfl, ⟨[.string x.f3], [v4, v5], rfl, rfl, ⟨[v4], [v5], rfl, ⟨v4, rfl, r4⟩, ⟨v5, rfl, g5⟩⟩⟩⟩⟩⟩⟩
theorem k34_openF {W : World} {ok : Nat → Prop} {x : S28} {cs : List Value} (h : Kd.FK k34 W ok x cs) : ∃ A4 c4 A5 c5, cs = [.int .u8 x.f0, .int .i64 x.f1, .int .i64 x.f2, .string x.f3, .slice A4 x.f4.length c4, .slice A5 x.f5.length c5] ∧ x.f4.length ≤ c4 ∧ Kd.F k34 W ok A4 x.f4.length x.f4 ∧ x.f5.length ≤ c5 ∧ Kd.F Kd.string W ok A5 x.f5.length x.f5 := by
  obtain ⟨A4, c4, A5, c5, rfl, l4, _, l5, _⟩ := k34_open (Kd.FK_now h)
  exact ⟨A4, c4, A5, c5, rfl, l4, (fun W' hW => by obtain ⟨A4_, c4_, A5_, c5_, he, l4_, g4_, l5_, g5_⟩ := k34_open (h W' hW); injection (Option.some.inj (show some (Value.slice A4 x.f4.length c4) = some (Value.slice A4_ x.f4.length c4_) from congrArg (fun l => l[4]?) he)) with ha_ _ _; rw [ha_]; exact g4_), l5, (fun W' hW => by obtain ⟨A4_, c4_, A5_, c5_, he, l4_, g4_, l5_, g5_⟩ := k34_open (h W' hW); injection (Option.some.inj (show some (Value.slice A5 x.f5.length c5) = some (Value.slice A5_ x.f5.length c5_) from congrArg (fun l => l[5]?) he)) with ha_ _ _; rw [ha_]; exact g5_)⟩
theorem k34_mkF (W : World) (ok : Nat → Prop) (x : S28) {A4 : Option Addr} {c4 : Nat} (l4 : x.f4.length ≤ c4) (g4 : Kd.F k34 W ok A4 x.f4.length x.f4) {A5 : Option Addr} {c5 : Nat} (l5 : x.f5.length ≤ c5) (g5 : Kd.F Kd.string W ok A5 x.f5.length x.f5) : Kd.FK k34 W ok x [.int .u8 x.f0, .int .i64 x.f1, .int .i64 x.f2, .string x.f3, .slice A4 x.f4.length c4, .slice A5 x.f5.length c5] := fun W2 hW => k34_mk W2 x l4 (g4 W2 hW) l5 (g5 W2 hW)
def rd_T34 (xs : List S28) (i : Int) : S28 := xs.getD i.toNat z28
theorem at_T34 {w : World} {A : Option Addr} {n : Nat} {xs : List S28} (h : Kd.C k34 w A n xs) (i : Int) (h0 : 0 ≤ i) (h1 : i < n) : ∃ ad A4 c4 A5 c5, A = some ad ∧ w.cell? (ad.add (i.toNat * 6)) = some (.int .u8 (rd_T34 xs i).f0) ∧ w.cell? ⟨(ad.add (i.toNat * 6)).block, (ad.add (i.toNat * 6)).off + 1, none⟩ = some (.int .i64 (rd_T34 xs i).f1) ∧ w.cell? ⟨(ad.add (i.toNat * 6)).block, (ad.add (i.toNat * 6)).off + 2, none⟩ = some (.int .i64 (rd_T34 xs i).f2) ∧ w.cell? ⟨(ad.add (i.toNat * 6)).block, (ad.add (i.toNat * 6)).off + 3, none⟩ = some (.string (rd_T34 xs i).f3) ∧ w.cell? ⟨(ad.add (i.toNat * 6)).block, (ad.add (i.toNat * 6)).off + 4, none⟩ = some (.slice A4 (rd_T34 xs i).f4.length c4) ∧ w.cell? ⟨(ad.add (i.toNat * 6)).block, (ad.add (i.toNat * 6)).off + 5, none⟩ = some (.slice A5 (rd_T34 xs i).f5.length c5) ∧ (rd_T34 xs i).f4.length ≤ c4 ∧ k34.C w A4 (rd_T34 xs i).f4.length (rd_T34 xs i).f4 ∧ (rd_T34 xs i).f5.length ≤ c5 ∧ Kd.string.C w A5 (rd_T34 xs i).f5.length (rd_T34 xs i).f5 := by
  obtain ⟨ad, c, e, _, hK, hc0⟩ := Kd.C_get h z28 i h0 h1
  have hc : ∀ j u, c[j]? = some u → w.cell? (ad.add (i.toNat * 6 + j)) = some u := hc0
  obtain ⟨A4, c4, A5, c5, rfl, l4, g4, l5, g5⟩ := k34_open hK
  exact ⟨ad, A4, c4, A5, c5, e, hc 0 _ rfl, by rw [← add_field _ _ 1 (by omega)]; exact hc 1 _ rfl, by rw [← add_field _ _ 2 (by omega)]; exact hc 2 _ rfl, by rw [← add_field _ _ 3 (by omega)]; exact hc 3 _ rfl, by rw [← add_field _ _ 4 (by omega)]; exact hc 4 _ rfl, by rw [← add_field _ _ 5 (by omega)]; exact hc 5 _ rfl, l4, g4, l5, g5⟩
end Go.Proofs.YtnckaeehcldheaaGreatDoor.Ob
end

section
namespace Go.Proofs.YtnckaeehcldheaaGreatDoorW.PrintWords
open Go.RowKit
namespace Kd
section
variable {α : Type} {d : Kd α} {e base n cap g : Nat} {ok ok' okp : Nat → Prop} {w w1 W : World} {v v1 : Value} {xs ys : List α}
theorem N_appended {rows news : List (List Value)} (h0 : ∀ k, v.ownBlock = some k → ok k) (hl : rows.length = xs.length) (hf : ∀ (j : Nat) (x : α) (c : List Value), xs[j]? = some x → rows[j]? = some c → FK d W (fun k => ok k ∧ some k ≠ v.ownBlock) x c)
    (hl2 : news.length = ys.length) (hf2 : ∀ (j : Nat) (x : α) (c : List Value), ys[j]? = some x → news[j]? = some c → FK d W okp x c) (hokp : ∀ k, okp k → ok k ∧ some k ≠ v.ownBlock) (hfresh : ∀ k, W.heap.size ≤ k → ok k)
    (hR : (raw d.sz).R e w1 base (fun _ => True) v1 (rows ++ news)) (hg : W.grownBy w1 v.ownBlock) (hat : v1.ownBlock = v.ownBlock ∨ ∃ b, v1.ownBlock = some b ∧ W.heap.size ≤ b) : N d e w1 base ok v1 (xs ++ ys) := by
  have hne : ∀ k, some k ≠ v.ownBlock → k < W.heap.size → some k ≠ v1.ownBlock := by
    intro k hk hlt
    rcases hat with hat | ⟨b, hb, hle⟩
    · rw [hat]; exact hk
    · rw [hb]
      intro he
      injection he with he
      omega
  have step : ∀ {x : α} {c : List Value} {o : Nat → Prop}, FK d W o x c → (∀ k, o k → ok k ∧ some k ≠ v.ownBlock) → FK d w1 (fun k => ok k ∧ some k ≠ v1.ownBlock) x c := by
    intro x c o hq ho
    exact FK_mono (FK_step (FK_bound hq) (fun k hk hlt => hg.block k hlt (ho k hk.1).2)) (fun k hk => ⟨(ho k hk.1).1, hne k (ho k hk.1).2 hk.2⟩)
  refine ⟨fun k hk => ?_, rows ++ news, by rw [List.length_append, List.length_append, hl, hl2], raw_tight hR, fun j x c hx hc => ?_⟩
  · rcases hat with hat | ⟨b, hb, hle⟩
    · exact h0 k (hat ▸ hk)
    · rw [hb] at hk
      injection hk with hk
      exact hfresh k (by omega)
  · rcases Nat.lt_or_ge j xs.length with hlt | hge
    · rw [List.getElem?_append_left hlt] at hx
      rw [List.getElem?_append_left (by omega)] at hc
      exact step (hf j x c hx hc) (fun _ hk => hk)
    · rw [List.getElem?_append_right hge] at hx
      rw [List.getElem?_append_right (by omega), hl] at hc
      exact step (hf2 _ x c hx hc) hokp
theorem FK_raw {x : α} {c : List Value} (h : FK d W ok x c) : c = c ∧ c.length = d.sz ∧ ∀ u ∈ c, u.oneCell' = true := ⟨rfl, d.K_len (FK_now h), d.K_one (FK_now h)⟩
end
section
variable {P : Program} {ops : Array Oper} {rest : List Oper} {o : Oper} {a : Act} {Q : Exit → Act → World → Prop} {Kc : Act → World → Prop} {α : Type}
theorem N_append_step (d : Kd α) {w0 W : World} (base : Nat) (hw : Region.wanted o (yielded ops a.tmps) = true) (s x : Operand) (t e : TypeId) (z : Value) (bytes : Nat)
    (ho : o.op = .call { callee := .builtin .append, args := #[s, x], argTypes := #[t, t] })
    (ht : P.underlying t = some (.slice e)) (hinfo : (P.info? e).map (fun i => (i.zero, i.size, i.bytes)) = some (some z, d.sz, bytes)) (hz : z.cells.size = d.sz) (hs0 : 0 < d.sz) (hb0 : 0 < bytes)
    (v : Value) (xs : List α) (p : α) (cs : List Value) (ok okp : Nat → Prop) (hs : a.eval s = v) (hx : a.eval x = .slice (some ⟨W.heap.size, 0, none⟩) 1 1) (hp : FK d W okp p cs) (hokp : ∀ k, okp k → ok k ∧ some k ≠ v.ownBlock) (hfresh : ∀ k, W.heap.size ≤ k → ok k)
    (HO : N d e W base ok v xs) (HB : Below base w0 W) (hbase : base ≤ W.heap.size) (hl : (xs.length + 1) * bytes ≤ 140737488355328)
    (h : ∀ v1 w1, N d e w1 base ok v1 (xs ++ [p]) → Below base w0 w1 → W.grownBy w1 v.ownBlock → (v1.ownBlock = v.ownBlock ∨ ∃ b, v1.ownBlock = some b ∧ W.heap.size ≤ b) → Kc (a.put o.dst v1) w1) :
    if Region.wanted o (yielded ops a.tmps) = true then Oper.wp P o a (W.alloc (.cells cs.toArray e)) Kc Q else Kc (a.put o.dst undef) (W.alloc (.cells cs.toArray e)) := by
  obtain ⟨h0, rows, hlr, hR, hf⟩ := HO
  refine R_append_step (raw d.sz) base hw s x t e z bytes ho ht hinfo hz hs0 hb0 v rows cs cs (fun _ => True) (fun _ => False) hs hx (FK_raw hp) (fun _ hk => hk.elim) (fun _ _ => trivial) (raw_any hR) HB hbase (by rw [hlr]; exact hl) ?_
  intro v1 w1 hr hb hg hat
  exact h v1 w1 (N_appended h0 hlr hf (ys := [p]) (news := [cs]) rfl (fun j y c hy hc => by
    rcases j with _ | j
    · simp only [List.getElem?_cons_zero, Option.some.injEq] at hy hc
      rw [← hy, ← hc]; exact hp
    · simp at hy) hokp hfresh hr hg hat) hb hg hat
end
end Kd
end Go.Proofs.YtnckaeehcldheaaGreatDoorW.PrintWords
end

section
namespace Go.Proofs.YtnckaeehcldheaaGreatDoorW.PrintMore
open Go.RowKit Go.Proofs.YtnckaeehcldheaaGreatDoorW.PrintWords
namespace Kd
open Go.Proofs.YtnckaeehcldheaaGreatDoorW.PrintWords.Kd
end Kd
namespace Kd
open Go.Proofs.YtnckaeehcldheaaGreatDoorW.PrintWords.Kd
section
variable {α : Type} {d : Kd α} {e base g N : Nat} {ok : Nat → Prop} {W w1 : World} {u v : Value} {xs : List α}
end
end Kd
theorem max2_int (k k' : IntKind) (x y : Int) : Builtin.max2 (.int k x) (.int k' y) = pure (.int k (if x < y then y else x)) := by simp only [Builtin.max2, gt_iff_lt]
theorem min2_int (k k' : IntKind) (x y : Int) : Builtin.min2 (.int k x) (.int k' y) = pure (.int k (if y < x then y else x)) := by simp only [Builtin.min2]
theorem max_two (ats : Array TypeId) (ty : TypeId) (a b : Value) : Builtin.max_ ats ty #[a, b] = (Builtin.max2 a b >>= fun s => pure s) := by simp only [Builtin.max_, List.foldlM_cons, List.foldlM_nil]
theorem min_two (ats : Array TypeId) (ty : TypeId) (a b : Value) : Builtin.min_ ats ty #[a, b] = (Builtin.min2 a b >>= fun s => pure s) := by simp only [Builtin.min_, List.foldlM_cons, List.foldlM_nil]
theorem max_three (ats : Array TypeId) (ty : TypeId) (a b c : Value) : Builtin.max_ ats ty #[a, b, c] = (Builtin.max2 a b >>= fun s => Builtin.max2 s c >>= fun s => pure s) := by simp only [Builtin.max_, List.foldlM_cons, List.foldlM_nil]
theorem min_three (ats : Array TypeId) (ty : TypeId) (a b c : Value) : Builtin.min_ ats ty #[a, b, c] = (Builtin.min2 a b >>= fun s => Builtin.min2 s c >>= fun s => pure s) := by simp only [Builtin.min_, List.foldlM_cons, List.foldlM_nil]
theorem max_four (ats : Array TypeId) (ty : TypeId) (a b c d : Value) : Builtin.max_ ats ty #[a, b, c, d] = (Builtin.max2 a b >>= fun s => Builtin.max2 s c >>= fun s => Builtin.max2 s d >>= fun s => pure s) := by simp only [Builtin.max_, List.foldlM_cons, List.foldlM_nil]
theorem min_four (ats : Array TypeId) (ty : TypeId) (a b c d : Value) : Builtin.min_ ats ty #[a, b, c, d] = (Builtin.min2 a b >>= fun s => Builtin.min2 s c >>= fun s => Builtin.min2 s d >>= fun s => pure s) := by simp only [Builtin.min_, List.foldlM_cons, List.foldlM_nil]
end Go.Proofs.YtnckaeehcldheaaGreatDoorW.PrintMore
namespace Go.Proofs.YtnckaeehcldheaaGreatDoorW.PrintWords
open Go.RowKit
section
variable {P : Program} {ops : Array Oper} {rest : List Oper} {o : Oper} {a : Act} {Q : Exit → Act → World → Prop} {W : World}
theorem gate_callee {f : FuncId} {as_ : Array Operand} {ts : Array TypeId} (_ho : o.op = .call { callee := .value (.func f), args := as_, argTypes := ts }) (h : wpList P ops Q (o :: rest) a W) : wpList P ops Q (o :: rest) a W := h
theorem gate_builtin {b : Builtin} {xs : Array Operand} {ts : Array TypeId} (_ho : o.op = .call { callee := .builtin b, args := xs, argTypes := ts }) (h : wpList P ops Q (o :: rest) a W) : wpList P ops Q (o :: rest) a W := h
end
def mx (a b : Int) : Int := if a < b then b else a
namespace Kd
section
variable {α : Type} {d : Kd α} {e base : Nat} {ok : Nat → Prop} {W w1 : World} {v : Value} {xs : List α}
end
section
variable {α : Type} {d : Kd α} {e base g n cap : Nat} {ok oki okp : Nat → Prop} {W : World} {xs : List α} {i : Int} {c : List Value}
end
section
variable {α : Type} {d : Kd α} {e base b b' g N : Nat} {ok ok1 : Nat → Prop} {W W2 w1 : World} {u v : Value} {xs ys : List α} {S : Nat → Prop}
end
end Kd
end Go.Proofs.YtnckaeehcldheaaGreatDoorW.PrintWords
namespace Go.Proofs.YtnckaeehcldheaaGreatDoorW.PrintWords
open Go.RowKit
namespace Kd
def V {α : Type} (d : Kd α) (_e : Nat) (W : World) (_base : Nat) (ok : Nat → Prop) (v : Value) (xs : List α) : Prop := ∃ A c, v = .slice A xs.length c ∧ xs.length ≤ c ∧ F d W ok A xs.length xs
section
variable {α β : Type} {d : Kd α} {e base base' n m c g N' lo hi : Nat} {ok ok' S : Nat → Prop} {w W w1 : World} {A : Option Addr} {ad : Addr} {u v v1 : Value} {xs : List α}
theorem V_nil (d : Kd α) (e : Nat) (W : World) (base : Nat) (ok : Nat → Prop) : V d e W base ok (.slice none 0 0) [] := ⟨none, 0, rfl, Nat.le_refl _, F_nil d W ok⟩
end
end Kd
end Go.Proofs.YtnckaeehcldheaaGreatDoorW.PrintWords
end

section
set_option linter.unusedVariables false
set_option linter.unusedSimpArgs false
namespace Go.Proofs.YtnckaeehcldheaaGreatDoor.Ob
open Go.RowKit Go.Shelf YtnckaeehcldheaaGreatDoorW.PrintWords
attribute [local go_sem ↓] Go.wp_at_zero Go.wp_at_succ
theorem heapF (d : Kd S28) (hd : Kd.Heap d) : Kd.Heap (F28 d) := Kd.heap_iso _ (Kd.heap_pair (Kd.heap_int _) (Kd.heap_pair (Kd.heap_int _) (Kd.heap_pair (Kd.heap_int _) (Kd.heap_pair Kd.heap_string (Kd.heap_pair (Kd.heap_slice 28 hd) (Kd.heap_slice 9 Kd.heap_string))))))
theorem heap28 : Kd.Heap k28 := Kd.heap_fix heapF
theorem FK_of_K {w : World} {x : S28} {cs : List Value} (h : k28.K w x cs) : Kd.FK k28 w (fun _ => True) x cs := fun W' hW => heap28.K (fun k hk => hW k trivial hk) h
def okO (w : World) (okA : Nat → Prop) (k : Nat) : Prop := (okA k ∨ w.heap.size ≤ k) ∧ k ≠ w.heap.size ∧ k ≠ w.heap.size + 1 ∧ k ≠ w.heap.size + 2
structure OL (x : S28) (A4 : Option Addr) (c4 : Nat) (A5 : Option Addr) (c5 : Nat) (okA : Nat → Prop) (w wr : World) (ys : List S28) (lv : Value) : Prop where
  bl : Below w.heap.size w wr
  box : wr.heap[w.heap.size]? = some (.cells #[.int .u8 x.f0, .int .i64 x.f1, .int .i64 x.f2, .string x.f3, .slice A4 x.f4.length c4, .slice A5 x.f5.length c5] 28 (0, 0))
  res : wr.heap[w.heap.size + 1]? = some (.cells #[.int .u8 0, .int .i64 0, .int .i64 0, .string ⟨#[]⟩, .slice none 0 0, .slice none 0 0] 34 (0, 0))
  cur : wr.heap[w.heap.size + 2]? = some (.cells #[.int .u8 x.f0, .int .i64 x.f1, .int .i64 x.f2, .string x.f3, lv, .slice A5 x.f5.length c5] 34 (0, 0))
  rl : Kd.N k34 34 wr w.heap.size (okO w okA) lv ys
theorem OL.lt {x A4 c4 A5 c5 okA w wr ys lv} (h : OL x A4 c4 A5 c5 okA w wr ys lv) : w.heap.size + 2 < wr.heap.size := blk_lt h.cur
theorem OL.step {x A4 c4 A5 c5 okA w wr w1 ys lv} (h : OL x A4 c4 A5 c5 okA w wr ys lv) (hb : Below wr.heap.size wr w1) : OL x A4 c4 A5 c5 okA w w1 ys lv :=
  ⟨h.bl.trans (hb.mono h.bl.size), blk_below hb h.box, blk_below hb h.res, blk_below hb h.cur, Kd.N_below h.rl hb⟩
theorem OL.start (x : S28) (A4 : Option Addr) (c4 : Nat) (A5 : Option Addr) (c5 : Nat) (okA : Nat → Prop) (w : World) :
    OL x A4 c4 A5 c5 okA w (((w.alloc (.cells #[.int .u8 x.f0, .int .i64 x.f1, .int .i64 x.f2, .string x.f3, .slice A4 x.f4.length c4, .slice A5 x.f5.length c5] 28)).alloc (.cells #[.int .u8 0, .int .i64 0, .int .i64 0, .string ⟨#[]⟩, .slice none 0 0, .slice none 0 0] 34)).alloc (.cells #[.int .u8 x.f0, .int .i64 x.f1, .int .i64 x.f2, .string x.f3, .slice none 0 0, .slice A5 x.f5.length c5] 34)) [] (.slice none 0 0) := by
  refine ⟨((((Below.refl _ _).alloc (Nat.le_refl _) _).alloc (by rw [World.size_alloc]; omega) _).alloc (by rw [World.size_alloc, World.size_alloc]; omega) _), blk_alloc (blk_alloc (blk_new _ _) _) _, blk_alloc ?_ _, ?_, Kd.N_nil _ _ _ _ _⟩
  · have := blk_new (w.alloc (.cells #[.int .u8 x.f0, .int .i64 x.f1, .int .i64 x.f2, .string x.f3, .slice A4 x.f4.length c4, .slice A5 x.f5.length c5] 28)) (.cells #[.int .u8 0, .int .i64 0, .int .i64 0, .string ⟨#[]⟩, .slice none 0 0, .slice none 0 0] 34)
    rwa [World.size_alloc] at this
  · have := blk_new ((w.alloc (.cells #[.int .u8 x.f0, .int .i64 x.f1, .int .i64 x.f2, .string x.f3, .slice A4 x.f4.length c4, .slice A5 x.f5.length c5] 28)).alloc (.cells #[.int .u8 0, .int .i64 0, .int .i64 0, .string ⟨#[]⟩, .slice none 0 0, .slice none 0 0] 34)) (.cells #[.int .u8 x.f0, .int .i64 x.f1, .int .i64 x.f2, .string x.f3, .slice none 0 0, .slice A5 x.f5.length c5] 34)
    rwa [World.size_alloc, World.size_alloc] at this
theorem OL.away {x A4 c4 A5 c5 okA w wr ys lv} (h : OL x A4 c4 A5 c5 okA w wr ys lv) : ∀ j, j = w.heap.size ∨ j = w.heap.size + 1 ∨ j = w.heap.size + 2 → some j ≠ lv.ownBlock := by
  intro j hj he
  have := h.rl.1 j he.symm
  unfold okO at this
  omega
theorem OL.pushed {x A4 c4 A5 c5 okA w W w1 ys lv} {v1 : Value} {zs : List S28} (h : OL x A4 c4 A5 c5 okA w W ys lv) (hg : W.grownBy w1 lv.ownBlock) (hR : Kd.N k34 34 w1 w.heap.size (okO w okA) v1 zs) (hB : Below w.heap.size w w1) :
    OL x A4 c4 A5 c5 okA w (w1.setCell ⟨w.heap.size + 2, 4, none⟩ v1) zs v1 where
  bl := hB.setCell (p := ⟨w.heap.size + 2, 4, none⟩) (by simp) v1
  box := blk_far (blk_grown h.box hg (h.away _ (.inl rfl))) (by show w.heap.size ≠ w.heap.size + 2; omega) v1
  res := blk_far (blk_grown h.res hg (h.away _ (.inr (.inl rfl)))) (by show w.heap.size + 1 ≠ w.heap.size + 2; omega) v1
  cur := blk_put (blk_grown h.cur hg (h.away _ (.inr (.inr rfl)))) 4 v1 (by simp)
  rl := Kd.N_far hR (p := ⟨w.heap.size + 2, 4, none⟩) (fun k hk => hk.2.2.2) v1
def okP (okA : Nat → Prop) (w1 w2 : World) (k : Nat) : Prop := okA k ∨ (w1.heap.size ≤ k ∧ k < w2.heap.size)
theorem OL.okp {x A4 c4 A5 c5 okA w wr ys lv} {w1 w2 : World} (h : OL x A4 c4 A5 c5 okA w wr ys lv) (hA : ∀ k, okA k → k < w.heap.size) (h1 : wr.heap.size ≤ w1.heap.size) : ∀ k, okP okA w1 w2 k → okO w okA k ∧ some k ≠ lv.ownBlock := by
  intro k hk
  have hlt := h.lt
  rcases hk with hk | hk
  · have := hA k hk
    refine ⟨⟨.inl hk, by omega, by omega, by omega⟩, fun he => ?_⟩
    have := Kd.N_base h.rl k he.symm
    omega
  · refine ⟨⟨.inr (by omega), by omega, by omega, by omega⟩, fun he => ?_⟩
    have := Kd.N_lt h.rl k he.symm
    omega
theorem OL.fresh {x A4 c4 A5 c5 okA w wr ys lv} (h : OL x A4 c4 A5 c5 okA w wr ys lv) : ∀ k, wr.heap.size ≤ k → okO w okA k := by
  intro k hk
  have := h.lt
  exact ⟨.inr (by omega), by omega, by omega, by omega⟩
def OwnPost (x : S28) (A5 : Option Addr) (c5 : Nat) (okA : Nat → Prop) (w : World) (e : Ending) (w' : World) : Prop :=
  ∃ v4, e = .returned (.agg #[.int .u8 x.f0, .int .i64 x.f1, .int .i64 x.f2, .string x.f3, v4, .slice A5 x.f5.length c5]) ∧ Below w.heap.size w w' ∧ Kd.N k34 34 w' w.heap.size (fun k => okA k ∨ w.heap.size ≤ k) v4 x.f4
theorem N_alloc_info34 : (Tryz.prog.info? 34).map (fun i => (i.zero, i.size, i.bytes)) = some (some (.agg #[.int .u8 0, .int .i64 0, .int .i64 0, .string ⟨#[]⟩, .slice none 0 0, .slice none 0 0]), 6, 88) := by kernel_rfl
theorem own_below {wr w2 : World} {o : Obj} (hb : Below (wr.alloc o).drew.heap.size (wr.alloc o).drew w2) : Below wr.heap.size wr w2 :=
  (((Below.refl wr.heap.size wr).alloc (Nat.le_refl _) o).drew).trans (hb.mono (by show wr.heap.size ≤ (wr.alloc o).heap.size; rw [World.size_alloc]; omega))
theorem own_elem {okA : Nat → Prop} {wr w2 : World} {o : Obj} {y : S28} {B6 B5 : Option Addr} {d6 d5 : Nat} (hN : Kd.N k34 34 w2 (wr.alloc o).drew.heap.size (fun k => okA k ∨ (wr.alloc o).drew.heap.size ≤ k) (.slice B6 y.f4.length d6) y.f4) (hb : Below (wr.alloc o).drew.heap.size (wr.alloc o).drew w2) (hw : Below wr.heap.size wr w2) (m5 : y.f5.length ≤ d5) (g5 : Kd.F Kd.string wr okA B5 y.f5.length y.f5) :
    Kd.FK k34 w2 (okP okA wr w2) y [.int .u8 y.f0, .int .i64 y.f1, .int .i64 y.f2, .string y.f3, .slice B6 y.f4.length d6, .slice B5 y.f5.length d5] :=
  k34_mkF w2 _ y (Kd.N_reads' hN).2.1 (Kd.F_mono (Kd.N_F (Kd.N_bound hN)) (fun k hk => by
    rcases hk.1 with h | h
    · exact .inl h
    · exact .inr ⟨Nat.le_trans (by simp) h, hk.2⟩)) m5 (Kd.F_mono (Kd.F_below g5 hw) (fun k hk => .inl hk))
theorem own_len {l : List S28} {k : Nat} (y : S28) (h : l.length = k) : (l ++ [y]).length = k + 1 := by rw [List.length_append, h]; rfl
theorem drew_blk' {W : World} {B : Nat} {o : Obj} (h : W.heap[B]? = some o) : W.drew.heap[B]? = some o := h
set_option maxRecDepth 100000 in
set_option maxHeartbeats 16000000 in
theorem own_step (x : S28) (hz : Sz x) (ih : ∀ y ∈ x.f4, ∀ (cs : List Value) (A5 : Option Addr) (c5 : Nat) (okA : Nat → Prop) (w : World), (∃ A4 c4, cs = [.int .u8 y.f0, .int .i64 y.f1, .int .i64 y.f2, .string y.f3, .slice A4 y.f4.length c4, .slice A5 y.f5.length c5]) → Kd.FK k28 w okA y cs → (∀ k, okA k → k < w.heap.size) → Calls Tryz.prog 20 #[.agg cs.toArray] w (OwnPost y A5 c5 okA w))
    (A4 : Option Addr) (c4 : Nat) (A5 : Option Addr) (c5 : Nat) (okA : Nat → Prop) (w : World) (hx : Kd.FK k28 w okA x [.int .u8 x.f0, .int .i64 x.f1, .int .i64 x.f2, .string x.f3, .slice A4 x.f4.length c4, .slice A5 x.f5.length c5]) (hA : ∀ k, okA k → k < w.heap.size) :
    Calls Tryz.prog 20 #[.agg #[.int .u8 x.f0, .int .i64 x.f1, .int .i64 x.f2, .string x.f3, .slice A4 x.f4.length c4, .slice A5 x.f5.length c5]] w (OwnPost x A5 c5 okA w) := by
  have hzz := hz
  cases hzz with
  | mk z0 z3 z5 zl4 zl5 z4 =>
  obtain ⟨A4', c4', A5', c5', he, l4, g4, l5, g5⟩ := k28_openF hx
  injection he with _ he; injection he with _ he; injection he with _ he; injection he with _ he
  injection he with e4 he; injection he with e5 _
  injection e4 with e4a _ e4c; injection e5 with e5a _ e5c
  subst e4a e4c e5a e5c
  have S0 := Aside0.mk (OL.start x A4 c4 A5 c5 okA w)
  have H4 := Aside0.mk g4
  have IH := Aside0.mk ih
  have HA := Aside0.mk hA
  clear hx g4 g5 ih hA hz z5 z4
  go_enter Tryz.func20, Tryz.ntmps20
  go_wp2_with fail
  go_loopw [20] (fun a wr => ∃ k : Nat, a = .int .i64 k ∧ k ≤ x.f4.length ∧ Aside0 (∃ lv, OL x A4 c4 A5 c5 okA w wr (x.f4.take k) lv)) (fun a _ => x.f4.length - (intOf a).toNat)
  case atStart => exact ⟨0, rfl, Nat.zero_le _, ⟨_, S0.out⟩⟩
  case round =>
    obtain ⟨k, rfl, hk, HS⟩ := hrel
    obtain ⟨lv, hS⟩ := HS.out
    clear HS S0
    have S0 := Aside0.mk hS
    clear hS
    obtain ⟨Al, cl, hlv⟩ := Kd.N_slice S0.out.rl
    have hll : (x.f4.take k).length = k := by rw [List.length_take]; omega
    rw [hll] at hlv
    subst hlv
    have HLL := Aside0.mk hll
    clear hll
    by_cases hlt : k < x.f4.length
    · obtain ⟨ad, cc, e, hcl, hFK, hcc0, -⟩ := Kd.F_get (Kd.F_below H4.out S0.out.bl) z28 (k : Int) (by omega) (by omega)
      subst e
      have hcc : ∀ j u, cc[j]? = some u → wr.cell? (ad.add ((k : Int).toNat * 6 + j)) = some u := hcc0
      clear hcc0 hcl
      have hyk0 : x.f4[k]? = some (x.f4.getD (k : Int).toNat z28) := by
        rw [Int.toNat_natCast, List.getD_eq_getElem?_getD, List.getElem?_eq_getElem hlt]; rfl
      obtain ⟨y, hy⟩ : ∃ y, x.f4.getD (k : Int).toNat z28 = y := ⟨_, rfl⟩
      rw [hy] at hFK hyk0
      clear hy
      have hyk := Aside0.mk hyk0
      clear hyk0
      obtain ⟨B4, d4, B5, d5, rfl, m4, G4, m5, G5⟩ := k28_openF hFK
      have y0 := hcc 0 _ rfl
      have y1 := hcc 1 _ rfl
      have y2 := hcc 2 _ rfl
      have y3 := hcc 3 _ rfl
      have y4 := hcc 4 _ rfl
      have y5 := hcc 5 _ rfl
      rw [add_field _ _ 1 (by omega)] at y1
      rw [add_field _ _ 2 (by omega)] at y2
      rw [add_field _ _ 3 (by omega)] at y3
      rw [add_field _ _ 4 (by omega)] at y4
      rw [add_field _ _ 5 (by omega)] at y5
      simp only [Int.toNat_natCast, Nat.add_zero] at y0 y1 y2 y3 y4 y5
      clear hcc
      have HF := Aside0.mk hFK
      have HG5 := Aside0.mk G5
      clear hFK G4 G5
      have HI := Aside0.mk (fun W (hW : Below wr.heap.size wr W) => IH.out y (List.mem_of_getElem? hyk.out) [.int .u8 y.f0, .int .i64 y.f1, .int .i64 y.f2, .string y.f3, .slice B4 y.f4.length d4, .slice B5 y.f5.length d5] B5 d5 okA W ⟨B4, d4, rfl⟩ (Kd.FK_below HF.out hW) (fun j hj => Nat.lt_of_lt_of_le (HA.out j hj) (Nat.le_trans S0.out.bl.size hW.size)))
      obtain ⟨⟨u0, u1, u2, u3, u4, u5⟩, t0, t1, t2, t3, t4, t5⟩ := six_c (blk_alloc S0.out.cur (.cells #[.int .u8 y.f0, .int .i64 y.f1, .int .i64 y.f2, .string y.f3, .slice B4 y.f4.length d4, .slice B5 y.f5.length d5] 28))
      obtain ⟨⟨v0, v1, v2, v3, v4, v5⟩, -⟩ := six_c (blk_new wr (.cells #[.int .u8 y.f0, .int .i64 y.f1, .int .i64 y.f2, .string y.f3, .slice B4 y.f4.length d4, .slice B5 y.f5.length d5] 28))
      have hl88 := Aside0.mk (show ((x.f4.take k).length + 1) * 88 ≤ 140737488355328 by rw [HLL.out]; omega)
      have HYN := Aside0.mk (show some wr.heap.size ≠ (Value.slice Al k cl).ownBlock from fun he => Nat.lt_irrefl _ (Kd.N_lt S0.out.rl _ he.symm))
      go_wp2_with fail
      go_region_law
        ((first
          | (go_simp; go_at_call 20; refine (HI.out _ (((Below.refl _ _).alloc (Nat.le_refl _) _).drew)).mono ?_; rintro e w2 ⟨vv, rfl, hb2, hN⟩; obtain ⟨B6, d6, hvv⟩ := Kd.N_slice hN; subst hvv; have S2w := Aside0.mk (own_below hb2); have S2 := Aside0.mk (S0.out.step S2w.out); have HN2 := Aside0.mk hN; have HB2 := Aside0.mk hb2; have Y2 := Aside0.mk (blk_below hb2 (drew_blk' (blk_new wr (.cells #[.int .u8 y.f0, .int .i64 y.f1, .int .i64 y.f2, .string y.f3, .slice B4 y.f4.length d4, .slice B5 y.f5.length d5] 28)))); clear hN hb2; have HP2 := Aside0.mk (own_elem (okA := okA) (wr := wr) (w2 := w2) (o := .cells #[.int .u8 y.f0, .int .i64 y.f1, .int .i64 y.f2, .string y.f3, .slice B4 y.f4.length d4, .slice B5 y.f5.length d5] 28) (y := y) (B6 := B6) (B5 := B5) (d6 := d6) (d5 := d5) HN2.out HB2.out S2w.out m5 HG5.out); obtain ⟨⟨p0, p1, p2, p3, p4, p5⟩, -⟩ := six_c S2.out.cur; have LV2 : ∀ o, (w2.alloc o).cell? ⟨w.heap.size + 2, 4, none⟩ = some (.slice Al k cl) := (fun o => (World.cell?_alloc_some w2 ⟨w.heap.size + 2, 4, none⟩ o (by rw [p4]; rfl)).trans p4); have NE2 : w2.heap.size ≠ w.heap.size + 1 + 1 := (by have := S2.out.lt; omega); obtain ⟨⟨q0, q1, q2, q3, q4, q5⟩, -⟩ := six_c Y2.out)
          | (refine Kd.N_append_step k34 (w0 := w) w.heap.size (by rfl) (.tmp 25) (.tmp 28) 32 34 (.agg #[.int .u8 0, .int .i64 0, .int .i64 0, .string ⟨#[]⟩, .slice none 0 0, .slice none 0 0]) 88 (by rfl) Tryz.underlying32 N_alloc_info34 rfl (by decide) (by decide) (.slice Al k cl) (x.f4.take k) y [.int .u8 y.f0, .int .i64 y.f1, .int .i64 y.f2, .string y.f3, .slice B6 y.f4.length d6, .slice B5 y.f5.length d5] (okO w okA) (okP okA wr w2) (by rfl) (by rfl) HP2.out (S0.out.okp HA.out (Nat.le_refl _)) S2.out.fresh S2.out.rl S2.out.bl S2.out.bl.size hl88.out ?_; intro v1 w3 hR3 hB3 hG3 hat3; obtain ⟨A1, c1, hv1⟩ := Kd.N_slice hR3; subst hv1; have HC3 := Aside0.mk (blk_grown S2.out.cur hG3 (S2.out.away _ (.inr (.inr rfl)))); have HY3 := Aside0.mk (blk_grown Y2.out hG3 HYN.out); have HR3 := Aside0.mk hR3; have HB3 := Aside0.mk hB3; have HG3 := Aside0.mk hG3; clear hR3 hB3 hG3 hat3; obtain ⟨⟨r0, r1, r2, r3, r4, r5⟩, n0, n1, n2, n3, n4, n5⟩ := six_c HC3.out; obtain ⟨⟨s0, s1, s2, s3, s4, s5⟩, -⟩ := six_c HY3.out)
          | fail))

      all_goals (go_wp2; go_roundw; (case rel => exact ⟨k + 1, by go_num, by omega, ⟨_, by rw [List.take_add_one, hyk.out]; have HZ := S2.out.pushed HG3.out HR3.out HB3.out; rw [own_len y HLL.out] at HZ; exact HZ⟩⟩); (case measure => simp [intOf]; omega))
    · obtain ⟨⟨u0, u1, u2, u3, u4, u5⟩, t0, t1, t2, t3, t4, t5⟩ := six_c S0.out.cur
      obtain ⟨⟨z0, z1, z2, z3, z4, z5⟩, y0, y1, y2, y3, y4, y5⟩ := six_c S0.out.res
      go_wp2
      refine ret_put6 (v := .agg #[.int .u8 x.f0, .int .i64 x.f1, .int .i64 x.f2, .string x.f3, .slice Al k cl, .slice A5 x.f5.length c5]) S0.out.res (fun W2 z0 z1 z2 z3 z4 z5 => by simp [results, Tryz.results20, go_sem, zeroV, z0, z1, z2, z3, z4, z5]) rfl ?_
      refine ⟨_, rfl, put6_below S0.out.bl (Nat.le_succ _) _ _ _ _ _ _, ?_⟩
      have := S0.out.rl
      rw [List.take_of_length_le (by omega)] at this
      exact Kd.N_mono (Kd.N_step this (fun j hj _ => put6_ne hj.2.2.1 _ _ _ _ _ _)) (fun j hj => hj.1)
theorem own_ok {x : S28} (hz : Sz x) : ∀ (cs : List Value) (A5 : Option Addr) (c5 : Nat) (okA : Nat → Prop) (w : World), (∃ A4 c4, cs = [.int .u8 x.f0, .int .i64 x.f1, .int .i64 x.f2, .string x.f3, .slice A4 x.f4.length c4, .slice A5 x.f5.length c5]) → Kd.FK k28 w okA x cs → (∀ k, okA k → k < w.heap.size) → Calls Tryz.prog 20 #[.agg cs.toArray] w (OwnPost x A5 c5 okA w) := by
  induction hz with
  | @mk x z0 z3 z5 zl4 zl5 z4 ih =>
    rintro cs A5 c5 okA w ⟨A4, c4, rfl⟩ hx hA
    exact own_step x (.mk z0 z3 z5 zl4 zl5 z4) ih A4 c4 A5 c5 okA w hx hA
end Go.Proofs.YtnckaeehcldheaaGreatDoor.Ob
end

section
namespace Go.Proofs.YtnckaeehcldheaaGreatDoorW.PrintLast
open Go.Proofs.YtnckaeehcldheaaGreatDoorW.PrintWords (Aside0)
def needsOf (md : Region.Mode) (o : Oper) : List Nat := (o.after.toList.filter (fun e => Region.binds md e)).map (fun e => e.on)
def clashOf (md : Region.Mode) (ops : Array Oper) (i : Nat) (oi : Oper) : List Nat := (List.range ops.size).filter fun j => !(j == i) && match ops[j]? with
  | some oj => !(oj.after.any (fun e => Region.binds md e && e.on == i) || oi.apart ops oj)
  | none => false
def rtab (md : Region.Mode) (ops : Array Oper) : Bool × List (List Nat × List Nat) := (Region.noSelect ops, (List.range ops.size).map fun i => match ops[i]? with
  | some o => (needsOf md o, clashOf md ops i o)
  | none => ([], []))
def readyAt (T : List (List Nat × List Nat)) (l : List Bool) (i : Nat) : Bool := !l.getD i true && match T[i]? with
  | some r => r.1.all (fun j => l.getD j false)
  | none => false
def readyT (T : List (List Nat × List Nat)) (l : List Bool) : List Nat := (List.range T.length).filter (readyAt T l)
def freeT (T : List (List Nat × List Nat)) (l : List Bool) (i : Nat) : Bool := match T[i]? with
  | some r => r.2.all (fun j => l.getD j true)
  | none => false
def closedT (T : List (List Nat × List Nat)) (l : List Bool) : Bool := (List.range T.length).all fun j => !l.getD j false || match T[j]? with
  | some r => r.1.all (fun k => l.getD k false)
  | none => true
def reachT (T : List (List Nat × List Nat)) (i : Nat) : Nat → Nat → Bool
  | 0, _ => false
  | fuel + 1, d => match T[d]? with
    | some r => r.1.any fun j => j == i || reachT T i fuel j
    | none => false
def lastT (T : List (List Nat × List Nat)) (l : List Bool) (ds : List Nat) (i : Nat) : Bool := ds.all fun d => l.getD d true || reachT T i T.length d
section
variable {md : Region.Mode} {ops : Array Oper} {T : Bool × List (List Nat × List Nat)} {l l' li lj lk : Array Bool} {ds : List Nat} {i j k : Nat}
theorem gd (l : Array Bool) (j : Nat) (b : Bool) : l.getD j b = l.toList.getD j b := by simp [Array.getD_eq_getD_getElem?, List.getD_eq_getElem?_getD]
theorem needs_all (o : Oper) (p : Nat → Bool) : o.after.all (fun e => !Region.binds md e || p e.on) = (needsOf md o).all p := by
  unfold needsOf
  rw [← Array.all_toList]
  induction o.after.toList with
  | nil => rfl
  | cons e r ih =>
    rw [List.all_cons, ih, List.filter_cons]
    cases h : Region.binds md e <;> simp
theorem needs_any (o : Oper) (p : Nat → Bool) : o.after.any (fun e => Region.binds md e && p e.on) = (needsOf md o).any p := by
  unfold needsOf
  rw [← Array.any_toList]
  induction o.after.toList with
  | nil => rfl
  | cons e r ih =>
    rw [List.any_cons, ih, List.filter_cons]
    cases h : Region.binds md e <;> simp
theorem rtab_length : (rtab md ops).2.length = ops.size := by simp [rtab]
theorem rtab_some {o : Oper} (h : ops[i]? = some o) : (rtab md ops).2[i]? = some (needsOf md o, clashOf md ops i o) := by
  have hi := (Array.getElem?_eq_some_iff.1 h).1
  unfold rtab
  rw [List.getElem?_map, List.getElem?_range hi, Option.map_some, h]
theorem rtab_none (h : ops[i]? = none) : (rtab md ops).2[i]? = none := by
  have hi : ops.size ≤ i := Array.getElem?_eq_none_iff.1 h
  exact List.getElem?_eq_none (by rw [rtab_length]; exact hi)
theorem readyAt_eq : readyAt (rtab md ops).2 l.toList i = (!l.getD i true && ((ops[i]?).map (·.after.all fun e => !Region.binds md e || l.getD e.on false)).getD false) := by
  unfold readyAt
  rw [gd]
  cases h : ops[i]? with
  | none => rw [rtab_none h]; rfl
  | some o =>
    rw [rtab_some h]
    simp only [Option.map_some, Option.getD_some]
    rw [← needs_all]
    simp only [gd]
theorem ready_eq : Region.ready md ops l = readyT (rtab md ops).2 l.toList := by
  unfold Region.ready readyT
  rw [rtab_length]
  refine List.filter_congr (fun i _ => ?_)
  rw [readyAt_eq]
theorem free_eq : Region.free md ops l i = freeT (rtab md ops).2 l.toList i := by
  unfold Region.free freeT
  cases h : ops[i]? with
  | none => rw [rtab_none h]
  | some oi =>
    rw [rtab_some h]
    simp only [clashOf]
    rw [List.all_filter]
    congr 1
    funext j
    rw [gd]
    cases hj : ops[j]? with
    | none => cases (j == i) <;> cases (l.toList.getD j true) <;> simp
    | some oj =>
      cases (j == i) <;> cases (l.toList.getD j true) <;> cases (oj.after.any (fun e => Region.binds md e && e.on == i) || oi.apart ops oj) <;> simp_all
theorem closed_eq : Region.closedB md ops l = closedT (rtab md ops).2 l.toList := by
  unfold Region.closedB closedT
  rw [rtab_length]
  congr 1
  funext j
  rw [gd]
  cases h : ops[j]? with
  | none => rw [rtab_none h]
  | some o =>
    rw [rtab_some h]
    simp only
    rw [← needs_all]
    simp only [gd]
theorem reach_eq : ∀ (fuel d : Nat), Region.reachB md ops i fuel d = reachT (rtab md ops).2 i fuel d
  | 0, _ => rfl
  | fuel + 1, d => by
    unfold Region.reachB reachT
    cases h : ops[d]? with
    | none => rw [rtab_none h]
    | some o =>
      rw [rtab_some h]
      simp only
      rw [← needs_any]
      congr 1
      funext e
      rw [reach_eq fuel]
theorem last_eq : Region.lastB md ops l ds i = lastT (rtab md ops).2 l.toList ds i := by
  unfold Region.lastB lastT
  rw [rtab_length]
  congr 1
  funext d
  rw [gd, reach_eq]
theorem readyAt_mem (h : readyAt T.2 l.toList i = true) (hT : rtab md ops = T) : (Region.ready md ops l).contains i = true := by
  subst hT
  rw [ready_eq]
  unfold readyT
  rw [List.contains_iff_mem, List.mem_filter, List.mem_range]
  refine ⟨?_, h⟩
  unfold readyAt at h
  rw [Bool.and_eq_true] at h
  cases hq : (rtab md ops).2[i]? with
  | none => rw [hq] at h; simp at h
  | some r => exact (List.getElem?_eq_some_iff.1 hq).1
theorem set_of (h : (l.toList.set i true == l'.toList) = true) : (l.setIfInBounds i true == l') = true := by
  rw [beq_iff_eq] at h ⊢
  apply Array.ext'
  rw [Array.toList_setIfInBounds]
  exact h
def anyT (T : Bool × List (List Nat × List Nat)) (l l' : List Bool) (i : Nat) : Bool := T.1 && freeT T.2 l i && readyAt T.2 l i && (l.set i true == l')
theorem any_of (hT : rtab md ops = T) (h : anyT T l.toList l'.toList i = true) : anyB md ops l l' i = true := by
  simp only [anyT, Bool.and_eq_true] at h
  obtain ⟨⟨⟨h1, h2⟩, h3⟩, h4⟩ := h
  have h5 := readyAt_mem h3 hT
  have h6 := set_of h4
  subst hT
  simp only [anyB, Bool.and_eq_true]
  exact ⟨⟨⟨h1, by rw [free_eq]; exact h2⟩, h5⟩, h6⟩
def takeT (T : Bool × List (List Nat × List Nat)) (ds : List Nat) (l l' : List Bool) (i : Nat) : Bool := T.1 && freeT T.2 l i && readyAt T.2 l i && closedT T.2 l && lastT T.2 l ds i && (l.set i true == l')
theorem take_of (hT : rtab md ops = T) (h : takeT T ds l.toList l'.toList i = true) : takeB md ops ds l l' i = true := by
  simp only [takeT, Bool.and_eq_true] at h
  obtain ⟨⟨⟨⟨⟨h1, h2⟩, h3⟩, h4⟩, h5⟩, h6⟩ := h
  have h7 := readyAt_mem h3 hT
  have h8 := set_of h6
  subst hT
  simp only [takeB, Bool.and_eq_true]
  exact ⟨⟨⟨⟨⟨h1, by rw [free_eq]; exact h2⟩, h7⟩, by rw [closed_eq]; exact h4⟩, by rw [last_eq]; exact h5⟩, h8⟩
theorem one_of (hT : rtab md ops = T) (h : (readyT T.2 l.toList == [i] && l.toList.set i true == l'.toList) = true) : readyB md ops l l' i = true := by
  simp only [Bool.and_eq_true] at h
  obtain ⟨h1, h2⟩ := h
  subst hT
  simp only [readyB, Bool.and_eq_true]
  exact ⟨by rw [ready_eq]; exact h1, set_of h2⟩
theorem done_of (hT : rtab md ops = T) (h : (readyT T.2 l.toList == []) = true) : (Region.ready md ops l == []) = true := by
  subst hT
  rw [ready_eq]
  exact h
def upM (B : List Nat) (d : Nat) : List Nat → Nat
  | [] => 0
  | n :: r => (2 ^ n ||| (if n < d then B.getD n 0 else 0)) ||| upM B d r
def waitsOk (T : List (List Nat × List Nat)) (B : List Nat) : Bool := (List.range T.length).all fun d => match T[d]? with
  | some r => (B.getD d 0 ||| upM B d r.1) == upM B d r.1
  | none => false
theorem upM_bit {B : List Nat} {d i : Nat} : ∀ {ns : List Nat}, (upM B d ns).testBit i = true → ∃ n ∈ ns, n = i ∨ (n < d ∧ (B.getD n 0).testBit i = true)
  | [], h => by simp [upM] at h
  | n :: r, h => by
    unfold upM at h
    rw [Nat.testBit_or, Nat.testBit_or, Bool.or_eq_true, Bool.or_eq_true] at h
    rcases h with (h | h) | h
    · rw [Nat.testBit_two_pow] at h
      exact ⟨n, List.mem_cons_self, .inl (by simpa using h)⟩
    · by_cases hn : n < d
      · rw [if_pos hn] at h
        exact ⟨n, List.mem_cons_self, .inr ⟨hn, h⟩⟩
      · rw [if_neg hn] at h
        simp at h
    · obtain ⟨m, hm, h2⟩ := upM_bit h
      exact ⟨m, List.mem_cons_of_mem _ hm, h2⟩
theorem reach_bit {T : List (List Nat × List Nat)} {B : List Nat} (hB : waitsOk T B = true) : ∀ (fuel d : Nat), d < fuel → d < T.length → (B.getD d 0).testBit i = true → reachT T i fuel d = true
  | 0, d, h, _, _ => by omega
  | fuel + 1, d, h, hd, hb => by
    have h1 := List.all_eq_true.1 hB d (List.mem_range.2 hd)
    cases hr : T[d]? with
    | none => rw [hr] at h1; simp at h1
    | some r =>
      rw [hr] at h1
      simp only [beq_iff_eq] at h1
      have h2 : (upM B d r.1).testBit i = true := by rw [← h1, Nat.testBit_or, hb, Bool.true_or]
      obtain ⟨n, hn, h3⟩ := upM_bit h2
      unfold reachT
      rw [hr]
      simp only
      rw [List.any_eq_true]
      refine ⟨n, hn, ?_⟩
      rcases h3 with rfl | ⟨h4, h5⟩
      · simp
      · rw [reach_bit hB fuel n (by omega) (by omega) h5, Bool.or_true]
def lastW (T : List (List Nat × List Nat)) (B : List Nat) (l : List Bool) (ds : List Nat) (i : Nat) : Bool := ds.all fun d => l.getD d true || (decide (d < T.length) && (B.getD d 0).testBit i)
def takeW (T : Bool × List (List Nat × List Nat)) (B : List Nat) (ds : List Nat) (l l' : List Bool) (i : Nat) : Bool := T.1 && freeT T.2 l i && readyAt T.2 l i && closedT T.2 l && lastW T.2 B l ds i && (l.set i true == l')
theorem take_ofW {B : List Nat} (hT : rtab md ops = T) (hB : waitsOk T.2 B = true) (h : takeW T B ds l.toList l'.toList i = true) : takeB md ops ds l l' i = true := by
  refine take_of hT ?_
  simp only [takeW, takeT, Bool.and_eq_true] at h ⊢
  obtain ⟨⟨⟨⟨⟨h1, h2⟩, h3⟩, h4⟩, h5⟩, h6⟩ := h
  refine ⟨⟨⟨⟨⟨h1, h2⟩, h3⟩, h4⟩, ?_⟩, h6⟩
  unfold lastW at h5
  unfold lastT
  rw [List.all_eq_true] at h5 ⊢
  intro d hd
  have h7 := h5 d hd
  rw [Bool.or_eq_true, Bool.and_eq_true, decide_eq_true_eq] at h7
  rcases h7 with h7 | ⟨h8, h9⟩
  · rw [h7, Bool.true_or]
  · rw [reach_bit hB _ d h8 h8 h9, Bool.or_true]
theorem with_tabW {P : Program} {Q : Exit → Act → World → Prop} {S : World → Prop} {n : Nat} {a : Act} {w : World} {B : List Nat} (hT : rtab md ops = T) (hB : waitsOk T.2 B = true) (h : Aside0 (rtab md ops = T) → Aside0 (waitsOk T.2 B = true) → wpAnyLast P md ops Q S ds n l a w) : wpAnyLast P md ops Q S ds n l a w := h ⟨hT⟩ ⟨hB⟩
end
def opsIn : Code → Nat → Option (Array Oper)
  | .region id ops _, k => if id == k then some ops else none
  | .seq a b, k => match opsIn a k with
    | some o => some o
    | none => opsIn b k
  | .cond _ a b, k => match opsIn a k with
    | some o => some o
    | none => opsIn b k
  | .block _ c, k => opsIn c k
  | .loop c, k => opsIn c k
  | .scope c, k => opsIn c k
  | .rangeFunc _ _ a b, k => match opsIn a k with
    | some o => some o
    | none => opsIn b k
  | _, _ => none
def opsOf (f : Func) (k : Nat) : Array Oper := ((f.body.bind fun c => opsIn c k)).getD #[]
end Go.Proofs.YtnckaeehcldheaaGreatDoorW.PrintLast
end

section
namespace Go.Proofs.YtnckaeehcldheaaGreatDoorW.PrintWords
theorem Reps.front {α : Type} {R : α → List Value → Prop} {size : Nat} {ps : List α} {cs c all : List Value} {p : α} (hp : R p c) (hc : c.length = size) (h : Reps R size ps cs) (ha : c ++ cs = all) : Reps R size (p :: ps) all := by
  subst ha
  refine ⟨by rw [List.length_append, hc, h.1, List.length_cons, Nat.succ_mul, Nat.add_comm], fun j q hq => ?_⟩
  cases j with
  | zero =>
    simp only [List.getElem?_cons_zero, Option.some.injEq] at hq
    subst hq
    rw [Nat.zero_mul, List.drop_zero, List.take_append_of_le_length (by omega), List.take_of_length_le (by omega)]
    exact hp
  | succ j =>
    simp only [List.getElem?_cons_succ] at hq
    have h1 := h.2 j q hq
    rw [Nat.succ_mul, List.drop_append, List.drop_of_length_le (by rw [hc]; exact Nat.le_add_left _ _), List.nil_append, hc, Nat.add_sub_cancel]
    exact h1
theorem Reps.c2 {α : Type} {R : α → List Value → Prop} {ps : List α} {cs : List Value} {p : α} {va vb : Value} (hp : R p [va, vb]) (h : Reps R 2 ps cs) : Reps R 2 (p :: ps) (va :: vb :: cs) := Reps.front hp rfl h rfl
theorem Reps.c3 {α : Type} {R : α → List Value → Prop} {ps : List α} {cs : List Value} {p : α} {va vb vc : Value} (hp : R p [va, vb, vc]) (h : Reps R 3 ps cs) : Reps R 3 (p :: ps) (va :: vb :: vc :: cs) := Reps.front hp rfl h rfl
theorem Reps.c4 {α : Type} {R : α → List Value → Prop} {ps : List α} {cs : List Value} {p : α} {va vb vc vd : Value} (hp : R p [va, vb, vc, vd]) (h : Reps R 4 ps cs) : Reps R 4 (p :: ps) (va :: vb :: vc :: vd :: cs) := Reps.front hp rfl h rfl
theorem Reps.c5 {α : Type} {R : α → List Value → Prop} {ps : List α} {cs : List Value} {p : α} {va vb vc vd ve : Value} (hp : R p [va, vb, vc, vd, ve]) (h : Reps R 5 ps cs) : Reps R 5 (p :: ps) (va :: vb :: vc :: vd :: ve :: cs) := Reps.front hp rfl h rfl
theorem Reps.c6 {α : Type} {R : α → List Value → Prop} {ps : List α} {cs : List Value} {p : α} {va vb vc vd ve vf : Value} (hp : R p [va, vb, vc, vd, ve, vf]) (h : Reps R 6 ps cs) : Reps R 6 (p :: ps) (va :: vb :: vc :: vd :: ve :: vf :: cs) := Reps.front hp rfl h rfl
theorem Reps.c7 {α : Type} {R : α → List Value → Prop} {ps : List α} {cs : List Value} {p : α} {va vb vc vd ve vf vg : Value} (hp : R p [va, vb, vc, vd, ve, vf, vg]) (h : Reps R 7 ps cs) : Reps R 7 (p :: ps) (va :: vb :: vc :: vd :: ve :: vf :: vg :: cs) := Reps.front hp rfl h rfl
theorem Reps.c8 {α : Type} {R : α → List Value → Prop} {ps : List α} {cs : List Value} {p : α} {va vb vc vd ve vf vg vh : Value} (hp : R p [va, vb, vc, vd, ve, vf, vg, vh]) (h : Reps R 8 ps cs) : Reps R 8 (p :: ps) (va :: vb :: vc :: vd :: ve :: vf :: vg :: vh :: cs) := Reps.front hp rfl h rfl
theorem Reps.c9 {α : Type} {R : α → List Value → Prop} {ps : List α} {cs : List Value} {p : α} {va vb vc vd ve vf vg vh vi : Value} (hp : R p [va, vb, vc, vd, ve, vf, vg, vh, vi]) (h : Reps R 9 ps cs) : Reps R 9 (p :: ps) (va :: vb :: vc :: vd :: ve :: vf :: vg :: vh :: vi :: cs) := Reps.front hp rfl h rfl
theorem Reps.c10 {α : Type} {R : α → List Value → Prop} {ps : List α} {cs : List Value} {p : α} {va vb vc vd ve vf vg vh vi vj : Value} (hp : R p [va, vb, vc, vd, ve, vf, vg, vh, vi, vj]) (h : Reps R 10 ps cs) : Reps R 10 (p :: ps) (va :: vb :: vc :: vd :: ve :: vf :: vg :: vh :: vi :: vj :: cs) := Reps.front hp rfl h rfl
end Go.Proofs.YtnckaeehcldheaaGreatDoorW.PrintWords
end

section
namespace Go.Proofs.YtnckaeehcldheaaGreatDoorW.PrintLast
def up (b : Nat → Bool) (i : Nat) : Nat → Bool := fun j => if j = i then true else b j
section
variable {P : Program} {ops : Array Oper} {Q : Exit → Act → World → Prop} {md : Region.Mode} {T : Bool × List (List Nat × List Nat)} {B : List Nat} {O : List Nat} {b : Nat → Bool} {i j n : Nat}
end
end Go.Proofs.YtnckaeehcldheaaGreatDoorW.PrintLast
end

section
namespace Go.Proofs.YtnckaeehcldheaaGreatDoorW.PrintWords
open Go.RowKit
section
variable {P : Program} {ops : Array Oper} {rest : List Oper} {o : Oper} {a : Act} {Q : Exit → Act → World → Prop} {W : World}
theorem gate_guard (hw : Region.wanted o (yielded ops a.tmps) = true) (h : wpList P ops Q ({ o with guard := none } :: rest) a W) : wpList P ops Q (o :: rest) a W := by
  have h1 : Region.wanted { o with guard := none } (yielded ops a.tmps) = true := rfl
  unfold wpList at h ⊢
  rw [if_pos h1] at h
  rw [if_pos hw]
  exact h
end
end Go.Proofs.YtnckaeehcldheaaGreatDoorW.PrintWords
end
