import PyProof.Rows.All
import Wide.All
import OpenK.AllK
import Wide.FinOn
import Lean
import PySem.Challenge.RW_xm0720_01
open PySem PySem.W PyProof.Rows
set_option Elab.async false
set_option maxRecDepth 100000
set_option maxHeartbeats 8000000
set_option rowWalk.seconds 0
namespace Mine
open_top hd for PySem.Challenge.rw_xm0720_01
example : PySem.Challenge.rw_xm0720_01.Holds → PySem.Challenge.rw_xm0720_01.Holds := by
  intro h
  have hh := hd
  suffices h9 : PySem.Challenge.rw_xm0720_01.Holds from h9
  revert hh
  k_fill
  intro _
  exact h
local macro_rules | `(tactic| walk_at $s:str) => `(tactic| k_extra $s)
local macro_rules | `(tactic| k_room) => `(tactic| k_extra "room")
local macro_rules | `(tactic| k_units) => `(tactic| k_extra "units")
local macro_rules | `(tactic| k_enter) => `(tactic| k_extra "enter")
local macro_rules | `(tactic| k_updF) => `(tactic| k_extra "updF")
local macro_rules | `(tactic| k_ne) => `(tactic| k_extra "ne")
local macro_rules | `(tactic| units_room) => `(tactic| k_extra "units")
local macro_rules | `(tactic| omega) => `(tactic| k_extra "omega")
local macro_rules | `(tactic| k_unfold) => `(tactic| k_extra "fold")
section
example : True := by
  k_with_none
  k_with "eval Dict" => (k_here; k_dflt ((refine' kdn_str ?_ ?_ ?_ ?_ ?_ ?_ ?_ ?_ ?_); (case refine'_5 => rfl); (case refine'_6 => k_asm); (case refine'_7 => k_asm); (case refine'_8 => exact Top.nolimit (by k_asm)); (case refine'_9 => rfl); (case refine'_10 => rfl); (case refine'_11 => exact List.cons_ne_nil _ _); (case refine'_12 => exact Nat.le_of_ble_eq_true rfl)); intro d' h' o' F' N' l1 lo' hd'; (try k_lt l1))
  k_with "enter" => (refine' code_def (by k_asm) (by k_asm) (by k_asm) (by k_asm) (by k_asm) (by exact rfl) (by exact rfl) (by assumption) (by k_is) (by k_is) (by k_room) (by first | exact BindsTo.of_eq rfl | exact binds_K (by k_in) rfl (by k_is) rfl rfl rfl | fail "k_enter: no rule for these arguments") (by exact locs rfl) ?_ (by exact rfl) (by exact rfl) (by exact rfl) (by decide); k_whole; intro g' L' h' FG' F' N' B' X' T'; (try dsimp only); (try k_lift B'); (try k_fold); (refine foldA ?_); intro A9; (refine foldV ?_); intro V9)
  trivial
noncomputable abbrev PP : Program := PySem.Challenge.rw_xm0720_01.row.prog
noncomputable abbrev stackD (w : World) (b : Nat → Nat) (l : Addr) : Obj :=
  dictOf [⟨PyData.keyHash w.params (Str.ofString "most"), .str (Str.ofString "most") (b 0), .int 8 (b 1)⟩, ⟨PyData.keyHash w.params (Str.ofString "numbers"), .str (Str.ofString "numbers") (b 2), .ref l⟩] 2
noncomputable abbrev workD (w : World) (b : Nat → Nat) (sx : Addr) : Obj :=
  dictOf [⟨PyData.keyHash w.params (Str.ofString "state"), .str (Str.ofString "state") (b 0), .ref (b 8)⟩, ⟨PyData.keyHash w.params (Str.ofString "stack"), .str (Str.ofString "stack") (b 1), .ref sx⟩,
    ⟨PyData.keyHash w.params (Str.ofString "zones"), .str (Str.ofString "zones") (b 2), .ref (b 9)⟩, ⟨PyData.keyHash w.params (Str.ofString "cvt"), .str (Str.ofString "cvt") (b 3), .ref (b 10)⟩, ⟨PyData.keyHash w.params (Str.ofString "storage"), .str (Str.ofString "storage") (b 4), .ref (b 11)⟩,
    ⟨PyData.keyHash w.params (Str.ofString "ppem"), .str (Str.ofString "ppem") (b 5), .int 12 481⟩, ⟨PyData.keyHash w.params (Str.ofString "point_size"), .str (Str.ofString "point_size") (b 6), .int 768 482⟩, ⟨PyData.keyHash w.params (Str.ofString "scale"), .str (Str.ofString "scale") (b 7), .ref 220⟩] 8
noncomputable def fn12 (l : List Nat) (i : Nat) : Nat := l.getD i 0
theorem newsCons {h₀ h : Heap} {L : Addr} {p : Addr × Obj} {all r : List (Addr × Obj)} (N : News h₀ L h all) (h1 : p ∈ all) (h2 : ∀ q ∈ r, q ∈ all) : ∀ q ∈ p :: r, q ∈ all := fun q hq => by
  rcases List.mem_cons.mp hq with rfl | hq
  · exact h1
  · exact h2 q hq
example : True := by
  k_with_none
  k_with "eval Dict" => (k_here; k_dflt ((refine' kdn_str ?_ ?_ ?_ ?_ ?_ ?_ ?_ ?_ ?_); (case refine'_5 => rfl); (case refine'_6 => k_asm); (case refine'_7 => k_asm); (case refine'_8 => exact Top.nolimit (by k_asm)); (case refine'_9 => rfl); (case refine'_10 => rfl); (case refine'_11 => exact List.cons_ne_nil _ _); (case refine'_12 => exact Nat.le_of_ble_eq_true rfl)); intro d' h' o' F' N' l1 lo' hd'; (try k_lt l1))
  k_with "enter" => (refine' code_def (by k_asm) (by k_asm) (by k_asm) (by k_asm) (by k_asm) (by exact rfl) (by exact rfl) (by assumption) (by k_is) (by k_is) (by k_room) (by first | exact BindsTo.of_eq rfl | exact binds_K (by k_in) rfl (by k_is) rfl rfl rfl | fail "k_enter: no rule for these arguments") (by exact locs rfl) ?_ (by exact rfl) (by exact rfl) (by exact rfl) (by decide); k_whole; intro g' L' h' FG' F' N' B' X' T'; (try dsimp only); (try k_lift B'); (try k_fold); (refine foldA ?_); intro A9; (refine foldV ?_); intro V9)
  k_with "room" => first | (refine' room_of (by assumption) (by ((try simp (config := { zetaDelta := true }) only [depth_under_make, depth_under_kw, depth_in1, depth_deeper, depth_caller]); (try dsimp (config := { zetaDelta := true }) only [ktrTop]); simp only [Nat.add_assoc, Nat.reduceAdd, Nat.add_le_add_iff_left, Nat.reduceLeDiff, Nat.le_add_right]))) | ktr_room
  k_with "units" => first | (refine' room_of (by assumption) (by ((try simp (config := { zetaDelta := true }) only [units_under_make, units_in1, units_deeper, Around.mark_units, units_caller]); (try dsimp (config := { zetaDelta := true }) only [ktrTop]); simp only [Nat.add_assoc, Nat.reduceAdd, Nat.add_le_add_iff_left, Nat.reduceLeDiff, Nat.le_add_right]))) | ktr_units
  trivial
theorem room_of {x dp b R : Nat} (h : dp + b < R) (hle : x ≤ dp + b) : x < R := Nat.lt_of_le_of_lt hle h
theorem oA {n : Nat} (h : n < 8) : (n : Int) < 2 ^ 63 := Int.lt_trans (Int.ofNat_lt.mpr h) (by decide)
theorem oB {n : Nat} (h : n ≤ 8) : (n : Int) < 2 ^ 63 := Int.lt_of_le_of_lt (Int.ofNat_le.mpr h) (by decide)
theorem oC {n : Nat} (h : n < 9) : (n : Int) < 2 ^ 63 := Int.lt_trans (Int.ofNat_lt.mpr h) (by decide)
theorem oD {n : Nat} (h : n < 8) : n ≤ 16777216 := Nat.le_trans (Nat.le_of_lt h) (by decide)
theorem oE {m n : Nat} (e : m = n) (h : n < 8) : m ≤ 16777216 := e ▸ oD h
theorem oF {m n : Nat} (e : m = n + 1) (h : n < 8) : m ≤ 16777216 := e ▸ Nat.le_trans h (by decide)
theorem oG {m n : Nat} (e : m = n) (h : n ≤ 8) : m ≤ 16777216 := e ▸ Nat.le_trans h (by decide)
theorem oH {n : Nat} {k : Int} (h : k ≤ (n : Int)) : 0 ≤ (n : Int) - k := Int.sub_nonneg_of_le h
theorem oI {n : Nat} {k : Int} (h : k ≤ (n : Int)) : 0 ≤ (n : Int) - k + 1 := Int.add_nonneg (Int.sub_nonneg_of_le h) (by decide)
theorem oJ {n : Nat} {k : Int} (h : 1 ≤ k) : (n : Int) - k < (n : Int) := Int.sub_lt_self _ (Int.lt_of_lt_of_le (by decide) h)
theorem oK {n : Nat} {k : Int} (g : n < 8) (h : 1 ≤ k) : (n : Int) - k < 2 ^ 63 := Int.lt_trans (oJ h) (oA g)
theorem oL {n : Nat} {k : Int} (g : n < 9) (h : 1 ≤ k) : (n : Int) - k < 2 ^ 63 := Int.lt_trans (oJ h) (oC g)
theorem oM {n : Nat} : -((n + 1 : Nat) : Int) ≤ -1 := Int.neg_le_neg (Int.ofNat_le.mpr (Nat.le_add_left 1 n))
theorem oN {a b n : Nat} (h : n < 8) : min a n + (n - b) ≤ 16777216 := Nat.le_trans (Nat.add_le_add (Nat.min_le_right _ _) (Nat.sub_le _ _)) (Nat.le_trans (Nat.add_le_add (Nat.le_of_lt h) (Nat.le_of_lt h)) (by decide))
theorem oO {a b n : Nat} (h : n < 8) : min a n + (n - b) + (0 + 1) ≤ 16777216 := Nat.le_trans (Nat.add_le_add_right (Nat.add_le_add (Nat.min_le_right _ _) (Nat.sub_le _ _)) _) (Nat.le_trans (Nat.add_le_add_right (Nat.add_le_add (Nat.le_of_lt h) (Nat.le_of_lt h)) _) (by decide))
theorem idx1 {n : Nat} {k : Int} (h1 : 1 ≤ k) (h2 : k ≤ (n : Int)) : ((n : Int) - k).toNat = n - k.toNat := by
  obtain ⟨j, rfl⟩ := Int.eq_ofNat_of_zero_le (Int.le_trans (by decide) h1)
  exact Int.toNat_sub n j
theorem idx2 {n : Nat} {k : Int} (h1 : 1 ≤ k) (h2 : k ≤ (n : Int)) : ((n : Int) - k + 1).toNat = n - k.toNat + 1 := by
  rw [Int.toNat_add (Int.sub_nonneg_of_le h2) (by decide), idx1 h1 h2]; rfl
theorem oP0 {k : Int} (h1 : 1 ≤ k) : 1 ≤ k.toNat := Int.le_toNat (Int.le_trans (by decide) h1) |>.mpr h1
theorem oP1 {n : Nat} {k : Int} (h1 : 1 ≤ k) (h2 : k ≤ (n : Int)) : 1 ≤ n := Int.ofNat_le.mp (Int.le_trans h1 h2)
theorem oP {n : Nat} {k : Int} (h1 : 1 ≤ k) (h2 : k ≤ (n : Int)) : n - k.toNat < n := Nat.sub_lt (oP1 h1 h2) (oP0 h1)
theorem oQ {k : Int} : (k - 0).toNat = k.toNat := by rw [Int.sub_zero]
theorem oR {n b : Nat} (h : n < 8) : n - b ≤ 16777216 := Nat.le_trans (Nat.sub_le _ _) (oD h)
theorem oS {n : Nat} {k : Int} (h : k ≤ (n : Int)) : (k - 0).toNat ≤ n := by rw [Int.sub_zero]; exact Int.toNat_le.mpr h
theorem oT {n : Nat} {k : Int} (h : k ≤ (n : Int)) (g : n < 8) : (k - 0).toNat ≤ 16777216 := Nat.le_trans (oS h) (oD g)
theorem oU {m n : Nat} (h : m + 1 ≤ n) (g : n < 8) : m < 8 := Nat.lt_trans h g
theorem oV {n : Nat} {k : Int} (h : k ≤ (n : Int)) (g : n < 8) : k < 2 ^ 62 := Int.lt_of_le_of_lt h (Int.lt_trans (Int.ofNat_lt.mpr g) (by decide))
theorem oW {k : Int} (h : 1 ≤ k) : -2 ^ 62 ≤ k := Int.le_trans (by decide) h
theorem oX {n : Nat} (h : n < 8) : n < 9 := Nat.lt_succ_of_lt h
theorem oY0 {n m : Nat} (h : m ≤ n) : min m n + (n - (m + 1)) ≤ n := Nat.le_trans (Nat.add_le_add (Nat.min_le_left m n) (Nat.sub_le_sub_left (Nat.le_succ m) n)) (Nat.le_of_eq (Nat.add_sub_cancel' h))
theorem oY {n j : Nat} (g : n < 8) : min (n - j) n + (n - (n - j + 1)) < 8 := Nat.lt_of_le_of_lt (oY0 (Nat.sub_le _ _)) g
theorem oZ {n a b j : Nat} (g : n < 8) (e : n - (n - j + 1) = a + (b + 1)) : min (n - j) n + a < 8 := Nat.lt_of_le_of_lt (Nat.le_trans (Nat.add_le_add_left (e ▸ Nat.le_add_right a (b + 1)) _) (oY0 (Nat.sub_le n j))) g
theorem pA {n : Nat} {r : Int} (h : 0 ≤ r ∧ r < 8) (e : n = (r - 0).toNat) : n < 8 := by rw [e, Int.sub_zero]; exact (Int.toNat_lt h.1).mpr h.2
theorem pC {n : Nat} (h : n < 8) : (1 ≤ if (n : Int) > 1 then (n : Int) else 1) ∧ (if (n : Int) > 1 then (n : Int) else 1) ≤ 8 := by
  by_cases q : (n : Int) > 1
  · rw [if_pos q]; exact ⟨Int.le_of_lt q, Int.le_of_lt (Int.ofNat_lt.mpr h)⟩
  · rw [if_neg q]; exact ⟨Int.le_refl _, by decide⟩
theorem pB {n : Nat} {r : Int} (h : n < 8) (g : 0 ≤ r ∧ r < if (n : Int) > 1 then (n : Int) else 1) : 0 ≤ 1 + r ∧ 1 + r ≤ 100 := ⟨Int.add_nonneg (by decide) g.1, Int.le_trans (Int.add_le_add_left (Int.le_of_lt (Int.lt_of_lt_of_le g.2 (pC h).2)) 1) (by decide)⟩
theorem pD {n : Nat} (h : n < 8) : 0 ≤ (n : Int) ∧ (n : Int) ≤ 100 := ⟨Int.natCast_nonneg n, Int.le_of_lt (Int.lt_trans (Int.ofNat_lt.mpr h) (by decide))⟩
theorem pE {r : Int} (h : 0 ≤ r ∧ r < 8) : (r - 0).toNat ≤ 16777216 := by rw [Int.sub_zero]; exact Nat.le_trans (Nat.le_of_lt ((Int.toNat_lt h.1).mpr (show r < ((8 : Nat) : Int) from h.2))) (by decide)
theorem pF {n : Nat} (h : n < 8) : n + (0 + 1) ≤ 16777216 := Nat.le_trans h (by decide)
theorem pG {n : Nat} (h : n < 8) : n + (0 + 1) ≤ 8 := h
theorem pH {r : Int} (h : 0 ≤ r ∧ r < 8) : -2 ^ 62 ≤ r := Int.le_trans (by decide) h.1
theorem pI {r : Int} (h : 0 ≤ r ∧ r < 8) : r < 2 ^ 62 := Int.lt_trans h.2 (by decide)
theorem pJ {n : Nat} {r : Int} (h : 0 ≤ r ∧ r < (n : Int)) (g : n ≤ 8) : r < 2 ^ 63 := Int.lt_trans h.2 (oB g)
theorem pK {n : Nat} {r : Int} (h : 0 ≤ r ∧ r < (n : Int)) : r.toNat < n := (Int.toNat_lt h.1).mpr h.2
theorem pL {n : Nat} (h : 1 ≤ n) (g : n ≤ 8) : 1 ≤ (n : Int) ∧ (n : Int) ≤ 8 := ⟨Int.ofNat_le.mpr h, Int.ofNat_le.mpr g⟩
theorem pM {x : Int} : -2 ^ 64 < x % 2147483629 + 23 := Int.lt_of_lt_of_le (by decide) (Int.add_le_add_right (Int.emod_nonneg x (by decide)) 23)
theorem pN {x : Int} : x % 2147483629 + 23 < 2 ^ 64 := Int.lt_trans (Int.add_lt_add_right (Int.emod_lt_of_pos x (by decide)) 23) (by decide)
theorem pO {m n : Nat} (e : m = n + 1) : 0 < m := e ▸ Nat.succ_pos n
theorem pP {m n : Nat} (e : m = n + 1) (h : n < 8) : m < 9 := e ▸ Nat.succ_lt_succ h
theorem pQ {t : Int} (h : 1 ≤ t ∧ t ≤ 8) : 0 < t := Int.lt_of_lt_of_le (by decide) h.1
theorem pR {t : Int} (h : 1 ≤ t ∧ t ≤ 8) : 0 ≤ t := Int.le_trans (by decide) h.1
theorem pS {k : Int} (h : -2147483648 ≤ k ∧ k ≤ 2147483647) : -2 ^ 1920 < k := Int.lt_of_lt_of_le (by decide) h.1
theorem pT {k : Int} (h : -2147483648 ≤ k ∧ k ≤ 2147483647) : k < 2 ^ 1920 := Int.lt_of_le_of_lt h.2 (by decide)
theorem pU {k : Int} (h : -2147483648 ≤ k ∧ k ≤ 2147483647) : k < 10 ^ 10 := Int.lt_of_le_of_lt h.2 (by decide)
theorem pV {k : Int} (h : 1 ≤ k) : 0 ≤ k := Int.le_trans (by decide) h
theorem pW {x y : Nat} (h : x < y) : y + 1 ≠ x := Nat.ne_of_gt (Nat.lt_succ_of_lt h)
theorem pX {x y : Nat} (h : x < y) : x ≠ y + 1 := Nat.ne_of_lt (Nat.lt_succ_of_lt h)
theorem pY {i n k : Nat} (h : i + (k + 1) = n) : i < n := h ▸ Nat.lt_add_of_pos_right (Nat.succ_pos k)
theorem oBad {n : Nat} {k : Int} (h : ¬(1 ≤ k ∧ k ≤ (n : Int))) (h1 : 0 ≤ (n : Int) - k) : ¬((n : Int) - k < (n : Int)) := fun h2 => h ⟨Int.lt_of_sub_lt_sub_left ((Int.sub_zero (n : Int)).symm ▸ h2 : (n : Int) - k < (n : Int) - 0), Int.le_of_sub_nonneg h1⟩
theorem oBad1 {n : Nat} {k : Int} (h : ¬(1 ≤ k ∧ k ≤ (n : Int))) (h1 : 1 ≤ k) : ¬(k ≤ (n : Int)) := fun h2 => h ⟨h1, h2⟩
theorem qA {n : Nat} (h : n < 8) : ¬(8 ≤ (n : Int)) := fun g => Nat.not_le.mpr h (Int.ofNat_le.mp g)
theorem qB {n : Nat} (h : n ≤ 2 ^ 20) : n < 2 ^ 62 := Nat.lt_of_le_of_lt h (by decide)
theorem qC {i : Int} (h : ¬0 ≤ i) : 0 ≤ -1 - i := Int.sub_nonneg_of_le (Int.le_sub_one_of_lt (Int.not_le.mp h))
theorem qD {n : Nat} (h : ¬((63 : Nat) : Int) < (n : Int)) : n ≤ 2 ^ 20 := Nat.le_trans (Int.ofNat_le.mp (Int.not_lt.mp h)) (by decide)
theorem qE {t : Int} (h : 1 ≤ t ∧ t ≤ 8) : ¬ t = 0 := fun e => absurd (e ▸ h.1 : (1 : Int) ≤ 0) (by decide)
theorem qF {a n : Nat} : min a n ≤ n := Nat.min_le_right _ _
theorem qG {a b : Nat} (h : b ≤ 1921) (e : a = 24) : a + b ≤ 16777216 := e ▸ Nat.le_trans (Nat.add_le_add_left h 24) (by decide)
theorem neT {x d y : Nat} (g : y < x) (h : d < y) : x ≠ d := Nat.ne_of_gt (Nat.lt_trans h g)
theorem oT1 {t : Int} (h : 1 ≤ t ∧ t ≤ 8) : t.natAbs < 1073741824 := by
  obtain ⟨j, rfl⟩ := Int.eq_ofNat_of_zero_le (Int.le_trans (by decide) h.1)
  exact Nat.lt_of_le_of_lt (Int.ofNat_le.mp h.2) (by decide)
theorem oD1 {n i : Nat} (h : i < n) : n - i = n - (i + 1) + 1 := by rw [Nat.sub_add_eq]; exact (Nat.sub_add_cancel (Nat.sub_pos_of_lt h)).symm
theorem oD2 {n i : Nat} (h : i < n) : n - (i + 1) + 1 = n - i := (oD1 h).symm
theorem chainLt {a b c d e : Nat} (h : a < b ∧ b < c ∧ c < d ∧ d < e) : a < e ∧ b < e ∧ c < e := ⟨Nat.lt_trans h.1 (Nat.lt_trans h.2.1 (Nat.lt_trans h.2.2.1 h.2.2.2)), Nat.lt_trans h.2.1 (Nat.lt_trans h.2.2.1 h.2.2.2), Nat.lt_trans h.2.2.1 h.2.2.2⟩
theorem tokfold {α : Type} {M : Model} {A : Around} {t : Sem α} {Q : α → Shared → Prop} {E : Value → Shared → Prop} {h : Heap} {g : Array GenState} {d : Drawn} {n : Nat} {os : OsState} (hh : ∀ k : Nat, wpAny M A t Q E ⟨h, g, d, k, os⟩) : wpAny M A t Q E ⟨h, g, d, n, os⟩ := hh n
theorem foldA {α : Type} {M : Model} {A : Around} {t : Sem α} {Q : α → Shared → Prop} {E : Value → Shared → Prop} {s : Shared} (h : let A' := A; wpAny M A' t Q E s) : wpAny M A t Q E s := h
theorem foldQ {α : Type} {M : Model} {A : Around} {t : Sem α} {Q : α → Shared → Prop} {E : Value → Shared → Prop} {s : Shared} (h : let Q' := Q; wpAny M A t Q' E s) : wpAny M A t Q E s := h
theorem foldV {M : Model} {A : Around} {b : List Stmt} {e : Env} {Q : Flow → Shared → Prop} {E : Value → Shared → Prop} {s : Shared} (h : let e' := e; wpAny M A (execs b e') Q E s) : wpAny M A (execs b e) Q E s := h
example : True := by
  k_with_none
  k_with "eval Dict" => (k_here; k_dflt ((refine' kdn_str ?_ ?_ ?_ ?_ ?_ ?_ ?_ ?_ ?_); (case refine'_5 => rfl); (case refine'_6 => k_asm); (case refine'_7 => k_asm); (case refine'_8 => exact Top.nolimit (by k_asm)); (case refine'_9 => rfl); (case refine'_10 => rfl); (case refine'_11 => exact List.cons_ne_nil _ _); (case refine'_12 => exact Nat.le_of_ble_eq_true rfl)); intro d' h' o' F' N' l1 lo' hd'; (try k_lt l1))
  k_with "enter" => (refine' code_def (by k_asm) (by k_asm) (by k_asm) (by k_asm) (by k_asm) (by exact rfl) (by exact rfl) (by assumption) (by k_is) (by k_is) (by k_room) (by first | exact BindsTo.of_eq rfl | exact binds_K (by k_in) rfl (by k_is) rfl rfl rfl | fail "k_enter: no rule for these arguments") (by exact locs rfl) ?_ (by exact rfl) (by exact rfl) (by exact rfl) (by decide); k_whole; intro g' L' h' FG' F' N' B' X' T'; (try dsimp only); (try k_lift B'); (try k_fold); (refine foldA ?_); intro A9; (refine foldV ?_); intro V9)
  k_with "room" => first | (refine' room_of (by assumption) (by ((try simp (config := { zetaDelta := true }) only [depth_under_make, depth_under_kw, depth_in1, depth_deeper, depth_caller]); (try dsimp (config := { zetaDelta := true }) only [ktrTop]); simp only [Nat.add_assoc, Nat.reduceAdd, Nat.add_le_add_iff_left, Nat.reduceLeDiff, Nat.le_add_right]))) | ktr_room
  k_with "units" => first | (refine' room_of (by assumption) (by ((try simp (config := { zetaDelta := true }) only [units_under_make, units_in1, units_deeper, Around.mark_units, units_caller]); (try dsimp (config := { zetaDelta := true }) only [ktrTop]); simp only [Nat.add_assoc, Nat.reduceAdd, Nat.add_le_add_iff_left, Nat.reduceLeDiff, Nat.le_add_right]))) | ktr_units
  k_with "room" => first | (refine' room_of (by assumption) (by ((try simp (config := { zetaDelta := true }) only [depth_under_make, depth_under_kw, depth_in1, depth_deeper, depth_caller]); (try dsimp (config := { zetaDelta := true }) only [ktrTop]); simp only [Nat.add_assoc, Nat.reduceAdd, Nat.add_le_add_iff_left, Nat.reduceLeDiff, Nat.le_add_right]))) | ktr_room
  k_with "units" => first | (refine' room_of (by assumption) (by ((try simp (config := { zetaDelta := true }) only [units_under_make, units_in1, units_deeper, Around.mark_units, units_caller]); (try dsimp (config := { zetaDelta := true }) only [ktrTop]); simp only [Nat.add_assoc, Nat.reduceAdd, Nat.add_le_add_iff_left, Nat.reduceLeDiff, Nat.le_add_right]))) | ktr_units
  k_with "pj0" => first | assumption | exact And.right (by k_extra "pj1")
  k_with "pj1" => first | assumption | exact And.right (by k_extra "pj2")
  k_with "pj2" => first | assumption | exact And.right (by k_extra "pj3")
  k_with "pj3" => first | assumption | exact And.right (by k_extra "pj4")
  k_with "pj4" => first | assumption | exact And.right (by k_extra "pj5")
  k_with "pj5" => first | assumption | exact And.right (by k_extra "pj6")
  k_with "pj6" => first | assumption | exact And.right (by k_extra "pj7")
  k_with "pj7" => first | assumption | exact And.right (by k_extra "pj8")
  k_with "pj8" => first | assumption | exact And.right (by k_extra "pj9")
  k_with "pj9" => first | assumption | exact And.right (by k_extra "pj10")
  k_with "pj10" => first | assumption | exact And.right (by k_extra "pj11")
  k_with "pj11" => first | assumption | exact And.right (by k_extra "pj12")
  k_with "pj12" => first | assumption | exact And.right (by k_extra "pj13")
  k_with "pj13" => first | assumption | exact And.right (by k_extra "pj14")
  k_with "pj14" => first | assumption | exact And.right (by k_extra "pj15")
  k_with "pj15" => first | assumption | exact And.right (by k_extra "pj16")
  k_with "pj16" => first | assumption | exact And.right (by k_extra "pj17")
  k_with "pj17" => first | assumption | exact And.right (by k_extra "pj18")
  k_with "pj18" => first | assumption | exact And.right (by k_extra "pj19")
  k_with "pj19" => first | assumption | exact And.right (by k_extra "pj20")
  k_with "pj20" => first | assumption | exact And.right (by k_extra "pj21")
  k_with "pj21" => first | assumption | exact And.right (by k_extra "pj22")
  k_with "pj22" => assumption
  k_with "ne9" => first | (refine Nat.ne_of_lt ?_; (first | assumption | exact And.left (by k_extra "pj0") | exact And.right (by k_extra "pj0"))) | (refine Nat.ne_of_gt ?_; (first | assumption | exact And.left (by k_extra "pj0") | exact And.right (by k_extra "pj0"))) | (first | assumption | exact And.left (by k_extra "pj0") | exact And.right (by k_extra "pj0")) | (refine Ne.symm ?_; (first | assumption | exact And.left (by k_extra "pj0") | exact And.right (by k_extra "pj0"))) | (refine pW ?_; (first | assumption | exact And.left (by k_extra "pj0") | exact And.right (by k_extra "pj0"))) | (refine pX ?_; (first | assumption | exact And.left (by k_extra "pj0") | exact And.right (by k_extra "pj0"))) | exact neT (by assumption) (by (first | assumption | exact And.left (by k_extra "pj0") | exact And.right (by k_extra "pj0")))
  k_with "ne" => (refine neN ?_; (try dsimp only); first | k_extra "ne9" | omega)
  k_with "omega" => first | with_reducible (first | (first | assumption | exact And.left (by k_extra "pj0") | exact And.right (by k_extra "pj0")) | exact oA (by assumption) | exact oB (by assumption) | exact oC (by assumption) | exact oD (by assumption) | exact oE (by assumption) (by assumption) | exact oF (by assumption) (by assumption) | exact oG (by assumption) (by assumption) | exact oH (by assumption) | exact oI (by assumption) | exact oJ (by assumption) | exact oK (by assumption) (by assumption) | exact oL (by assumption) (by assumption) | exact oM | exact oN (by assumption) | exact oO (by assumption) | exact idx1 (by assumption) (by assumption) | exact idx2 (by assumption) (by assumption) | exact oP (by assumption) (by assumption) | exact oQ | exact oR (by assumption) | exact oS (by assumption) | exact oT (by assumption) (by assumption) | exact oU (by assumption) (by assumption) | exact oV (by assumption) (by assumption) | exact oW (by assumption) | exact oX (by assumption) | exact oY (by assumption) | exact oZ (by assumption) (by assumption) | exact pA (by assumption) (by assumption) | exact pC (by assumption) | exact pB (by assumption) (by assumption) | exact pD (by assumption) | exact pE (by assumption) | exact pF (by assumption) | exact pG (by assumption) | exact pH (by assumption) | exact pI (by assumption) | exact pJ (by assumption) (by assumption) | exact pK (by assumption) | exact pL (by assumption) (by assumption) | exact pM | exact pN | exact pO (by assumption) | exact pP (by assumption) (by assumption) | exact pQ (by assumption) | exact pR (by assumption) | exact pS (by assumption) | exact pT (by assumption) | exact pU (by assumption) | exact pV (by assumption) | exact pY (by assumption) | exact oBad (by assumption) (by assumption) | exact oBad1 (by assumption) (by assumption) | exact qA (by assumption) | exact qB (by assumption) | exact qC (by assumption) | exact qD (by assumption) | exact qE (by assumption) | exact qF | exact qG (by assumption) (by assumption) | exact oT1 (by assumption) | exact oD1 (by assumption) | exact oD2 (by assumption)) | decide | ((first | (with_reducible show ¬ (_ = _)) | (with_reducible show @Ne Nat _ _)); k_extra "ne9")
  trivial
theorem int_join (P : Int → Prop) {M : Model} {A : Around} {t : Sem Value} {Q : Value → Shared → Prop} {E : Value → Shared → Prop} {h : Heap} {g : Array GenState} {d : Drawn} {n : Nat} {os : OsState}
    (hif : wpAny M A t (fun v s' => ∃ (i : Int) (tk k : Nat), v = .int i tk ∧ P i ∧ s' = ⟨h, g, d, k, os⟩) E ⟨h, g, d, n, os⟩) (hrest : ∀ (i : Int) (tk k : Nat), P i → Q (.int i tk) ⟨h, g, d, k, os⟩) : wpAny M A t Q E ⟨h, g, d, n, os⟩ :=
  wpAny_mono hif (fun v s' hq => by obtain ⟨i, tk, k, rfl, hp, rfl⟩ := hq; exact hrest i tk k hp) fun _ _ z => z
theorem val_join {α : Type} (v₀ : α) {M : Model} {A : Around} {t : Sem α} {Q : α → Shared → Prop} {E : Value → Shared → Prop} {h : Heap} {g : Array GenState} {d : Drawn} {n : Nat} {os : OsState}
    (hif : wpAny M A t (fun v s' => ∃ (k : Nat), v = v₀ ∧ s' = ⟨h, g, d, k, os⟩) E ⟨h, g, d, n, os⟩) (hrest : ∀ (k : Nat), Q v₀ ⟨h, g, d, k, os⟩) : wpAny M A t Q E ⟨h, g, d, n, os⟩ :=
  wpAny_mono hif (fun v s' hq => by obtain ⟨k, rfl, rfl⟩ := hq; exact hrest k) fun _ _ z => z
def Soft (k : Nat) (es : List DictEntry) : Prop := (es.any (·.refKey)) = false ∧ es.length ≤ k
theorem soft_nil : Soft 0 [] := ⟨rfl, Nat.le_refl _⟩
theorem soft_get {k : Nat} {es : List DictEntry} {name : Str} (S : Soft k es) : (getL name es).isSome = true := by
  unfold getL
  split
  · rfl
  · rw [S.1]; rfl
theorem soft_put {k : Nat} {es : List DictEntry} {name : Str} {hsh : Int} {t : Tok} {v : Value} (S : Soft k es) : Soft (k + 1) (putL name hsh (.str name t) v es) := by
  obtain ⟨h1, h2⟩ := S
  induction es generalizing k with
  | nil => exact ⟨rfl, by simp [putL]⟩
  | cons e r ih =>
    rw [List.any_cons, Bool.or_eq_false_iff] at h1
    rw [List.length_cons] at h2
    unfold putL
    split
    · refine ⟨?_, by rw [List.length_cons]; exact Nat.le_succ_of_le h2⟩
      rw [List.any_cons, Bool.or_eq_false_iff]
      exact ⟨h1.1, h1.2⟩
    · obtain ⟨i1, i2⟩ := ih (k := k - 1) h1.2 (Nat.le_sub_of_add_le h2)
      refine ⟨?_, by rw [List.length_cons]; exact Nat.succ_le_succ (Nat.le_trans i2 (Nat.le_of_eq (Nat.sub_add_cancel (Nat.le_trans (Nat.succ_le_succ (Nat.zero_le _)) h2))))⟩
      rw [List.any_cons, Bool.or_eq_false_iff]
      exact ⟨h1.1, i1⟩
theorem updF_upd {d : Addr} {o : Obj} {news : List (Addr × Obj)} {g : Obj → List (Addr × Obj)} (U : UpdF d o news g) (o' : Obj) : Upd d o o' news (g o') := by
  induction U with
  | head h => exact Upd.head h
  | tail h r ih => exact Upd.tail h ih
theorem set_soft {prog : Program} {w : World} {A : Around} {E : Value → Shared → Prop} {s : Shared} {K : Frag} {x C dx L : Addr} {h₀ : Heap} {m : Str → Option Value} {news : List (Addr × Obj)} {g : Obj → List (Addr × Obj)} {ox : Obj} {es : List DictEntry} {n k : Nat} {name : Str} {v : Value}
    {Q : Unit → Shared → Prop} (F : Fr h₀ L s.heap m) (X₀ : K.In h₀) (N : News h₀ L s.heap news) (I : InstAt s.heap x ox C (some (dictOf es n))) (hd : ox.dict = some dx)
    (hs : findIn K (.ref C) "__setattr__" = some (some (.builtin "object.__setattr__"))) (hp : plainOver K C = true) (ht : takerIn K C name = some none) (hh : hasDictIn K C = true) (S : Soft k es) (hk : k < 1000) (U : UpdF dx (dictOf es n) news g)
    (h : ∀ es' n' h' tk', Soft (k + 1) es' → Fr h₀ L h' m → News h₀ L h' (g (dictOf es' n')) → Q () { s with heap := h', toks := tk' }) :
    wpAny (model prog w) A (setAttr (.ref x) name v) Q E s :=
  set_dict F X₀ N I hd hs hp ht hh (soft_get S) rfl (updF_upd U _) (Nat.le_trans (soft_put S).2 hk) fun h' F' N' => h _ _ h' _ (soft_put S) F' N'
example : True := by
  k_with_none
  k_with "eval Dict" => (k_here; k_dflt ((refine' kdn_str ?_ ?_ ?_ ?_ ?_ ?_ ?_ ?_ ?_); (case refine'_5 => rfl); (case refine'_6 => k_asm); (case refine'_7 => k_asm); (case refine'_8 => exact Top.nolimit (by k_asm)); (case refine'_9 => rfl); (case refine'_10 => rfl); (case refine'_11 => exact List.cons_ne_nil _ _); (case refine'_12 => exact Nat.le_of_ble_eq_true rfl)); intro d' h' o' F' N' l1 lo' hd'; (try k_lt l1))
  k_with "enter" => (refine' code_def (by k_asm) (by k_asm) (by k_asm) (by k_asm) (by k_asm) (by exact rfl) (by exact rfl) (by assumption) (by k_is) (by k_is) (by k_room) (by first | exact BindsTo.of_eq rfl | exact binds_K (by k_in) rfl (by k_is) rfl rfl rfl | fail "k_enter: no rule for these arguments") (by exact locs rfl) ?_ (by exact rfl) (by exact rfl) (by exact rfl) (by decide); k_whole; intro g' L' h' FG' F' N' B' X' T'; (try dsimp only); (try k_lift B'); (try k_fold); (refine foldA ?_); intro A9; (refine foldV ?_); intro V9)
  k_with "room" => first | (refine' room_of (by assumption) (by ((try simp (config := { zetaDelta := true }) only [depth_under_make, depth_under_kw, depth_in1, depth_deeper, depth_caller]); (try dsimp (config := { zetaDelta := true }) only [ktrTop]); simp only [Nat.add_assoc, Nat.reduceAdd, Nat.add_le_add_iff_left, Nat.reduceLeDiff, Nat.le_add_right]))) | ktr_room
  k_with "units" => first | (refine' room_of (by assumption) (by ((try simp (config := { zetaDelta := true }) only [units_under_make, units_in1, units_deeper, Around.mark_units, units_caller]); (try dsimp (config := { zetaDelta := true }) only [ktrTop]); simp only [Nat.add_assoc, Nat.reduceAdd, Nat.add_le_add_iff_left, Nat.reduceLeDiff, Nat.le_add_right]))) | ktr_units
  k_with "room" => first | (refine' room_of (by assumption) (by ((try simp (config := { zetaDelta := true }) only [depth_under_make, depth_under_kw, depth_in1, depth_deeper, depth_caller]); (try dsimp (config := { zetaDelta := true }) only [ktrTop]); simp only [Nat.add_assoc, Nat.reduceAdd, Nat.add_le_add_iff_left, Nat.reduceLeDiff, Nat.le_add_right]))) | ktr_room
  k_with "units" => first | (refine' room_of (by assumption) (by ((try simp (config := { zetaDelta := true }) only [units_under_make, units_in1, units_deeper, Around.mark_units, units_caller]); (try dsimp (config := { zetaDelta := true }) only [ktrTop]); simp only [Nat.add_assoc, Nat.reduceAdd, Nat.add_le_add_iff_left, Nat.reduceLeDiff, Nat.le_add_right]))) | ktr_units
  k_with "pj0" => first | assumption | exact And.right (by k_extra "pj1")
  k_with "pj1" => first | assumption | exact And.right (by k_extra "pj2")
  k_with "pj2" => first | assumption | exact And.right (by k_extra "pj3")
  k_with "pj3" => first | assumption | exact And.right (by k_extra "pj4")
  k_with "pj4" => first | assumption | exact And.right (by k_extra "pj5")
  k_with "pj5" => first | assumption | exact And.right (by k_extra "pj6")
  k_with "pj6" => first | assumption | exact And.right (by k_extra "pj7")
  k_with "pj7" => first | assumption | exact And.right (by k_extra "pj8")
  k_with "pj8" => first | assumption | exact And.right (by k_extra "pj9")
  k_with "pj9" => first | assumption | exact And.right (by k_extra "pj10")
  k_with "pj10" => first | assumption | exact And.right (by k_extra "pj11")
  k_with "pj11" => first | assumption | exact And.right (by k_extra "pj12")
  k_with "pj12" => first | assumption | exact And.right (by k_extra "pj13")
  k_with "pj13" => first | assumption | exact And.right (by k_extra "pj14")
  k_with "pj14" => first | assumption | exact And.right (by k_extra "pj15")
  k_with "pj15" => first | assumption | exact And.right (by k_extra "pj16")
  k_with "pj16" => first | assumption | exact And.right (by k_extra "pj17")
  k_with "pj17" => first | assumption | exact And.right (by k_extra "pj18")
  k_with "pj18" => first | assumption | exact And.right (by k_extra "pj19")
  k_with "pj19" => first | assumption | exact And.right (by k_extra "pj20")
  k_with "pj20" => first | assumption | exact And.right (by k_extra "pj21")
  k_with "pj21" => first | assumption | exact And.right (by k_extra "pj22")
  k_with "pj22" => assumption
  k_with "ne9" => first | (refine Nat.ne_of_lt ?_; (first | assumption | exact And.left (by k_extra "pj0") | exact And.right (by k_extra "pj0"))) | (refine Nat.ne_of_gt ?_; (first | assumption | exact And.left (by k_extra "pj0") | exact And.right (by k_extra "pj0"))) | (first | assumption | exact And.left (by k_extra "pj0") | exact And.right (by k_extra "pj0")) | (refine Ne.symm ?_; (first | assumption | exact And.left (by k_extra "pj0") | exact And.right (by k_extra "pj0"))) | (refine pW ?_; (first | assumption | exact And.left (by k_extra "pj0") | exact And.right (by k_extra "pj0"))) | (refine pX ?_; (first | assumption | exact And.left (by k_extra "pj0") | exact And.right (by k_extra "pj0"))) | exact neT (by assumption) (by (first | assumption | exact And.left (by k_extra "pj0") | exact And.right (by k_extra "pj0")))
  k_with "ne" => (refine neN ?_; (try dsimp only); first | k_extra "ne9" | omega)
  k_with "omega" => first | with_reducible (first | (first | assumption | exact And.left (by k_extra "pj0") | exact And.right (by k_extra "pj0")) | exact oA (by assumption) | exact oB (by assumption) | exact oC (by assumption) | exact oD (by assumption) | exact oE (by assumption) (by assumption) | exact oF (by assumption) (by assumption) | exact oG (by assumption) (by assumption) | exact oH (by assumption) | exact oI (by assumption) | exact oJ (by assumption) | exact oK (by assumption) (by assumption) | exact oL (by assumption) (by assumption) | exact oM | exact oN (by assumption) | exact oO (by assumption) | exact idx1 (by assumption) (by assumption) | exact idx2 (by assumption) (by assumption) | exact oP (by assumption) (by assumption) | exact oQ | exact oR (by assumption) | exact oS (by assumption) | exact oT (by assumption) (by assumption) | exact oU (by assumption) (by assumption) | exact oV (by assumption) (by assumption) | exact oW (by assumption) | exact oX (by assumption) | exact oY (by assumption) | exact oZ (by assumption) (by assumption) | exact pA (by assumption) (by assumption) | exact pC (by assumption) | exact pB (by assumption) (by assumption) | exact pD (by assumption) | exact pE (by assumption) | exact pF (by assumption) | exact pG (by assumption) | exact pH (by assumption) | exact pI (by assumption) | exact pJ (by assumption) (by assumption) | exact pK (by assumption) | exact pL (by assumption) (by assumption) | exact pM | exact pN | exact pO (by assumption) | exact pP (by assumption) (by assumption) | exact pQ (by assumption) | exact pR (by assumption) | exact pS (by assumption) | exact pT (by assumption) | exact pU (by assumption) | exact pV (by assumption) | exact pY (by assumption) | exact oBad (by assumption) (by assumption) | exact oBad1 (by assumption) (by assumption) | exact qA (by assumption) | exact qB (by assumption) | exact qC (by assumption) | exact qD (by assumption) | exact qE (by assumption) | exact qF | exact qG (by assumption) (by assumption) | exact oT1 (by assumption) | exact oD1 (by assumption) | exact oD2 (by assumption)) | decide | ((first | (with_reducible show ¬ (_ = _)) | (with_reducible show @Ne Nat _ _)); k_extra "ne9")
  k_with "setAttr ref" => (k_here; k_dflt (refine' set_soft (by k_asm) (by k_asm) (by k_asm) (by k_inst) (by exact rfl) (by k_is) (by k_is) (by k_is) (by k_is) (by first | assumption | exact soft_nil) (by exact Nat.le_of_ble_eq_true rfl) (by k_updF) ?_; k_whole); intro es9 n9 h9 tk9 S9 F9 N9; (try dsimp only at N9); (try k_sweep))
  trivial
theorem tup_soft {prog : Program} {w : World} {A : Around} {E : Value → Shared → Prop} {s : Shared} {L : Addr} {h₀ : Heap} {m : Str → Option Value} {news : List (Addr × Obj)} {vs : List Value} {Q : Value → Shared → Prop} (F : Fr h₀ L s.heap m) (N : News h₀ L s.heap news) (hz : vs.length ≤ sizeLine)
    (h : ∀ D h', Fr h₀ L h' m → News h₀ L h' news → Q (.ref D) { s with heap := h' }) : wpAny (model prog w) A (newTuple vs) Q E s :=
  kup_newTuple F N (fun D h' F' N' _ => h D h' F' (kst_newsOf N' fun p hp => List.mem_cons_of_mem _ hp)) hz
theorem stmt_soft {prog : Program} {w : World} {A : Around} {E : Value → Shared → Prop} {s : Shared} {K : Frag} {y C dx L a : Addr} {h₀ : Heap} {m : Str → Option Value} {news : List (Addr × Obj)} {g : Obj → List (Addr × Obj)} {ox : Obj} {es : List DictEntry} {n k : Nat} {x attr cn : Str} {cs : Scope} {ccd : Value} {cl : List (Str × Addr)} {value : PySem.Expr} {p1 p2 p4 : Pos}
    {Q : Flow → Shared → Prop} (hval : ∀ Q' : Value → Shared → Prop, (∀ v tk, Q' v { s with toks := tk }) → wpAny (model prog w) A (eval value (envX cn cs L a ccd cl)) Q' E s) (F : Fr h₀ L s.heap m) (hv : m x = some (.ref y)) (X₀ : K.In h₀) (N : News h₀ L s.heap news) (I : InstAt s.heap y ox C (some (dictOf es n))) (hd : ox.dict = some dx)
    (hs : findIn K (.ref C) "__setattr__" = some (some (.builtin "object.__setattr__"))) (hp : plainOver K C = true) (ht : takerIn K C attr = some none) (hh : hasDictIn K C = true) (S : Soft k es) (hk : k < 1000) (U : UpdF dx (dictOf es n) news g)
    (hsw : swapsWith value (some (.Attribute (.Name x p1) attr p2)) p4.line (envX cn cs L a ccd cl) = pure false) (hkk : cs.kind = .function) (hx : (envX cn cs L a ccd cl).kindOf x = some .local) (hdb : (x == ("__debug__" : Str)) = false)
    (h : ∀ es' n' h' tk', Soft (k + 1) es' → Fr h₀ L h' m → News h₀ L h' (g (dictOf es' n')) → Q .next { s with heap := h', toks := tk' }) :
    wpAny (model prog w) A (exec (.Assign [.Attribute (.Name x p1) attr p2] value p4) (envX cn cs L a ccd cl)) Q E s :=
  plainObj_wpAny_Assign_Attribute (hval _ fun v tk => nameX_L (s := { s with toks := tk }) F hv (set_soft (s := { s with toks := tk }) F X₀ N I hd hs hp ht hh S hk U h) hkk hx hdb) hsw
theorem tup3_keep {prog : Program} {w : World} {A : Around} {E : Value → Shared → Prop} {s : Shared} {L : Addr} {h₀ : Heap} {m : Str → Option Value} {news : List (Addr × Obj)} {env : Env} {n1 n2 n3 : Int} {k1 k2 k3 k4 : Nat} {p1 p2 p3 p4 : Pos} {Q : Value → Shared → Prop} (F : Fr h₀ L s.heap m) (N : News h₀ L s.heap news)
    (h : ∀ (D : Addr) (t1 t2 t3 : Tok) h' tk', Fr h₀ L h' m → News h₀ L h' ((D, ({ cls := .type "tuple", data := .seq #[.int n1 t1, .int n2 t2, .int n3 t3] } : Obj)) :: news) → (∀ p ∈ news, p.1 < D) → Q (.ref D) { s with heap := h', toks := tk' }) :
    wpAny (model prog w) A (eval (.Tuple [.Constant (.int n1) k1 p1, .Constant (.int n2) k2 p2, .Constant (.int n3) k3 p3] k4 p4) env) Q E s := by
  have hMk := kstMark
  k_steps
  exact h _ _ _ _ _ _ (by assumption) (by assumption) (fun p hp => Heap.lt_size (N p hp).1)
theorem tup3_soft {prog : Program} {w : World} {A : Around} {E : Value → Shared → Prop} {s : Shared} {L : Addr} {h₀ : Heap} {m : Str → Option Value} {news : List (Addr × Obj)} {env : Env} {n1 n2 n3 : Int} {k1 k2 k3 k4 : Nat} {p1 p2 p3 p4 : Pos} {Q : Value → Shared → Prop} (F : Fr h₀ L s.heap m) (N : News h₀ L s.heap news)
    (h : ∀ (D : Addr) h' tk', Fr h₀ L h' m → News h₀ L h' news → Q (.ref D) { s with heap := h', toks := tk' }) :
    wpAny (model prog w) A (eval (.Tuple [.Constant (.int n1) k1 p1, .Constant (.int n2) k2 p2, .Constant (.int n3) k3 p3] k4 p4) env) Q E s :=
  tup3_keep F N fun D _ _ _ h' tk' F' N' _ => h D h' tk' F' (kst_newsOf N' fun p hp => List.mem_cons_of_mem _ hp)
example : True := by
  k_with_none
  k_with "eval Dict" => (k_here; k_dflt ((refine' kdn_str ?_ ?_ ?_ ?_ ?_ ?_ ?_ ?_ ?_); (case refine'_5 => rfl); (case refine'_6 => k_asm); (case refine'_7 => k_asm); (case refine'_8 => exact Top.nolimit (by k_asm)); (case refine'_9 => rfl); (case refine'_10 => rfl); (case refine'_11 => exact List.cons_ne_nil _ _); (case refine'_12 => exact Nat.le_of_ble_eq_true rfl)); intro d' h' o' F' N' l1 lo' hd'; (try k_lt l1))
  k_with "enter" => (refine' code_def (by k_asm) (by k_asm) (by k_asm) (by k_asm) (by k_asm) (by exact rfl) (by exact rfl) (by assumption) (by k_is) (by k_is) (by k_room) (by first | exact BindsTo.of_eq rfl | exact binds_K (by k_in) rfl (by k_is) rfl rfl rfl | fail "k_enter: no rule for these arguments") (by exact locs rfl) ?_ (by exact rfl) (by exact rfl) (by exact rfl) (by decide); k_whole; intro g' L' h' FG' F' N' B' X' T'; (try dsimp only); (try k_lift B'); (try k_fold); (refine foldA ?_); intro A9; (refine foldV ?_); intro V9)
  k_with "room" => first | (refine' room_of (by assumption) (by ((try simp (config := { zetaDelta := true }) only [depth_under_make, depth_under_kw, depth_in1, depth_deeper, depth_caller]); (try dsimp (config := { zetaDelta := true }) only [ktrTop]); simp only [Nat.add_assoc, Nat.reduceAdd, Nat.add_le_add_iff_left, Nat.reduceLeDiff, Nat.le_add_right]))) | ktr_room
  k_with "units" => first | (refine' room_of (by assumption) (by ((try simp (config := { zetaDelta := true }) only [units_under_make, units_in1, units_deeper, Around.mark_units, units_caller]); (try dsimp (config := { zetaDelta := true }) only [ktrTop]); simp only [Nat.add_assoc, Nat.reduceAdd, Nat.add_le_add_iff_left, Nat.reduceLeDiff, Nat.le_add_right]))) | ktr_units
  k_with "room" => first | (refine' room_of (by assumption) (by ((try simp (config := { zetaDelta := true }) only [depth_under_make, depth_under_kw, depth_in1, depth_deeper, depth_caller]); (try dsimp (config := { zetaDelta := true }) only [ktrTop]); simp only [Nat.add_assoc, Nat.reduceAdd, Nat.add_le_add_iff_left, Nat.reduceLeDiff, Nat.le_add_right]))) | ktr_room
  k_with "units" => first | (refine' room_of (by assumption) (by ((try simp (config := { zetaDelta := true }) only [units_under_make, units_in1, units_deeper, Around.mark_units, units_caller]); (try dsimp (config := { zetaDelta := true }) only [ktrTop]); simp only [Nat.add_assoc, Nat.reduceAdd, Nat.add_le_add_iff_left, Nat.reduceLeDiff, Nat.le_add_right]))) | ktr_units
  k_with "pj0" => first | assumption | exact And.right (by k_extra "pj1")
  k_with "pj1" => first | assumption | exact And.right (by k_extra "pj2")
  k_with "pj2" => first | assumption | exact And.right (by k_extra "pj3")
  k_with "pj3" => first | assumption | exact And.right (by k_extra "pj4")
  k_with "pj4" => first | assumption | exact And.right (by k_extra "pj5")
  k_with "pj5" => first | assumption | exact And.right (by k_extra "pj6")
  k_with "pj6" => first | assumption | exact And.right (by k_extra "pj7")
  k_with "pj7" => first | assumption | exact And.right (by k_extra "pj8")
  k_with "pj8" => first | assumption | exact And.right (by k_extra "pj9")
  k_with "pj9" => first | assumption | exact And.right (by k_extra "pj10")
  k_with "pj10" => first | assumption | exact And.right (by k_extra "pj11")
  k_with "pj11" => first | assumption | exact And.right (by k_extra "pj12")
  k_with "pj12" => first | assumption | exact And.right (by k_extra "pj13")
  k_with "pj13" => first | assumption | exact And.right (by k_extra "pj14")
  k_with "pj14" => first | assumption | exact And.right (by k_extra "pj15")
  k_with "pj15" => first | assumption | exact And.right (by k_extra "pj16")
  k_with "pj16" => first | assumption | exact And.right (by k_extra "pj17")
  k_with "pj17" => first | assumption | exact And.right (by k_extra "pj18")
  k_with "pj18" => first | assumption | exact And.right (by k_extra "pj19")
  k_with "pj19" => first | assumption | exact And.right (by k_extra "pj20")
  k_with "pj20" => first | assumption | exact And.right (by k_extra "pj21")
  k_with "pj21" => first | assumption | exact And.right (by k_extra "pj22")
  k_with "pj22" => assumption
  k_with "ne9" => first | (refine Nat.ne_of_lt ?_; (first | assumption | exact And.left (by k_extra "pj0") | exact And.right (by k_extra "pj0"))) | (refine Nat.ne_of_gt ?_; (first | assumption | exact And.left (by k_extra "pj0") | exact And.right (by k_extra "pj0"))) | (first | assumption | exact And.left (by k_extra "pj0") | exact And.right (by k_extra "pj0")) | (refine Ne.symm ?_; (first | assumption | exact And.left (by k_extra "pj0") | exact And.right (by k_extra "pj0"))) | (refine pW ?_; (first | assumption | exact And.left (by k_extra "pj0") | exact And.right (by k_extra "pj0"))) | (refine pX ?_; (first | assumption | exact And.left (by k_extra "pj0") | exact And.right (by k_extra "pj0"))) | exact neT (by assumption) (by (first | assumption | exact And.left (by k_extra "pj0") | exact And.right (by k_extra "pj0")))
  k_with "ne" => (refine neN ?_; (try dsimp only); first | k_extra "ne9" | omega)
  k_with "omega" => first | with_reducible (first | (first | assumption | exact And.left (by k_extra "pj0") | exact And.right (by k_extra "pj0")) | exact oA (by assumption) | exact oB (by assumption) | exact oC (by assumption) | exact oD (by assumption) | exact oE (by assumption) (by assumption) | exact oF (by assumption) (by assumption) | exact oG (by assumption) (by assumption) | exact oH (by assumption) | exact oI (by assumption) | exact oJ (by assumption) | exact oK (by assumption) (by assumption) | exact oL (by assumption) (by assumption) | exact oM | exact oN (by assumption) | exact oO (by assumption) | exact idx1 (by assumption) (by assumption) | exact idx2 (by assumption) (by assumption) | exact oP (by assumption) (by assumption) | exact oQ | exact oR (by assumption) | exact oS (by assumption) | exact oT (by assumption) (by assumption) | exact oU (by assumption) (by assumption) | exact oV (by assumption) (by assumption) | exact oW (by assumption) | exact oX (by assumption) | exact oY (by assumption) | exact oZ (by assumption) (by assumption) | exact pA (by assumption) (by assumption) | exact pC (by assumption) | exact pB (by assumption) (by assumption) | exact pD (by assumption) | exact pE (by assumption) | exact pF (by assumption) | exact pG (by assumption) | exact pH (by assumption) | exact pI (by assumption) | exact pJ (by assumption) (by assumption) | exact pK (by assumption) | exact pL (by assumption) (by assumption) | exact pM | exact pN | exact pO (by assumption) | exact pP (by assumption) (by assumption) | exact pQ (by assumption) | exact pR (by assumption) | exact pS (by assumption) | exact pT (by assumption) | exact pU (by assumption) | exact pV (by assumption) | exact pY (by assumption) | exact oBad (by assumption) (by assumption) | exact oBad1 (by assumption) (by assumption) | exact qA (by assumption) | exact qB (by assumption) | exact qC (by assumption) | exact qD (by assumption) | exact qE (by assumption) | exact qF | exact qG (by assumption) (by assumption) | exact oT1 (by assumption) | exact oD1 (by assumption) | exact oD2 (by assumption)) | decide | ((first | (with_reducible show ¬ (_ = _)) | (with_reducible show @Ne Nat _ _)); k_extra "ne9")
  k_with "setAttr ref" => (k_here; k_dflt (refine' set_soft (by k_asm) (by k_asm) (by k_asm) (by k_inst) (by exact rfl) (by k_is) (by k_is) (by k_is) (by k_is) (by first | assumption | exact soft_nil) (by exact Nat.le_of_ble_eq_true rfl) (by k_updF) ?_; k_whole); intro es9 n9 h9 tk9 S9 F9 N9; (try dsimp only at N9); (try k_sweep))
  k_with "enter" => (refine' code_def (by k_asm) (by k_asm) (by k_asm) (by k_asm) (by k_asm) (by exact rfl) (by exact rfl) (by assumption) (by k_is) (by k_is) (by k_room) (by first | exact BindsTo.of_eq rfl | exact binds_K (by k_in) rfl (by k_is) rfl rfl rfl | fail "k_enter: no rule for these arguments") (by exact locs rfl) ?_ (by exact rfl) (by exact rfl) (by exact rfl) (by decide); k_whole; intro g' L' h' FG' F' N' B' X' T'; (try dsimp only); (try k_lift B'); (try k_fold))
  k_with "eval Tuple" => (k_here; (with_reducible show wpAny _ _ (eval (PySem.Expr.Tuple [PySem.Expr.Constant (Const.int 64) _ _, PySem.Expr.Constant (Const.int 0) _ _, PySem.Expr.Constant (Const.int 32) _ _] _ _) _) _ _ _); k_dflt ((refine' tup3_keep ?_ ?_ ?_); (case refine'_5 => k_asm); (case refine'_6 => k_asm)); intro D9 t1 t2 t3 h9 tk9 F9 N9 l9; (try k_lt l9); (try k_sweep))
  k_with "eval Tuple" => (k_here; (fail_if_success (with_reducible show wpAny _ _ (eval (PySem.Expr.Tuple [PySem.Expr.Constant (Const.int 64) _ _, PySem.Expr.Constant (Const.int 0) _ _, PySem.Expr.Constant (Const.int 32) _ _] _ _) _) _ _ _)); k_dflt ((refine' tup3_soft ?_ ?_ ?_); (case refine'_5 => k_asm); (case refine'_6 => k_asm)); intro D9 h9 tk9 F9 N9)
  trivial
theorem named_ok {w : World} {mg mb : Str → Option Value} {mean : ExcName → Option Value} {loose : List Str} {dp un : Nat} {gd : Option (List Code)} {cn : Str} {cs : Scope} {a : Addr} {ccd : Value} {cl : List (Str × Addr)} {outer : List Env} {A₀ : Around} {base h₀ : Heap} {L : Addr} {m : Str → Option Value} {s : Shared} {Q E : Value → Shared → Prop} {rest : List (Addr × Obj)} {t0 : Tok}
    (B : Below A₀ base outer h₀) (F : Fr h₀ L s.heap m) (X : (hd.heap_39 w.params).In h₀) (N : News h₀ L s.heap rest) (T : Top hd.view_39 loose mean mg mb h₀) (hk : cs.kind = .function) (hroom : dp + 6 < recursionLimit) (hunits : un + 30 < cLine)
    (hret : ∀ (r : Addr) h' tk', Fr h₀ L h' m → News h₀ L h' rest → Q (.ref r) { s with heap := h', toks := tk' }) :
    wpAny (model PP w) (ktrTop dp un gd cn cs L a ccd cl outer) (call (.ref 100) [.str (Str.ofString "grid") t0]) Q E s := by
  have hMk := kstMark
  k_steps
  rename News _ _ _ _ => nE
  exact hret _ _ _ (by assumption) (kst_newsOf nE fun p hp => by repeat (first | exact hp | refine List.mem_cons_of_mem _ ?_))
example : True := by
  k_with_none
  k_with "eval Dict" => (k_here; k_dflt ((refine' kdn_str ?_ ?_ ?_ ?_ ?_ ?_ ?_ ?_ ?_); (case refine'_5 => rfl); (case refine'_6 => k_asm); (case refine'_7 => k_asm); (case refine'_8 => exact Top.nolimit (by k_asm)); (case refine'_9 => rfl); (case refine'_10 => rfl); (case refine'_11 => exact List.cons_ne_nil _ _); (case refine'_12 => exact Nat.le_of_ble_eq_true rfl)); intro d' h' o' F' N' l1 lo' hd'; (try k_lt l1))
  k_with "enter" => (refine' code_def (by k_asm) (by k_asm) (by k_asm) (by k_asm) (by k_asm) (by exact rfl) (by exact rfl) (by assumption) (by k_is) (by k_is) (by k_room) (by first | exact BindsTo.of_eq rfl | exact binds_K (by k_in) rfl (by k_is) rfl rfl rfl | fail "k_enter: no rule for these arguments") (by exact locs rfl) ?_ (by exact rfl) (by exact rfl) (by exact rfl) (by decide); k_whole; intro g' L' h' FG' F' N' B' X' T'; (try dsimp only); (try k_lift B'); (try k_fold); (refine foldA ?_); intro A9; (refine foldV ?_); intro V9)
  k_with "room" => first | (refine' room_of (by assumption) (by ((try simp (config := { zetaDelta := true }) only [depth_under_make, depth_under_kw, depth_in1, depth_deeper, depth_caller]); (try dsimp (config := { zetaDelta := true }) only [ktrTop]); simp only [Nat.add_assoc, Nat.reduceAdd, Nat.add_le_add_iff_left, Nat.reduceLeDiff, Nat.le_add_right]))) | ktr_room
  k_with "units" => first | (refine' room_of (by assumption) (by ((try simp (config := { zetaDelta := true }) only [units_under_make, units_in1, units_deeper, Around.mark_units, units_caller]); (try dsimp (config := { zetaDelta := true }) only [ktrTop]); simp only [Nat.add_assoc, Nat.reduceAdd, Nat.add_le_add_iff_left, Nat.reduceLeDiff, Nat.le_add_right]))) | ktr_units
  k_with "room" => first | (refine' room_of (by assumption) (by ((try simp (config := { zetaDelta := true }) only [depth_under_make, depth_under_kw, depth_in1, depth_deeper, depth_caller]); (try dsimp (config := { zetaDelta := true }) only [ktrTop]); simp only [Nat.add_assoc, Nat.reduceAdd, Nat.add_le_add_iff_left, Nat.reduceLeDiff, Nat.le_add_right]))) | ktr_room
  k_with "units" => first | (refine' room_of (by assumption) (by ((try simp (config := { zetaDelta := true }) only [units_under_make, units_in1, units_deeper, Around.mark_units, units_caller]); (try dsimp (config := { zetaDelta := true }) only [ktrTop]); simp only [Nat.add_assoc, Nat.reduceAdd, Nat.add_le_add_iff_left, Nat.reduceLeDiff, Nat.le_add_right]))) | ktr_units
  k_with "pj0" => first | assumption | exact And.right (by k_extra "pj1")
  k_with "pj1" => first | assumption | exact And.right (by k_extra "pj2")
  k_with "pj2" => first | assumption | exact And.right (by k_extra "pj3")
  k_with "pj3" => first | assumption | exact And.right (by k_extra "pj4")
  k_with "pj4" => first | assumption | exact And.right (by k_extra "pj5")
  k_with "pj5" => first | assumption | exact And.right (by k_extra "pj6")
  k_with "pj6" => first | assumption | exact And.right (by k_extra "pj7")
  k_with "pj7" => first | assumption | exact And.right (by k_extra "pj8")
  k_with "pj8" => first | assumption | exact And.right (by k_extra "pj9")
  k_with "pj9" => first | assumption | exact And.right (by k_extra "pj10")
  k_with "pj10" => first | assumption | exact And.right (by k_extra "pj11")
  k_with "pj11" => first | assumption | exact And.right (by k_extra "pj12")
  k_with "pj12" => first | assumption | exact And.right (by k_extra "pj13")
  k_with "pj13" => first | assumption | exact And.right (by k_extra "pj14")
  k_with "pj14" => first | assumption | exact And.right (by k_extra "pj15")
  k_with "pj15" => first | assumption | exact And.right (by k_extra "pj16")
  k_with "pj16" => first | assumption | exact And.right (by k_extra "pj17")
  k_with "pj17" => first | assumption | exact And.right (by k_extra "pj18")
  k_with "pj18" => first | assumption | exact And.right (by k_extra "pj19")
  k_with "pj19" => first | assumption | exact And.right (by k_extra "pj20")
  k_with "pj20" => first | assumption | exact And.right (by k_extra "pj21")
  k_with "pj21" => first | assumption | exact And.right (by k_extra "pj22")
  k_with "pj22" => assumption
  k_with "ne9" => first | (refine Nat.ne_of_lt ?_; (first | assumption | exact And.left (by k_extra "pj0") | exact And.right (by k_extra "pj0"))) | (refine Nat.ne_of_gt ?_; (first | assumption | exact And.left (by k_extra "pj0") | exact And.right (by k_extra "pj0"))) | (first | assumption | exact And.left (by k_extra "pj0") | exact And.right (by k_extra "pj0")) | (refine Ne.symm ?_; (first | assumption | exact And.left (by k_extra "pj0") | exact And.right (by k_extra "pj0"))) | (refine pW ?_; (first | assumption | exact And.left (by k_extra "pj0") | exact And.right (by k_extra "pj0"))) | (refine pX ?_; (first | assumption | exact And.left (by k_extra "pj0") | exact And.right (by k_extra "pj0"))) | exact neT (by assumption) (by (first | assumption | exact And.left (by k_extra "pj0") | exact And.right (by k_extra "pj0")))
  k_with "ne" => (refine neN ?_; (try dsimp only); first | k_extra "ne9" | omega)
  k_with "omega" => first | with_reducible (first | (first | assumption | exact And.left (by k_extra "pj0") | exact And.right (by k_extra "pj0")) | exact oA (by assumption) | exact oB (by assumption) | exact oC (by assumption) | exact oD (by assumption) | exact oE (by assumption) (by assumption) | exact oF (by assumption) (by assumption) | exact oG (by assumption) (by assumption) | exact oH (by assumption) | exact oI (by assumption) | exact oJ (by assumption) | exact oK (by assumption) (by assumption) | exact oL (by assumption) (by assumption) | exact oM | exact oN (by assumption) | exact oO (by assumption) | exact idx1 (by assumption) (by assumption) | exact idx2 (by assumption) (by assumption) | exact oP (by assumption) (by assumption) | exact oQ | exact oR (by assumption) | exact oS (by assumption) | exact oT (by assumption) (by assumption) | exact oU (by assumption) (by assumption) | exact oV (by assumption) (by assumption) | exact oW (by assumption) | exact oX (by assumption) | exact oY (by assumption) | exact oZ (by assumption) (by assumption) | exact pA (by assumption) (by assumption) | exact pC (by assumption) | exact pB (by assumption) (by assumption) | exact pD (by assumption) | exact pE (by assumption) | exact pF (by assumption) | exact pG (by assumption) | exact pH (by assumption) | exact pI (by assumption) | exact pJ (by assumption) (by assumption) | exact pK (by assumption) | exact pL (by assumption) (by assumption) | exact pM | exact pN | exact pO (by assumption) | exact pP (by assumption) (by assumption) | exact pQ (by assumption) | exact pR (by assumption) | exact pS (by assumption) | exact pT (by assumption) | exact pU (by assumption) | exact pV (by assumption) | exact pY (by assumption) | exact oBad (by assumption) (by assumption) | exact oBad1 (by assumption) (by assumption) | exact qA (by assumption) | exact qB (by assumption) | exact qC (by assumption) | exact qD (by assumption) | exact qE (by assumption) | exact qF | exact qG (by assumption) (by assumption) | exact oT1 (by assumption) | exact oD1 (by assumption) | exact oD2 (by assumption)) | decide | ((first | (with_reducible show ¬ (_ = _)) | (with_reducible show @Ne Nat _ _)); k_extra "ne9")
  k_with "setAttr ref" => (k_here; k_dflt (refine' set_soft (by k_asm) (by k_asm) (by k_asm) (by k_inst) (by exact rfl) (by k_is) (by k_is) (by k_is) (by k_is) (by first | assumption | exact soft_nil) (by exact Nat.le_of_ble_eq_true rfl) (by k_updF) ?_; k_whole); intro es9 n9 h9 tk9 S9 F9 N9; (try dsimp only at N9); (try k_sweep))
  k_with "enter" => (refine' code_def (by k_asm) (by k_asm) (by k_asm) (by k_asm) (by k_asm) (by exact rfl) (by exact rfl) (by assumption) (by k_is) (by k_is) (by k_room) (by first | exact BindsTo.of_eq rfl | exact binds_K (by k_in) rfl (by k_is) rfl rfl rfl | fail "k_enter: no rule for these arguments") (by exact locs rfl) ?_ (by exact rfl) (by exact rfl) (by exact rfl) (by decide); k_whole; intro g' L' h' FG' F' N' B' X' T'; (try dsimp only); (try k_lift B'); (try k_fold))
  k_with "eval Tuple" => (k_here; (with_reducible show wpAny _ _ (eval (PySem.Expr.Tuple [PySem.Expr.Constant (Const.int 64) _ _, PySem.Expr.Constant (Const.int 0) _ _, PySem.Expr.Constant (Const.int 32) _ _] _ _) _) _ _ _); k_dflt ((refine' tup3_keep ?_ ?_ ?_); (case refine'_5 => k_asm); (case refine'_6 => k_asm)); intro D9 t1 t2 t3 h9 tk9 F9 N9 l9; (try k_lt l9); (try k_sweep))
  k_with "eval Tuple" => (k_here; (fail_if_success (with_reducible show wpAny _ _ (eval (PySem.Expr.Tuple [PySem.Expr.Constant (Const.int 64) _ _, PySem.Expr.Constant (Const.int 0) _ _, PySem.Expr.Constant (Const.int 32) _ _] _ _) _) _ _ _)); k_dflt ((refine' tup3_soft ?_ ?_ ?_); (case refine'_5 => k_asm); (case refine'_6 => k_asm)); intro D9 h9 tk9 F9 N9)
  k_with "call ref" => (k_here; (with_reducible show wpAny _ _ (call (Value.ref 100) _) _ _ _); k_dflt (refine' named_ok (by k_asm) (by k_asm) (by k_asm) (by k_asm) (by k_asm) (by first | exact rfl | assumption) (by k_extra "room") (by k_extra "units") ?_; k_whole); intro r9 h9 tk9 F9 N9; (try k_sweep); (try k_fold))
  k_with "newTuple" => (k_here; (fail_if_success (with_reducible show wpAny _ _ (newTuple [Value.int 64 _, Value.int 0 _, Value.int 32 _]) _ _ _)); k_dflt (refine' tup_soft (by k_asm) (by k_asm) (by kmk_size) ?_); intro D9 h9 F9 N9)
  k_with "exec Assign" => (k_here; (with_reducible show wpAny _ _ (exec (Stmt.Assign [PySem.Expr.Attribute (PySem.Expr.Name _ _) _ _] _ _) _) _ _ _); k_dflt (refine' stmt_soft (by first | exact fun Q' h => nameX_L (by k_asm) (by exact rfl) (h _ _) | exact fun Q' h => wpAny_Constant_int (h _ _) | exact fun Q' h => Constant_bool (h _ _) | exact fun Q' h => Constant_str (h _ _)) (by k_asm) (by exact rfl) (by k_asm) (by k_asm) (by k_inst) (by exact rfl) (by k_is) (by k_is) (by k_is) (by k_is) (by first | assumption | exact soft_nil) (by exact Nat.le_of_ble_eq_true rfl) (by k_updF) (by exact rfl) (by exact rfl) (by exact rfl) (by decide) ?_; k_whole); intro es9 n9 h9 tk9 S9 F9 N9; (try dsimp only at N9); (try k_sweep))
  trivial
theorem state_ok {w : World} {mg mb : Str → Option Value} {mean : ExcName → Option Value} {loose : List Str} {dp un : Nat} {gd : Option (List Code)} {cn : Str} {cs : Scope} {a : Addr} {ccd : Value} {cl : List (Str × Addr)} {outer : List Env} {A₀ : Around} {base h₀ : Heap} {L : Addr} {m : Str → Option Value} {s : Shared} {Q E : Value → Shared → Prop} {rest : List (Addr × Obj)}
    (B : Below A₀ base outer h₀) (F : Fr h₀ L s.heap m) (X : (hd.heap_39 w.params).In h₀) (N : News h₀ L s.heap rest) (T : Top hd.view_39 loose mean mg mb h₀) (hk : cs.kind = .function) (hroom : dp + 9 < recursionLimit) (hunits : un + 45 < cLine)
    (hret : ∀ (r : Addr) h' tk', Fr h₀ L h' m → News h₀ L h' rest → Q (.ref r) { s with heap := h', toks := tk' }) :
    wpAny (model PP w) (ktrTop dp un gd cn cs L a ccd cl outer) (call (.ref 145) []) Q E s := by
  have hMk := kstMark
  k_steps
  rename News _ _ _ _ => nE
  exact hret _ _ _ (by assumption) (kst_newsOf nE fun p hp => by repeat (first | exact hp | refine List.mem_cons_of_mem _ ?_))
end
section
section
example : True := by
  k_with_none
  k_with "eval Dict" => (k_here; k_dflt ((refine' kdn_str ?_ ?_ ?_ ?_ ?_ ?_ ?_ ?_ ?_); (case refine'_5 => rfl); (case refine'_6 => k_asm); (case refine'_7 => k_asm); (case refine'_8 => exact Top.nolimit (by k_asm)); (case refine'_9 => rfl); (case refine'_10 => rfl); (case refine'_11 => exact List.cons_ne_nil _ _); (case refine'_12 => exact Nat.le_of_ble_eq_true rfl)); intro d' h' o' F' N' l1 lo' hd'; (try k_lt l1))
  k_with "enter" => (refine' code_def (by k_asm) (by k_asm) (by k_asm) (by k_asm) (by k_asm) (by exact rfl) (by exact rfl) (by assumption) (by k_is) (by k_is) (by k_room) (by first | exact BindsTo.of_eq rfl | exact binds_K (by k_in) rfl (by k_is) rfl rfl rfl | fail "k_enter: no rule for these arguments") (by exact locs rfl) ?_ (by exact rfl) (by exact rfl) (by exact rfl) (by decide); k_whole; intro g' L' h' FG' F' N' B' X' T'; (try dsimp only); (try k_lift B'); (try k_fold); (refine foldA ?_); intro A9; (refine foldV ?_); intro V9)
  k_with "room" => first | (refine' room_of (by assumption) (by ((try simp (config := { zetaDelta := true }) only [depth_under_make, depth_under_kw, depth_in1, depth_deeper, depth_caller]); (try dsimp (config := { zetaDelta := true }) only [ktrTop]); simp only [Nat.add_assoc, Nat.reduceAdd, Nat.add_le_add_iff_left, Nat.reduceLeDiff, Nat.le_add_right]))) | ktr_room
  k_with "units" => first | (refine' room_of (by assumption) (by ((try simp (config := { zetaDelta := true }) only [units_under_make, units_in1, units_deeper, Around.mark_units, units_caller]); (try dsimp (config := { zetaDelta := true }) only [ktrTop]); simp only [Nat.add_assoc, Nat.reduceAdd, Nat.add_le_add_iff_left, Nat.reduceLeDiff, Nat.le_add_right]))) | ktr_units
  k_with "pj0" => first | assumption | exact And.right (by k_extra "pj1")
  k_with "pj1" => first | assumption | exact And.right (by k_extra "pj2")
  k_with "pj2" => first | assumption | exact And.right (by k_extra "pj3")
  k_with "pj3" => first | assumption | exact And.right (by k_extra "pj4")
  k_with "pj4" => first | assumption | exact And.right (by k_extra "pj5")
  k_with "pj5" => first | assumption | exact And.right (by k_extra "pj6")
  k_with "pj6" => first | assumption | exact And.right (by k_extra "pj7")
  k_with "pj7" => first | assumption | exact And.right (by k_extra "pj8")
  k_with "pj8" => first | assumption | exact And.right (by k_extra "pj9")
  k_with "pj9" => first | assumption | exact And.right (by k_extra "pj10")
  k_with "pj10" => first | assumption | exact And.right (by k_extra "pj11")
  k_with "pj11" => first | assumption | exact And.right (by k_extra "pj12")
  k_with "pj12" => first | assumption | exact And.right (by k_extra "pj13")
  k_with "pj13" => first | assumption | exact And.right (by k_extra "pj14")
  k_with "pj14" => first | assumption | exact And.right (by k_extra "pj15")
  k_with "pj15" => first | assumption | exact And.right (by k_extra "pj16")
  k_with "pj16" => first | assumption | exact And.right (by k_extra "pj17")
  k_with "pj17" => first | assumption | exact And.right (by k_extra "pj18")
  k_with "pj18" => first | assumption | exact And.right (by k_extra "pj19")
  k_with "pj19" => first | assumption | exact And.right (by k_extra "pj20")
  k_with "pj20" => first | assumption | exact And.right (by k_extra "pj21")
  k_with "pj21" => first | assumption | exact And.right (by k_extra "pj22")
  k_with "pj22" => assumption
  k_with "ne9" => first | (refine Nat.ne_of_lt ?_; (first | assumption | exact And.left (by k_extra "pj0") | exact And.right (by k_extra "pj0"))) | (refine Nat.ne_of_gt ?_; (first | assumption | exact And.left (by k_extra "pj0") | exact And.right (by k_extra "pj0"))) | (first | assumption | exact And.left (by k_extra "pj0") | exact And.right (by k_extra "pj0")) | (refine Ne.symm ?_; (first | assumption | exact And.left (by k_extra "pj0") | exact And.right (by k_extra "pj0"))) | (refine pW ?_; (first | assumption | exact And.left (by k_extra "pj0") | exact And.right (by k_extra "pj0"))) | (refine pX ?_; (first | assumption | exact And.left (by k_extra "pj0") | exact And.right (by k_extra "pj0"))) | exact neT (by assumption) (by (first | assumption | exact And.left (by k_extra "pj0") | exact And.right (by k_extra "pj0")))
  k_with "ne" => (refine neN ?_; (try dsimp only); first | k_extra "ne9" | omega)
  k_with "omega" => first | with_reducible (first | (first | assumption | exact And.left (by k_extra "pj0") | exact And.right (by k_extra "pj0")) | exact oA (by assumption) | exact oB (by assumption) | exact oC (by assumption) | exact oD (by assumption) | exact oE (by assumption) (by assumption) | exact oF (by assumption) (by assumption) | exact oG (by assumption) (by assumption) | exact oH (by assumption) | exact oI (by assumption) | exact oJ (by assumption) | exact oK (by assumption) (by assumption) | exact oL (by assumption) (by assumption) | exact oM | exact oN (by assumption) | exact oO (by assumption) | exact idx1 (by assumption) (by assumption) | exact idx2 (by assumption) (by assumption) | exact oP (by assumption) (by assumption) | exact oQ | exact oR (by assumption) | exact oS (by assumption) | exact oT (by assumption) (by assumption) | exact oU (by assumption) (by assumption) | exact oV (by assumption) (by assumption) | exact oW (by assumption) | exact oX (by assumption) | exact oY (by assumption) | exact oZ (by assumption) (by assumption) | exact pA (by assumption) (by assumption) | exact pC (by assumption) | exact pB (by assumption) (by assumption) | exact pD (by assumption) | exact pE (by assumption) | exact pF (by assumption) | exact pG (by assumption) | exact pH (by assumption) | exact pI (by assumption) | exact pJ (by assumption) (by assumption) | exact pK (by assumption) | exact pL (by assumption) (by assumption) | exact pM | exact pN | exact pO (by assumption) | exact pP (by assumption) (by assumption) | exact pQ (by assumption) | exact pR (by assumption) | exact pS (by assumption) | exact pT (by assumption) | exact pU (by assumption) | exact pV (by assumption) | exact pY (by assumption) | exact oBad (by assumption) (by assumption) | exact oBad1 (by assumption) (by assumption) | exact qA (by assumption) | exact qB (by assumption) | exact qC (by assumption) | exact qD (by assumption) | exact qE (by assumption) | exact qF | exact qG (by assumption) (by assumption) | exact oT1 (by assumption) | exact oD1 (by assumption) | exact oD2 (by assumption)) | decide | ((first | (with_reducible show ¬ (_ = _)) | (with_reducible show @Ne Nat _ _)); k_extra "ne9")
  k_with "enter" => (refine' code_def (by k_asm) (by k_asm) (by k_asm) (by k_asm) (by k_asm) (by exact rfl) (by exact rfl) (by assumption) (by k_is) (by k_is) (by k_room) (by first | exact BindsTo.of_eq rfl | exact binds_K (by k_in) rfl (by k_is) rfl rfl rfl | fail "k_enter: no rule for these arguments") (by exact locs rfl) ?_ (by exact rfl) (by exact rfl) (by exact rfl) (by decide); k_whole; intro g' L' h' FG' F' N' B' X' T'; (try dsimp only); (try k_lift B'); (try k_fold))
  k_with "call ref" => (k_here; (with_reducible show wpAny _ _ (call (Value.ref 100) _) _ _ _); k_dflt (refine' named_ok (by k_asm) (by k_asm) (by k_asm) (by k_asm) (by k_asm) (by first | exact rfl | assumption) (by k_extra "room") (by k_extra "units") ?_; k_whole); intro r9 h9 tk9 F9 N9; (try k_sweep); (try k_fold))
  k_with "call ref" => (k_here; (with_reducible show wpAny _ _ (call (Value.ref 145) _) _ _ _); k_dflt (refine' state_ok (by k_asm) (by k_asm) (by k_asm) (by k_asm) (by k_asm) (by first | exact rfl | assumption) (by k_extra "room") (by first | k_extra "units" | ((try simp only [units_under_make, units_in1, units_deeper, Around.mark_units, units_caller]); (try dsimp only [ktrTop]); omega)) ?_; k_whole); intro r9 h9 tk9 F9 N9; (try k_sweep); (try k_fold))
  trivial
theorem work_made {w : World} {mg mb : Str → Option Value} {mean : ExcName → Option Value} {loose : List Str} {dp un : Nat} {gd : Option (List Code)} {cn : Str} {cs : Scope} {a : Addr} {ccd : Value} {cl : List (Str × Addr)} {outer : List Env} {A₀ : Around} {base h₀ : Heap} {L : Addr} {m : Str → Option Value} {s : Shared} {Q E : Value → Shared → Prop} {rest : List (Addr × Obj)} {z c : Addr} {t0 : Tok}
    (B : Below A₀ base outer h₀) (F : Fr h₀ L s.heap m) (X : (hd.heap_39 w.params).In h₀) (N : News h₀ L s.heap rest) (T : Top hd.view_39 loose mean mg mb h₀) (hk : cs.kind = .function) (hroom : dp + 20 < recursionLimit) (hunits : un + 100 < cLine)
    (hret : ∀ (x dx sx sdx l : Addr) (wb sb : Nat → Nat) h' tk', Fr h₀ L h' m →
      News h₀ L h' ((x, instObj 259 dx) :: (dx, workD w wb sx) :: (sx, instObj 208 sdx) :: (sdx, stackD w sb l) :: (l, listOf ([] : List Value).toArray 0) :: rest) →
      (∀ p ∈ rest, p.1 < dx) → (@LT.lt Nat _ dx x ∧ @LT.lt Nat _ x sdx ∧ @LT.lt Nat _ sdx sx ∧ @LT.lt Nat _ sx l) → Q (.ref x) { s with heap := h', toks := tk' }) :
    wpAny (model PP w) (ktrTop dp un gd cn cs L a ccd cl outer) (call (.ref 259) [.ref z, .ref c, .int 8 t0]) Q E s := by
  have hMk := kstMark
  k_steps
  rename News _ _ _ _ => nE
  refine hret _ _ _ _ _ (fn12 [_, _, _, _, _, _, _, _, _, _, _, _]) (fn12 [_, _, _]) _ _ (by assumption) (kst_newsOf nE (newsCons nE (by k_mem) (newsCons nE (by k_mem) (newsCons nE (by k_mem) (newsCons nE (by k_mem) (newsCons nE (by k_mem) ?_)))))) (by assumption) ?_
  · intro p hp
    repeat (first | exact hp | refine List.mem_cons_of_mem _ ?_)
  · refine ⟨?_, ?_, ?_, ?_⟩
    all_goals first | assumption | (refine' ltL ?h ?m; (case h => assumption); (case m => k_mem)) | (refine' ltL2 ?z ?h ?m; (case z => assumption); (case h => assumption); (case m => k_mem)) | omega
end
end
section
example : True := by
  k_with_none
  k_with "eval Dict" => (k_here; k_dflt ((refine' kdn_str ?_ ?_ ?_ ?_ ?_ ?_ ?_ ?_ ?_); (case refine'_5 => rfl); (case refine'_6 => k_asm); (case refine'_7 => k_asm); (case refine'_8 => exact Top.nolimit (by k_asm)); (case refine'_9 => rfl); (case refine'_10 => rfl); (case refine'_11 => exact List.cons_ne_nil _ _); (case refine'_12 => exact Nat.le_of_ble_eq_true rfl)); intro d' h' o' F' N' l1 lo' hd'; (try k_lt l1))
  k_with "enter" => (refine' code_def (by k_asm) (by k_asm) (by k_asm) (by k_asm) (by k_asm) (by exact rfl) (by exact rfl) (by assumption) (by k_is) (by k_is) (by k_room) (by first | exact BindsTo.of_eq rfl | exact binds_K (by k_in) rfl (by k_is) rfl rfl rfl | fail "k_enter: no rule for these arguments") (by exact locs rfl) ?_ (by exact rfl) (by exact rfl) (by exact rfl) (by decide); k_whole; intro g' L' h' FG' F' N' B' X' T'; (try dsimp only); (try k_lift B'); (try k_fold))
  k_with "room" => first | (refine' room_of (by assumption) (by ((try simp (config := { zetaDelta := true }) only [depth_under_make, depth_under_kw, depth_in1, depth_deeper, depth_caller]); (try dsimp (config := { zetaDelta := true }) only [ktrTop]); simp only [Nat.add_assoc, Nat.reduceAdd, Nat.add_le_add_iff_left, Nat.reduceLeDiff, Nat.le_add_right]))) | ktr_room
  k_with "units" => first | (refine' room_of (by assumption) (by ((try simp (config := { zetaDelta := true }) only [units_under_make, units_in1, units_deeper, Around.mark_units, units_caller]); (try dsimp (config := { zetaDelta := true }) only [ktrTop]); simp only [Nat.add_assoc, Nat.reduceAdd, Nat.add_le_add_iff_left, Nat.reduceLeDiff, Nat.le_add_right]))) | ktr_units
  k_with "pj0" => first | assumption | exact And.right (by k_extra "pj1")
  k_with "pj1" => first | assumption | exact And.right (by k_extra "pj2")
  k_with "pj2" => first | assumption | exact And.right (by k_extra "pj3")
  k_with "pj3" => first | assumption | exact And.right (by k_extra "pj4")
  k_with "pj4" => first | assumption | exact And.right (by k_extra "pj5")
  k_with "pj5" => first | assumption | exact And.right (by k_extra "pj6")
  k_with "pj6" => first | assumption | exact And.right (by k_extra "pj7")
  k_with "pj7" => first | assumption | exact And.right (by k_extra "pj8")
  k_with "pj8" => first | assumption | exact And.right (by k_extra "pj9")
  k_with "pj9" => first | assumption | exact And.right (by k_extra "pj10")
  k_with "pj10" => first | assumption | exact And.right (by k_extra "pj11")
  k_with "pj11" => first | assumption | exact And.right (by k_extra "pj12")
  k_with "pj12" => first | assumption | exact And.right (by k_extra "pj13")
  k_with "pj13" => first | assumption | exact And.right (by k_extra "pj14")
  k_with "pj14" => first | assumption | exact And.right (by k_extra "pj15")
  k_with "pj15" => first | assumption | exact And.right (by k_extra "pj16")
  k_with "pj16" => first | assumption | exact And.right (by k_extra "pj17")
  k_with "pj17" => first | assumption | exact And.right (by k_extra "pj18")
  k_with "pj18" => first | assumption | exact And.right (by k_extra "pj19")
  k_with "pj19" => first | assumption | exact And.right (by k_extra "pj20")
  k_with "pj20" => first | assumption | exact And.right (by k_extra "pj21")
  k_with "pj21" => first | assumption | exact And.right (by k_extra "pj22")
  k_with "pj22" => assumption
  k_with "ne9" => first | (refine Nat.ne_of_lt ?_; (first | assumption | exact And.left (by k_extra "pj0") | exact And.right (by k_extra "pj0"))) | (refine Nat.ne_of_gt ?_; (first | assumption | exact And.left (by k_extra "pj0") | exact And.right (by k_extra "pj0"))) | (first | assumption | exact And.left (by k_extra "pj0") | exact And.right (by k_extra "pj0")) | (refine Ne.symm ?_; (first | assumption | exact And.left (by k_extra "pj0") | exact And.right (by k_extra "pj0"))) | (refine pW ?_; (first | assumption | exact And.left (by k_extra "pj0") | exact And.right (by k_extra "pj0"))) | (refine pX ?_; (first | assumption | exact And.left (by k_extra "pj0") | exact And.right (by k_extra "pj0"))) | exact neT (by assumption) (by (first | assumption | exact And.left (by k_extra "pj0") | exact And.right (by k_extra "pj0")))
  k_with "ne" => (refine neN ?_; (try dsimp only); first | k_extra "ne9" | omega)
  k_with "omega" => first | with_reducible (first | (first | assumption | exact And.left (by k_extra "pj0") | exact And.right (by k_extra "pj0")) | exact oA (by assumption) | exact oB (by assumption) | exact oC (by assumption) | exact oD (by assumption) | exact oE (by assumption) (by assumption) | exact oF (by assumption) (by assumption) | exact oG (by assumption) (by assumption) | exact oH (by assumption) | exact oI (by assumption) | exact oJ (by assumption) | exact oK (by assumption) (by assumption) | exact oL (by assumption) (by assumption) | exact oM | exact oN (by assumption) | exact oO (by assumption) | exact idx1 (by assumption) (by assumption) | exact idx2 (by assumption) (by assumption) | exact oP (by assumption) (by assumption) | exact oQ | exact oR (by assumption) | exact oS (by assumption) | exact oT (by assumption) (by assumption) | exact oU (by assumption) (by assumption) | exact oV (by assumption) (by assumption) | exact oW (by assumption) | exact oX (by assumption) | exact oY (by assumption) | exact oZ (by assumption) (by assumption) | exact pA (by assumption) (by assumption) | exact pC (by assumption) | exact pB (by assumption) (by assumption) | exact pD (by assumption) | exact pE (by assumption) | exact pF (by assumption) | exact pG (by assumption) | exact pH (by assumption) | exact pI (by assumption) | exact pJ (by assumption) (by assumption) | exact pK (by assumption) | exact pL (by assumption) (by assumption) | exact pM | exact pN | exact pO (by assumption) | exact pP (by assumption) (by assumption) | exact pQ (by assumption) | exact pR (by assumption) | exact pS (by assumption) | exact pT (by assumption) | exact pU (by assumption) | exact pV (by assumption) | exact pY (by assumption) | exact oBad (by assumption) (by assumption) | exact oBad1 (by assumption) (by assumption) | exact qA (by assumption) | exact qB (by assumption) | exact qC (by assumption) | exact qD (by assumption) | exact qE (by assumption) | exact qF | exact qG (by assumption) (by assumption) | exact oT1 (by assumption) | exact oD1 (by assumption) | exact oD2 (by assumption)) | decide | ((first | (with_reducible show ¬ (_ = _)) | (with_reducible show @Ne Nat _ _)); k_extra "ne9")
  k_with "enter" => (refine' code_def (by k_asm) (by k_asm) (by k_asm) (by k_asm) (by k_asm) (by exact rfl) (by exact rfl) (by assumption) (by k_is) (by k_is) (by k_room) (by first | exact BindsTo.of_eq rfl | exact binds_K (by k_in) rfl (by k_is) rfl rfl rfl | fail "k_enter: no rule for these arguments") (by exact locs rfl) ?_ (by exact rfl) (by exact rfl) (by exact rfl) (by decide); k_whole; intro g' L' h' FG' F' N' B' X' T'; (try dsimp only); (try k_lift B'); (try k_fold))
  trivial
theorem wrap_id {n : Int} (h : -2147483648 ≤ n ∧ n ≤ 2147483647) : (n + 2147483648).fmod 4294967296 - 2147483648 = n := by
  rw [Int.fmod_eq_emod_of_nonneg _ (by decide), Int.emod_eq_of_lt (show (0 : Int) ≤ n + 2147483648 from Int.add_le_add_right h.1 2147483648) (show n + 2147483648 < 4294967296 from Int.add_lt_add_right (Int.lt_of_le_of_lt h.2 (show (2147483647 : Int) < 2147483648 by decide)) 2147483648)]
  exact Int.add_sub_cancel n 2147483648
theorem push_ok {w : World} {mg mb : Str → Option Value} {mean : ExcName → Option Value} {loose : List Str} {dp un : Nat} {gd : Option (List Code)} {cn : Str} {cs : Scope} {a : Addr} {ccd : Value} {cl : List (Str × Addr)} {outer : List Env} {A₀ : Around} {base h₀ : Heap} {L : Addr} {m : Str → Option Value} {s : Shared} {Q E : Value → Shared → Prop} {rest : List (Addr × Obj)}
    {sx sdx l : Addr} {sb : Nat → Nat} {vs : List Value} {ns : List Int} {c : Nat} {n : Int} {t : Tok}
    (B : Below A₀ base outer h₀) (F : Fr h₀ L s.heap m) (X : (hd.heap_39 w.params).In h₀) (N : News h₀ L s.heap ((sx, instObj 208 sdx) :: (sdx, stackD w sb l) :: (l, listOf vs.toArray c) :: rest)) (T : Top hd.view_39 loose mean mg mb h₀) (hk : cs.kind = .function) (hroom : dp + 20 < recursionLimit) (hunits : un + 100 < cLine)
    (hi : IntsAre vs ns) (hlen : ns.length < 8) (hn : -2147483648 ≤ n ∧ n ≤ 2147483647)
    (d1 : @Ne Nat sx sdx ∧ @Ne Nat sx l ∧ @Ne Nat sdx l) (d2 : OwnOff rest [l])
    (hret : ∀ (t' : Tok) (c' : Nat) h' tk', Fr h₀ L h' m → News h₀ L h' ((sx, instObj 208 sdx) :: (sdx, stackD w sb l) :: (l, listOf (vs ++ [Value.int n t']).toArray c') :: rest) → Q .none { s with heap := h', toks := tk' }) :
    wpAny (model PP w) (ktrTop dp un gd cn cs L a ccd cl outer) (call (.ref 170) [.ref sx, .int n t]) Q E s := by
  have hMk := kstMark
  have hvl : vs.length < 8 := by rw [hi.length]; exact hlen
  k_steps
  all_goals (rename News _ _ _ _ => nE)
  all_goals (rw [wrap_id hn] at nE; simp only [List.push_toArray] at nE; exact hret _ _ _ _ (by assumption) nE)
end
section
example : True := by
  k_with_none
  k_with "eval Dict" => (k_here; k_dflt ((refine' kdn_str ?_ ?_ ?_ ?_ ?_ ?_ ?_ ?_ ?_); (case refine'_5 => rfl); (case refine'_6 => k_asm); (case refine'_7 => k_asm); (case refine'_8 => exact Top.nolimit (by k_asm)); (case refine'_9 => rfl); (case refine'_10 => rfl); (case refine'_11 => exact List.cons_ne_nil _ _); (case refine'_12 => exact Nat.le_of_ble_eq_true rfl)); intro d' h' o' F' N' l1 lo' hd'; (try k_lt l1))
  k_with "enter" => (refine' code_def (by k_asm) (by k_asm) (by k_asm) (by k_asm) (by k_asm) (by exact rfl) (by exact rfl) (by assumption) (by k_is) (by k_is) (by k_room) (by first | exact BindsTo.of_eq rfl | exact binds_K (by k_in) rfl (by k_is) rfl rfl rfl | fail "k_enter: no rule for these arguments") (by exact locs rfl) ?_ (by exact rfl) (by exact rfl) (by exact rfl) (by decide); k_whole; intro g' L' h' FG' F' N' B' X' T'; (try dsimp only); (try k_lift B'); (try k_fold); (refine foldA ?_); intro A9; (refine foldV ?_); intro V9)
  k_with "room" => first | (refine' room_of (by assumption) (by ((try simp (config := { zetaDelta := true }) only [depth_under_make, depth_under_kw, depth_in1, depth_deeper, depth_caller]); (try dsimp (config := { zetaDelta := true }) only [ktrTop]); simp only [Nat.add_assoc, Nat.reduceAdd, Nat.add_le_add_iff_left, Nat.reduceLeDiff, Nat.le_add_right]))) | ktr_room
  k_with "units" => first | (refine' room_of (by assumption) (by ((try simp (config := { zetaDelta := true }) only [units_under_make, units_in1, units_deeper, Around.mark_units, units_caller]); (try dsimp (config := { zetaDelta := true }) only [ktrTop]); simp only [Nat.add_assoc, Nat.reduceAdd, Nat.add_le_add_iff_left, Nat.reduceLeDiff, Nat.le_add_right]))) | ktr_units
  k_with "pj0" => first | assumption | exact And.right (by k_extra "pj1")
  k_with "pj1" => first | assumption | exact And.right (by k_extra "pj2")
  k_with "pj2" => first | assumption | exact And.right (by k_extra "pj3")
  k_with "pj3" => first | assumption | exact And.right (by k_extra "pj4")
  k_with "pj4" => first | assumption | exact And.right (by k_extra "pj5")
  k_with "pj5" => first | assumption | exact And.right (by k_extra "pj6")
  k_with "pj6" => first | assumption | exact And.right (by k_extra "pj7")
  k_with "pj7" => first | assumption | exact And.right (by k_extra "pj8")
  k_with "pj8" => first | assumption | exact And.right (by k_extra "pj9")
  k_with "pj9" => first | assumption | exact And.right (by k_extra "pj10")
  k_with "pj10" => first | assumption | exact And.right (by k_extra "pj11")
  k_with "pj11" => first | assumption | exact And.right (by k_extra "pj12")
  k_with "pj12" => first | assumption | exact And.right (by k_extra "pj13")
  k_with "pj13" => first | assumption | exact And.right (by k_extra "pj14")
  k_with "pj14" => first | assumption | exact And.right (by k_extra "pj15")
  k_with "pj15" => first | assumption | exact And.right (by k_extra "pj16")
  k_with "pj16" => first | assumption | exact And.right (by k_extra "pj17")
  k_with "pj17" => first | assumption | exact And.right (by k_extra "pj18")
  k_with "pj18" => first | assumption | exact And.right (by k_extra "pj19")
  k_with "pj19" => first | assumption | exact And.right (by k_extra "pj20")
  k_with "pj20" => first | assumption | exact And.right (by k_extra "pj21")
  k_with "pj21" => first | assumption | exact And.right (by k_extra "pj22")
  k_with "pj22" => assumption
  k_with "ne9" => first | (refine Nat.ne_of_lt ?_; (first | assumption | exact And.left (by k_extra "pj0") | exact And.right (by k_extra "pj0"))) | (refine Nat.ne_of_gt ?_; (first | assumption | exact And.left (by k_extra "pj0") | exact And.right (by k_extra "pj0"))) | (first | assumption | exact And.left (by k_extra "pj0") | exact And.right (by k_extra "pj0")) | (refine Ne.symm ?_; (first | assumption | exact And.left (by k_extra "pj0") | exact And.right (by k_extra "pj0"))) | (refine pW ?_; (first | assumption | exact And.left (by k_extra "pj0") | exact And.right (by k_extra "pj0"))) | (refine pX ?_; (first | assumption | exact And.left (by k_extra "pj0") | exact And.right (by k_extra "pj0"))) | exact neT (by assumption) (by (first | assumption | exact And.left (by k_extra "pj0") | exact And.right (by k_extra "pj0")))
  k_with "ne" => (refine neN ?_; (try dsimp only); first | k_extra "ne9" | omega)
  k_with "omega" => first | with_reducible (first | (first | assumption | exact And.left (by k_extra "pj0") | exact And.right (by k_extra "pj0")) | exact oA (by assumption) | exact oB (by assumption) | exact oC (by assumption) | exact oD (by assumption) | exact oE (by assumption) (by assumption) | exact oF (by assumption) (by assumption) | exact oG (by assumption) (by assumption) | exact oH (by assumption) | exact oI (by assumption) | exact oJ (by assumption) | exact oK (by assumption) (by assumption) | exact oL (by assumption) (by assumption) | exact oM | exact oN (by assumption) | exact oO (by assumption) | exact idx1 (by assumption) (by assumption) | exact idx2 (by assumption) (by assumption) | exact oP (by assumption) (by assumption) | exact oQ | exact oR (by assumption) | exact oS (by assumption) | exact oT (by assumption) (by assumption) | exact oU (by assumption) (by assumption) | exact oV (by assumption) (by assumption) | exact oW (by assumption) | exact oX (by assumption) | exact oY (by assumption) | exact oZ (by assumption) (by assumption) | exact pA (by assumption) (by assumption) | exact pC (by assumption) | exact pB (by assumption) (by assumption) | exact pD (by assumption) | exact pE (by assumption) | exact pF (by assumption) | exact pG (by assumption) | exact pH (by assumption) | exact pI (by assumption) | exact pJ (by assumption) (by assumption) | exact pK (by assumption) | exact pL (by assumption) (by assumption) | exact pM | exact pN | exact pO (by assumption) | exact pP (by assumption) (by assumption) | exact pQ (by assumption) | exact pR (by assumption) | exact pS (by assumption) | exact pT (by assumption) | exact pU (by assumption) | exact pV (by assumption) | exact pY (by assumption) | exact oBad (by assumption) (by assumption) | exact oBad1 (by assumption) (by assumption) | exact qA (by assumption) | exact qB (by assumption) | exact qC (by assumption) | exact qD (by assumption) | exact qE (by assumption) | exact qF | exact qG (by assumption) (by assumption) | exact oT1 (by assumption) | exact oD1 (by assumption) | exact oD2 (by assumption)) | decide | ((first | (with_reducible show ¬ (_ = _)) | (with_reducible show @Ne Nat _ _)); k_extra "ne9")
  k_with "fold" => ((with_reducible show wpAny _ _ (eval _ _) _ _ _); (fail_if_success (with_reducible show wpAny _ _ (eval (PySem.Expr.Slice _ _ _ _) _) _ _ _)); (fail_if_success (fail_if_success k_fold)); refine foldQ ?_; intro Q9)
  k_with "fold" => ((with_reducible show wpAny _ _ (execs _ _) _ _ (Shared.mk _ _ _ (_ + _) _)); refine tokfold ?_; intro tk9)
  trivial
theorem pop_ok {w : World} {mg mb : Str → Option Value} {mean : ExcName → Option Value} {loose : List Str} {dp un : Nat} {gd : Option (List Code)} {cn : Str} {cs : Scope} {a : Addr} {ccd : Value} {cl : List (Str × Addr)} {outer : List Env} {A₀ : Around} {base h₀ : Heap} {L : Addr} {m : Str → Option Value} {s : Shared} {Q E : Value → Shared → Prop} {rest : List (Addr × Obj)}
    {sx sdx l : Addr} {sb : Nat → Nat} {vs : List Value} {ns : List Int} {c : Nat} {n : Int}
    (B : Below A₀ base outer h₀) (F : Fr h₀ L s.heap m) (X : (hd.heap_39 w.params).In h₀) (N : News h₀ L s.heap ((sx, instObj 208 sdx) :: (sdx, stackD w sb l) :: (l, listOf vs.toArray c) :: rest)) (T : Top hd.view_39 loose mean mg mb h₀) (hk : cs.kind = .function) (hroom : dp + 20 < recursionLimit) (hunits : un + 100 < cLine)
    (hi : IntsAre vs (ns ++ [n])) (hlen : ns.length < 8)
    (d1 : @Ne Nat sx sdx ∧ @Ne Nat sx l ∧ @Ne Nat sdx l) (d2 : OwnOff rest [l])
    (hret : ∀ (vs' : List Value) (t' : Tok) (c' : Nat) h' tk', Fr h₀ L h' m → IntsAre vs' ns → News h₀ L h' ((sx, instObj 208 sdx) :: (sdx, stackD w sb l) :: (l, listOf vs'.toArray c') :: rest) → Q (.int n t') { s with heap := h', toks := tk' }) :
    wpAny (model PP w) (ktrTop dp un gd cn cs L a ccd cl outer) (call (.ref 177) [.ref sx]) Q E s := by
  have hMk := kstMark
  have hvl1 : vs.length = ns.length + 1 := by rw [hi.length]; simp
  have hvl : vs.length < 9 := by omega
  k_steps
  · rename (decide _ = true) => hab
    exact absurd (of_decide_eq_true hab) (by simp)
  · rename (IntsAre (List.dropLast _) _) => hI
    rename News _ _ _ _ => nE
    have e1 : (ns ++ [n]).getLastD 0 = n := by simp
    have e2 : (ns ++ [n]).dropLast = ns := by simp
    rw [e2] at hI
    rw [e1]
    exact hret _ _ _ _ _ (by assumption) hI (fun p hp => nE p (List.mem_cons_of_mem _ hp))
theorem peek_ok {w : World} {mg mb : Str → Option Value} {mean : ExcName → Option Value} {loose : List Str} {dp un : Nat} {gd : Option (List Code)} {cn : Str} {cs : Scope} {a : Addr} {ccd : Value} {cl : List (Str × Addr)} {outer : List Env} {A₀ : Around} {base h₀ : Heap} {L : Addr} {m : Str → Option Value} {s : Shared} {Q E : Value → Shared → Prop} {rest : List (Addr × Obj)}
    {sx sdx l : Addr} {sb : Nat → Nat} {vs : List Value} {ns : List Int} {c : Nat} {k : Int} {t : Tok}
    (B : Below A₀ base outer h₀) (F : Fr h₀ L s.heap m) (X : (hd.heap_39 w.params).In h₀) (N : News h₀ L s.heap ((sx, instObj 208 sdx) :: (sdx, stackD w sb l) :: (l, listOf vs.toArray c) :: rest)) (T : Top hd.view_39 loose mean mg mb h₀) (hk : cs.kind = .function) (hroom : dp + 20 < recursionLimit) (hunits : un + 100 < cLine)
    (hi : IntsAre vs ns) (hlen : ns.length < 9) (hk1 : 1 ≤ k) (hk2 : k ≤ (ns.length : Int))
    (hret : ∀ (t' : Tok) h' tk', Fr h₀ L h' m → News h₀ L h' ((sx, instObj 208 sdx) :: (sdx, stackD w sb l) :: (l, listOf vs.toArray c) :: rest) → Q (.int (ns.getD ((ns.length : Int) - k).toNat 0) t') { s with heap := h', toks := tk' }) :
    wpAny (model PP w) (ktrTop dp un gd cn cs L a ccd cl outer) (call (.ref 191) [.ref sx, .int k t]) Q E s := by
  have hMk := kstMark
  have hvl : vs.length < 9 := by rw [hi.length]; exact hlen
  k_steps
  rename News _ _ _ _ => nE
  exact hret _ _ _ (by assumption) nE
section
theorem fmod_fits (a x e : Int) : IntMulOk a ([x, e.fmod 2147483647].getD (Int.toNat 1) 0) := by
  have h0 : 0 ≤ e.fmod 2147483647 := Int.fmod_nonneg_of_pos _ (by decide)
  have h1 : e.fmod 2147483647 < 2147483647 := Int.fmod_lt_of_pos _ (by decide)
  show IntMulOk a (e.fmod 2147483647)
  exact IntMulOk.of_right (intBits_le_64 (Int.lt_of_lt_of_le (by decide) h0) (Int.lt_trans h1 (by decide)))
local macro_rules | `(tactic| mul_fits) => `(tactic| exact fmod_fits _ _ _)
theorem take_ok {w : World} {mg mb : Str → Option Value} {mean : ExcName → Option Value} {loose : List Str} {dp un : Nat} {gd : Option (List Code)} {cn : Str} {cs : Scope} {a : Addr} {ccd : Value} {cl : List (Str × Addr)} {outer : List Env} {A₀ : Around} {base h₀ : Heap} {L : Addr} {m : Str → Option Value} {s : Shared} {Q E : Value → Shared → Prop} {rest : List (Addr × Obj)}
    {l : Addr} {x y top : Int} {tx ty tt : Tok} {c : Nat}
    (B : Below A₀ base outer h₀) (F : Fr h₀ L s.heap m) (X : (hd.heap_39 w.params).In h₀) (N : News h₀ L s.heap ((l, listOf #[Value.int x tx, Value.int y ty] c) :: rest)) (T : Top hd.view_39 loose mean mg mb h₀) (hk : cs.kind = .function) (hroom : dp + 20 < recursionLimit) (hunits : un + 100 < cLine)
    (hx : 0 ≤ x) (hy : 0 ≤ y ∧ y < 2147483647) (htop : 1 ≤ top ∧ top ≤ 8) (d2 : OwnOff rest [l])
    (hret : ∀ (x' y' r : Int) (tx' ty' t' : Tok) (c' : Nat) h' tk', Fr h₀ L h' m → News h₀ L h' ((l, listOf #[Value.int x' tx', Value.int y' ty'] c') :: rest) → 0 ≤ x' → (0 ≤ y' ∧ y' < 2147483647) → (0 ≤ r ∧ r < top) → Q (.int r t') { s with heap := h', toks := tk' }) :
    wpAny (model PP w) (ktrTop dp un gd cn cs L a ccd cl outer) (call (.ref 277) [.ref l, .int top tt]) Q E s := by
  have hMk := kstMark
  k_steps
  · rename News _ _ _ _ => nE
    have hxe : [x, y].getD (Int.toNat 0) 0 = x := rfl
    rw [hxe] at nE ⊢
    refine hret _ _ _ _ _ _ _ _ _ (by assumption) nE (Int.fdiv_nonneg hx (by omega)) hy ⟨Int.fmod_nonneg_of_pos _ (by omega), Int.fmod_lt_of_pos _ (by omega)⟩
  · rename News _ _ _ _ => nE
    refine hret _ _ _ _ _ _ _ _ _ (by assumption) nE hx ⟨Int.fmod_nonneg_of_pos _ (by decide), Int.fmod_lt_of_pos _ (by decide)⟩ ⟨Int.fmod_nonneg_of_pos _ (by omega), Int.fmod_lt_of_pos _ (by omega)⟩
end

theorem offOne {pre post : List (Addr × Obj)} {l : Addr} (h1 : ∀ p ∈ pre, p.1 ≠ l) (h2 : ∀ p ∈ post, p.1 ≠ l) : OwnOff (pre ++ post) [l] := fun p hp b hb => by
  obtain rfl := List.mem_singleton.mp hb
  rcases List.mem_append.mp hp with hp | hp
  · exact h1 p hp
  · exact h2 p hp
theorem newsNe {h₀ h : Heap} {L x y : Addr} {o o' : Obj} {news : List (Addr × Obj)} (N : News h₀ L h news) (h1 : (x, o) ∈ news) (h2 : (y, o') ∈ news) (hne : o.cls ≠ o'.cls) : @Ne Nat x y := fun e => by
  have e1 := (N _ h1).1
  have e2 := (N _ h2).1
  have e3 : h.get? x = some o' := by rw [show x = y from e]; exact e2
  exact hne (congrArg Obj.cls (Option.some.inj (e1.symm.trans e3)))
theorem mem_ins {x p : Addr × Obj} {pre post : List (Addr × Obj)} (h : x ∈ pre ++ post) : x ∈ pre ++ p :: post := by
  rcases List.mem_append.mp h with h | h
  · exact List.mem_append_left _ h
  · exact List.mem_append_right _ (List.mem_cons_of_mem _ h)
theorem use_split {P : Prop} {h₀ h : Heap} {L l : Addr} {o : Obj} {news : List (Addr × Obj)} {g : Obj → List (Addr × Obj)} (N : News h₀ L h news) (U : UpdF l o news g) (fs : List (Addr × Obj)) (hf : ∀ p ∈ fs, p ∈ news)
    (k : ∀ rest, News h₀ L h (fs ++ (l, o) :: rest) → OwnOff rest [l] → (l, o) ∈ news → (∀ o' p, p ∈ g o' → p ∈ fs ++ (l, o') :: rest) → P) : P := by
  obtain ⟨pre, post, rfl, hg, ha, hb⟩ := U.split
  have hl : (l, o) ∈ pre ++ (l, o) :: post := List.mem_append_right _ (List.Mem.head _)
  refine k (pre ++ post) (fun p hp => ?_) (offOne ha hb) hl (fun o' p hp => ?_)
  · rcases List.mem_append.mp hp with hp | hp
    · exact N p (hf p hp)
    · rcases List.mem_cons.mp hp with rfl | hp
      · exact N _ hl
      · exact N _ (mem_ins hp)
  · rw [hg] at hp
    refine List.mem_append_right _ ?_
    rcases List.mem_append.mp hp with hp | hp
    · exact List.mem_cons_of_mem _ (List.mem_append_left _ hp)
    · rcases List.mem_cons.mp hp with rfl | hp
      · exact List.Mem.head _
      · exact List.mem_cons_of_mem _ (List.mem_append_right _ hp)
theorem mem2 {p q : Addr × Obj} {news : List (Addr × Obj)} (h1 : p ∈ news) (h2 : q ∈ news) : ∀ r ∈ [p, q], r ∈ news := List.forall_mem_cons.mpr ⟨h1, List.forall_mem_singleton.mpr h2⟩
theorem push_use {w : World} {mg mb : Str → Option Value} {mean : ExcName → Option Value} {loose : List Str} {dp un : Nat} {gd : Option (List Code)} {cn : Str} {cs : Scope} {a : Addr} {ccd : Value} {cl : List (Str × Addr)} {outer : List Env} {A₀ : Around} {base h₀ : Heap} {L : Addr} {m : Str → Option Value} {s : Shared} {Q E : Value → Shared → Prop} {news : List (Addr × Obj)} {g : Obj → List (Addr × Obj)}
    {sx sdx l : Addr} {sb : Nat → Nat} {vs : List Value} {ns : List Int} {c : Nat} {n : Int} {t : Tok}
    (B : Below A₀ base outer h₀) (F : Fr h₀ L s.heap m) (X : (hd.heap_39 w.params).In h₀) (N : News h₀ L s.heap news) (T : Top hd.view_39 loose mean mg mb h₀) (hk : cs.kind = .function) (hroom : dp + 20 < recursionLimit) (hunits : un + 100 < cLine)
    (h1 : (sx, instObj 208 sdx) ∈ news) (h2 : (sdx, stackD w sb l) ∈ news) (U : UpdF l (listOf vs.toArray c) news g)
    (hi : IntsAre vs ns) (hlen : ns.length < 8) (hn : -2147483648 ≤ n ∧ n ≤ 2147483647)
    (hret : ∀ (t' : Tok) (c' : Nat) h' tk', Fr h₀ L h' m → News h₀ L h' (g (listOf (vs ++ [Value.int n t']).toArray c')) → Q .none { s with heap := h', toks := tk' }) :
    wpAny (model PP w) (ktrTop dp un gd cn cs L a ccd cl outer) (call (.ref 170) [.ref sx, .int n t]) Q E s := by
  exact use_split N U _ (mem2 h1 h2) fun rest N1 d2 hl bk => push_ok B F X N1 T hk hroom hunits hi hlen hn ⟨newsNe N h1 h2 (by intro e; cases e), newsNe N h1 hl (by intro e; cases e), newsNe N h2 hl (by intro e; exact absurd (Value.type.inj e) (by decide))⟩ d2 fun t' c' h' tk' F' N' => hret t' c' h' tk' F' (kst_newsOf N' (bk _))
theorem pop_use {w : World} {mg mb : Str → Option Value} {mean : ExcName → Option Value} {loose : List Str} {dp un : Nat} {gd : Option (List Code)} {cn : Str} {cs : Scope} {a : Addr} {ccd : Value} {cl : List (Str × Addr)} {outer : List Env} {A₀ : Around} {base h₀ : Heap} {L : Addr} {m : Str → Option Value} {s : Shared} {Q E : Value → Shared → Prop} {news : List (Addr × Obj)} {g : Obj → List (Addr × Obj)}
    {sx sdx l : Addr} {sb : Nat → Nat} {vs : List Value} {ns : List Int} {c : Nat} {n : Int}
    (B : Below A₀ base outer h₀) (F : Fr h₀ L s.heap m) (X : (hd.heap_39 w.params).In h₀) (N : News h₀ L s.heap news) (T : Top hd.view_39 loose mean mg mb h₀) (hk : cs.kind = .function) (hroom : dp + 20 < recursionLimit) (hunits : un + 100 < cLine)
    (h1 : (sx, instObj 208 sdx) ∈ news) (h2 : (sdx, stackD w sb l) ∈ news) (U : UpdF l (listOf vs.toArray c) news g)
    (hi : IntsAre vs (ns ++ [n])) (hlen : ns.length < 8)
    (hret : ∀ (vs' : List Value) (t' : Tok) (c' : Nat) h' tk', Fr h₀ L h' m → IntsAre vs' ns → News h₀ L h' (g (listOf vs'.toArray c')) → Q (.int n t') { s with heap := h', toks := tk' }) :
    wpAny (model PP w) (ktrTop dp un gd cn cs L a ccd cl outer) (call (.ref 177) [.ref sx]) Q E s := by
  exact use_split N U _ (mem2 h1 h2) fun rest N1 d2 hl bk => pop_ok B F X N1 T hk hroom hunits hi hlen ⟨newsNe N h1 h2 (by intro e; cases e), newsNe N h1 hl (by intro e; cases e), newsNe N h2 hl (by intro e; exact absurd (Value.type.inj e) (by decide))⟩ d2 fun vs' t' c' h' tk' F' I' N' => hret vs' t' c' h' tk' F' I' (kst_newsOf N' (bk _))
theorem peek_use {w : World} {mg mb : Str → Option Value} {mean : ExcName → Option Value} {loose : List Str} {dp un : Nat} {gd : Option (List Code)} {cn : Str} {cs : Scope} {a : Addr} {ccd : Value} {cl : List (Str × Addr)} {outer : List Env} {A₀ : Around} {base h₀ : Heap} {L : Addr} {m : Str → Option Value} {s : Shared} {Q E : Value → Shared → Prop} {news : List (Addr × Obj)}
    {sx sdx l : Addr} {sb : Nat → Nat} {vs : List Value} {ns : List Int} {c : Nat} {k : Int} {t : Tok}
    (B : Below A₀ base outer h₀) (F : Fr h₀ L s.heap m) (X : (hd.heap_39 w.params).In h₀) (N : News h₀ L s.heap news) (T : Top hd.view_39 loose mean mg mb h₀) (hk : cs.kind = .function) (hroom : dp + 20 < recursionLimit) (hunits : un + 100 < cLine)
    (h1 : (sx, instObj 208 sdx) ∈ news) (h2 : (sdx, stackD w sb l) ∈ news) (hl : (l, listOf vs.toArray c) ∈ news)
    (hi : IntsAre vs ns) (hlen : ns.length < 9) (hk1 : 1 ≤ k) (hk2 : k ≤ (ns.length : Int))
    (hret : ∀ (t' : Tok) h' tk', Fr h₀ L h' m → News h₀ L h' news → Q (.int (ns.getD ((ns.length : Int) - k).toNat 0) t') { s with heap := h', toks := tk' }) :
    wpAny (model PP w) (ktrTop dp un gd cn cs L a ccd cl outer) (call (.ref 191) [.ref sx, .int k t]) Q E s := by
  have N1 : News h₀ L s.heap ((sx, instObj 208 sdx) :: (sdx, stackD w sb l) :: (l, listOf vs.toArray c) :: news) :=
    kst_newsOf N (newsCons N h1 (newsCons N h2 (newsCons N hl fun p hp => hp)))
  refine peek_ok B F X N1 T hk hroom hunits hi hlen hk1 hk2 fun t' h' tk' F' N' => hret t' h' tk' F' ?_
  exact kst_newsOf N' fun p hp => List.mem_cons_of_mem _ (List.mem_cons_of_mem _ (List.mem_cons_of_mem _ hp))
theorem take_use {w : World} {mg mb : Str → Option Value} {mean : ExcName → Option Value} {loose : List Str} {dp un : Nat} {gd : Option (List Code)} {cn : Str} {cs : Scope} {a : Addr} {ccd : Value} {cl : List (Str × Addr)} {outer : List Env} {A₀ : Around} {base h₀ : Heap} {L : Addr} {m : Str → Option Value} {s : Shared} {Q E : Value → Shared → Prop} {news : List (Addr × Obj)} {g : Obj → List (Addr × Obj)}
    {l : Addr} {x y top : Int} {tx ty tt : Tok} {c : Nat}
    (B : Below A₀ base outer h₀) (F : Fr h₀ L s.heap m) (X : (hd.heap_39 w.params).In h₀) (N : News h₀ L s.heap news) (T : Top hd.view_39 loose mean mg mb h₀) (hk : cs.kind = .function) (hroom : dp + 20 < recursionLimit) (hunits : un + 100 < cLine)
    (U : UpdF l (listOf #[Value.int x tx, Value.int y ty] c) news g)
    (hx : 0 ≤ x) (hy : 0 ≤ y ∧ y < 2147483647) (htop : 1 ≤ top ∧ top ≤ 8)
    (hret : ∀ (x' y' r : Int) (tx' ty' t' : Tok) (c' : Nat) h' tk', Fr h₀ L h' m → News h₀ L h' (g (listOf #[Value.int x' tx', Value.int y' ty'] c')) → 0 ≤ x' → (0 ≤ y' ∧ y' < 2147483647) → (0 ≤ r ∧ r < top) → Q (.int r t') { s with heap := h', toks := tk' }) :
    wpAny (model PP w) (ktrTop dp un gd cn cs L a ccd cl outer) (call (.ref 277) [.ref l, .int top tt]) Q E s := by
  exact use_split N U [] (fun _ h => nomatch h) fun rest N1 d2 hl bk => take_ok B F X N1 T hk hroom hunits hx hy htop d2 fun x' y' r tx' ty' t' c' h' tk' F' N' hx' hy' hr' => hret x' y' r tx' ty' t' c' h' tk' F' (kst_newsOf N' (bk _)) hx' hy' hr'
end
section
section
example : True := by
  k_with_none
  k_with "eval Dict" => (k_here; k_dflt ((refine' kdn_str ?_ ?_ ?_ ?_ ?_ ?_ ?_ ?_ ?_); (case refine'_5 => rfl); (case refine'_6 => k_asm); (case refine'_7 => k_asm); (case refine'_8 => exact Top.nolimit (by k_asm)); (case refine'_9 => rfl); (case refine'_10 => rfl); (case refine'_11 => exact List.cons_ne_nil _ _); (case refine'_12 => exact Nat.le_of_ble_eq_true rfl)); intro d' h' o' F' N' l1 lo' hd'; (try k_lt l1))
  k_with "enter" => (refine' code_def (by k_asm) (by k_asm) (by k_asm) (by k_asm) (by k_asm) (by exact rfl) (by exact rfl) (by assumption) (by k_is) (by k_is) (by k_room) (by first | exact BindsTo.of_eq rfl | exact binds_K (by k_in) rfl (by k_is) rfl rfl rfl | fail "k_enter: no rule for these arguments") (by exact locs rfl) ?_ (by exact rfl) (by exact rfl) (by exact rfl) (by decide); k_whole; intro g' L' h' FG' F' N' B' X' T'; (try dsimp only); (try k_lift B'); (try k_fold); (refine foldA ?_); intro A9; (refine foldV ?_); intro V9)
  k_with "room" => first | (refine' room_of (by assumption) (by ((try simp (config := { zetaDelta := true }) only [depth_under_make, depth_under_kw, depth_in1, depth_deeper, depth_caller]); (try dsimp (config := { zetaDelta := true }) only [ktrTop]); simp only [Nat.add_assoc, Nat.reduceAdd, Nat.add_le_add_iff_left, Nat.reduceLeDiff, Nat.le_add_right]))) | ktr_room
  k_with "units" => first | (refine' room_of (by assumption) (by ((try simp (config := { zetaDelta := true }) only [units_under_make, units_in1, units_deeper, Around.mark_units, units_caller]); (try dsimp (config := { zetaDelta := true }) only [ktrTop]); simp only [Nat.add_assoc, Nat.reduceAdd, Nat.add_le_add_iff_left, Nat.reduceLeDiff, Nat.le_add_right]))) | ktr_units
  k_with "pj0" => first | assumption | exact And.right (by k_extra "pj1")
  k_with "pj1" => first | assumption | exact And.right (by k_extra "pj2")
  k_with "pj2" => first | assumption | exact And.right (by k_extra "pj3")
  k_with "pj3" => first | assumption | exact And.right (by k_extra "pj4")
  k_with "pj4" => first | assumption | exact And.right (by k_extra "pj5")
  k_with "pj5" => first | assumption | exact And.right (by k_extra "pj6")
  k_with "pj6" => first | assumption | exact And.right (by k_extra "pj7")
  k_with "pj7" => first | assumption | exact And.right (by k_extra "pj8")
  k_with "pj8" => first | assumption | exact And.right (by k_extra "pj9")
  k_with "pj9" => first | assumption | exact And.right (by k_extra "pj10")
  k_with "pj10" => first | assumption | exact And.right (by k_extra "pj11")
  k_with "pj11" => first | assumption | exact And.right (by k_extra "pj12")
  k_with "pj12" => first | assumption | exact And.right (by k_extra "pj13")
  k_with "pj13" => first | assumption | exact And.right (by k_extra "pj14")
  k_with "pj14" => first | assumption | exact And.right (by k_extra "pj15")
  k_with "pj15" => first | assumption | exact And.right (by k_extra "pj16")
  k_with "pj16" => first | assumption | exact And.right (by k_extra "pj17")
  k_with "pj17" => first | assumption | exact And.right (by k_extra "pj18")
  k_with "pj18" => first | assumption | exact And.right (by k_extra "pj19")
  k_with "pj19" => first | assumption | exact And.right (by k_extra "pj20")
  k_with "pj20" => first | assumption | exact And.right (by k_extra "pj21")
  k_with "pj21" => first | assumption | exact And.right (by k_extra "pj22")
  k_with "pj22" => assumption
  k_with "ne9" => first | (refine Nat.ne_of_lt ?_; (first | assumption | exact And.left (by k_extra "pj0") | exact And.right (by k_extra "pj0"))) | (refine Nat.ne_of_gt ?_; (first | assumption | exact And.left (by k_extra "pj0") | exact And.right (by k_extra "pj0"))) | (first | assumption | exact And.left (by k_extra "pj0") | exact And.right (by k_extra "pj0")) | (refine Ne.symm ?_; (first | assumption | exact And.left (by k_extra "pj0") | exact And.right (by k_extra "pj0"))) | (refine pW ?_; (first | assumption | exact And.left (by k_extra "pj0") | exact And.right (by k_extra "pj0"))) | (refine pX ?_; (first | assumption | exact And.left (by k_extra "pj0") | exact And.right (by k_extra "pj0"))) | exact neT (by assumption) (by (first | assumption | exact And.left (by k_extra "pj0") | exact And.right (by k_extra "pj0")))
  k_with "ne" => (refine neN ?_; (try dsimp only); first | k_extra "ne9" | omega)
  k_with "omega" => first | with_reducible (first | (first | assumption | exact And.left (by k_extra "pj0") | exact And.right (by k_extra "pj0")) | exact oA (by assumption) | exact oB (by assumption) | exact oC (by assumption) | exact oD (by assumption) | exact oE (by assumption) (by assumption) | exact oF (by assumption) (by assumption) | exact oG (by assumption) (by assumption) | exact oH (by assumption) | exact oI (by assumption) | exact oJ (by assumption) | exact oK (by assumption) (by assumption) | exact oL (by assumption) (by assumption) | exact oM | exact oN (by assumption) | exact oO (by assumption) | exact idx1 (by assumption) (by assumption) | exact idx2 (by assumption) (by assumption) | exact oP (by assumption) (by assumption) | exact oQ | exact oR (by assumption) | exact oS (by assumption) | exact oT (by assumption) (by assumption) | exact oU (by assumption) (by assumption) | exact oV (by assumption) (by assumption) | exact oW (by assumption) | exact oX (by assumption) | exact oY (by assumption) | exact oZ (by assumption) (by assumption) | exact pA (by assumption) (by assumption) | exact pC (by assumption) | exact pB (by assumption) (by assumption) | exact pD (by assumption) | exact pE (by assumption) | exact pF (by assumption) | exact pG (by assumption) | exact pH (by assumption) | exact pI (by assumption) | exact pJ (by assumption) (by assumption) | exact pK (by assumption) | exact pL (by assumption) (by assumption) | exact pM | exact pN | exact pO (by assumption) | exact pP (by assumption) (by assumption) | exact pQ (by assumption) | exact pR (by assumption) | exact pS (by assumption) | exact pT (by assumption) | exact pU (by assumption) | exact pV (by assumption) | exact pY (by assumption) | exact oBad (by assumption) (by assumption) | exact oBad1 (by assumption) (by assumption) | exact qA (by assumption) | exact qB (by assumption) | exact qC (by assumption) | exact qD (by assumption) | exact qE (by assumption) | exact qF | exact qG (by assumption) (by assumption) | exact oT1 (by assumption) | exact oD1 (by assumption) | exact oD2 (by assumption)) | decide | ((first | (with_reducible show ¬ (_ = _)) | (with_reducible show @Ne Nat _ _)); k_extra "ne9")
  k_with "fold" => ((with_reducible show wpAny _ _ (eval _ _) _ _ _); (fail_if_success (with_reducible show wpAny _ _ (eval (PySem.Expr.Slice _ _ _ _) _) _ _ _)); (fail_if_success (fail_if_success k_fold)); refine foldQ ?_; intro Q9)
  k_with "fold" => ((with_reducible show wpAny _ _ (execs _ _) _ _ (Shared.mk _ _ _ (_ + _) _)); refine tokfold ?_; intro tk9)
  k_with "call ref" => (k_here; (with_reducible show wpAny _ _ (call (Value.ref 277) _) _ _ _); k_dflt (refine' take_use (by k_asm) (by k_asm) (by k_asm) (by k_asm) (by k_asm) (by first | exact rfl | assumption) (by k_extra "room") (by k_extra "units") (by k_updF) (by assumption) (by assumption) (by first | omega | (dsimp only; omega)) ?_; k_whole); intro x9 y9 r9 tx9 ty9 t9 c9 h9 tk9 F9 N9 hx9 hy9 hr9; (try dsimp only at N9); (try k_sweep); (try k_fold))
  trivial
theorem one_ok {w : World} {mg mb : Str → Option Value} {mean : ExcName → Option Value} {loose : List Str} {dp un : Nat} {gd : Option (List Code)} {cn : Str} {cs : Scope} {a : Addr} {ccd : Value} {cl : List (Str × Addr)} {outer : List Env} {A₀ : Around} {base h₀ : Heap} {L : Addr} {m : Str → Option Value} {s : Shared} {Q E : Value → Shared → Prop} {rest : List (Addr × Obj)}
    {t l : Addr} {x y : Int} {tx ty : Tok} {c ct : Nat} {vs : List Value} {ns : List Int}
    (B : Below A₀ base outer h₀) (F : Fr h₀ L s.heap m) (X : (hd.heap_39 w.params).In h₀) (N : News h₀ L s.heap ((t, listOf vs.toArray ct) :: (l, listOf #[Value.int x tx, Value.int y ty] c) :: rest)) (T : Top hd.view_39 loose mean mg mb h₀) (hk : cs.kind = .function) (hroom : dp + 40 < recursionLimit) (hunits : un + 200 < cLine)
    (hi : IntsAre vs ns) (h1 : 1 ≤ ns.length) (h8 : ns.length ≤ 8)
    (hx : 0 ≤ x) (hy : 0 ≤ y ∧ y < 2147483647) (d1 : @Ne Nat t l) (d2 : OwnOff rest [l])
    (hret : ∀ (x' y' r : Int) (tx' ty' t' : Tok) (c' : Nat) h' tk', Fr h₀ L h' m → News h₀ L h' ((t, listOf vs.toArray ct) :: (l, listOf #[Value.int x' tx', Value.int y' ty'] c') :: rest) → 0 ≤ x' → (0 ≤ y' ∧ y' < 2147483647) → r ∈ ns → Q (.int r t') { s with heap := h', toks := tk' }) :
    wpAny (model PP w) (ktrTop dp un gd cn cs L a ccd cl outer) (call (.ref 284) [.ref l, .ref t]) Q E s := by
  have hMk := kstMark
  have hvl : vs.length = ns.length := hi.length
  refine wpAny_call ?_
  k_dflt k_enter
  k_steps
  rename News _ _ _ _ => nE
  rename (0 ≤ _ ∧ _ < (ns.length : Int)) => hr
  have hmem : ∀ r : Int, 0 ≤ r ∧ r < (ns.length : Int) → ns.getD r.toNat 0 ∈ ns := fun r hr => by
    have hlt : r.toNat < ns.length := by omega
    rw [List.getD_eq_getElem?_getD, List.getElem?_eq_getElem hlt]
    exact List.getElem_mem hlt
  exact hret _ _ _ _ _ _ _ _ _ (by assumption) nE (by assumption) (by assumption) (hmem _ hr)

theorem one_use {w : World} {mg mb : Str → Option Value} {mean : ExcName → Option Value} {loose : List Str} {dp un : Nat} {gd : Option (List Code)} {cn : Str} {cs : Scope} {a : Addr} {ccd : Value} {cl : List (Str × Addr)} {outer : List Env} {A₀ : Around} {base h₀ : Heap} {L : Addr} {m : Str → Option Value} {s : Shared} {Q E : Value → Shared → Prop} {news : List (Addr × Obj)} {g : Obj → List (Addr × Obj)}
    {t l : Addr} {x y : Int} {tx ty : Tok} {c ct : Nat} {vs : List Value} {ns : List Int}
    (B : Below A₀ base outer h₀) (F : Fr h₀ L s.heap m) (X : (hd.heap_39 w.params).In h₀) (N : News h₀ L s.heap news) (T : Top hd.view_39 loose mean mg mb h₀) (hk : cs.kind = .function) (hroom : dp + 40 < recursionLimit) (hunits : un + 200 < cLine)
    (ht : (t, listOf vs.toArray ct) ∈ news) (U : UpdF l (listOf #[Value.int x tx, Value.int y ty] c) news g)
    (hi : IntsAre vs ns) (h1 : 1 ≤ ns.length) (h8 : ns.length ≤ 8)
    (hx : 0 ≤ x) (hy : 0 ≤ y ∧ y < 2147483647) (d1 : @Ne Nat t l)
    (hret : ∀ (x' y' r : Int) (tx' ty' t' : Tok) (c' : Nat) h' tk', Fr h₀ L h' m → News h₀ L h' (g (listOf #[Value.int x' tx', Value.int y' ty'] c')) → 0 ≤ x' → (0 ≤ y' ∧ y' < 2147483647) → r ∈ ns → Q (.int r t') { s with heap := h', toks := tk' }) :
    wpAny (model PP w) (ktrTop dp un gd cn cs L a ccd cl outer) (call (.ref 284) [.ref l, .ref t]) Q E s := by
  exact use_split N U _ (List.forall_mem_singleton.mpr ht) fun rest N1 d2 hl bk => one_ok B F X N1 T hk hroom hunits hi h1 h8 hx hy d1 d2 fun x' y' r tx' ty' t' c' h' tk' F' N' hx' hy' hr' => hret x' y' r tx' ty' t' c' h' tk' F' (kst_newsOf N' (bk _)) hx' hy' hr'
end
end
section
example : True := by
  k_with_none
  k_with "eval Dict" => (k_here; k_dflt ((refine' kdn_str ?_ ?_ ?_ ?_ ?_ ?_ ?_ ?_ ?_); (case refine'_5 => rfl); (case refine'_6 => k_asm); (case refine'_7 => k_asm); (case refine'_8 => exact Top.nolimit (by k_asm)); (case refine'_9 => rfl); (case refine'_10 => rfl); (case refine'_11 => exact List.cons_ne_nil _ _); (case refine'_12 => exact Nat.le_of_ble_eq_true rfl)); intro d' h' o' F' N' l1 lo' hd'; (try k_lt l1))
  k_with "enter" => (refine' code_def (by k_asm) (by k_asm) (by k_asm) (by k_asm) (by k_asm) (by exact rfl) (by exact rfl) (by assumption) (by k_is) (by k_is) (by k_room) (by first | exact BindsTo.of_eq rfl | exact binds_K (by k_in) rfl (by k_is) rfl rfl rfl | fail "k_enter: no rule for these arguments") (by exact locs rfl) ?_ (by exact rfl) (by exact rfl) (by exact rfl) (by decide); k_whole; intro g' L' h' FG' F' N' B' X' T'; (try dsimp only); (try k_lift B'); (try k_fold); (refine foldA ?_); intro A9; (refine foldV ?_); intro V9)
  k_with "room" => first | (refine' room_of (by assumption) (by ((try simp (config := { zetaDelta := true }) only [depth_under_make, depth_under_kw, depth_in1, depth_deeper, depth_caller]); (try dsimp (config := { zetaDelta := true }) only [ktrTop]); simp only [Nat.add_assoc, Nat.reduceAdd, Nat.add_le_add_iff_left, Nat.reduceLeDiff, Nat.le_add_right]))) | ktr_room
  k_with "units" => first | (refine' room_of (by assumption) (by ((try simp (config := { zetaDelta := true }) only [units_under_make, units_in1, units_deeper, Around.mark_units, units_caller]); (try dsimp (config := { zetaDelta := true }) only [ktrTop]); simp only [Nat.add_assoc, Nat.reduceAdd, Nat.add_le_add_iff_left, Nat.reduceLeDiff, Nat.le_add_right]))) | ktr_units
  k_with "pj0" => first | assumption | exact And.right (by k_extra "pj1")
  k_with "pj1" => first | assumption | exact And.right (by k_extra "pj2")
  k_with "pj2" => first | assumption | exact And.right (by k_extra "pj3")
  k_with "pj3" => first | assumption | exact And.right (by k_extra "pj4")
  k_with "pj4" => first | assumption | exact And.right (by k_extra "pj5")
  k_with "pj5" => first | assumption | exact And.right (by k_extra "pj6")
  k_with "pj6" => first | assumption | exact And.right (by k_extra "pj7")
  k_with "pj7" => first | assumption | exact And.right (by k_extra "pj8")
  k_with "pj8" => first | assumption | exact And.right (by k_extra "pj9")
  k_with "pj9" => first | assumption | exact And.right (by k_extra "pj10")
  k_with "pj10" => first | assumption | exact And.right (by k_extra "pj11")
  k_with "pj11" => first | assumption | exact And.right (by k_extra "pj12")
  k_with "pj12" => first | assumption | exact And.right (by k_extra "pj13")
  k_with "pj13" => first | assumption | exact And.right (by k_extra "pj14")
  k_with "pj14" => first | assumption | exact And.right (by k_extra "pj15")
  k_with "pj15" => first | assumption | exact And.right (by k_extra "pj16")
  k_with "pj16" => first | assumption | exact And.right (by k_extra "pj17")
  k_with "pj17" => first | assumption | exact And.right (by k_extra "pj18")
  k_with "pj18" => first | assumption | exact And.right (by k_extra "pj19")
  k_with "pj19" => first | assumption | exact And.right (by k_extra "pj20")
  k_with "pj20" => first | assumption | exact And.right (by k_extra "pj21")
  k_with "pj21" => first | assumption | exact And.right (by k_extra "pj22")
  k_with "pj22" => assumption
  k_with "ne9" => first | (refine Nat.ne_of_lt ?_; (first | assumption | exact And.left (by k_extra "pj0") | exact And.right (by k_extra "pj0"))) | (refine Nat.ne_of_gt ?_; (first | assumption | exact And.left (by k_extra "pj0") | exact And.right (by k_extra "pj0"))) | (first | assumption | exact And.left (by k_extra "pj0") | exact And.right (by k_extra "pj0")) | (refine Ne.symm ?_; (first | assumption | exact And.left (by k_extra "pj0") | exact And.right (by k_extra "pj0"))) | (refine pW ?_; (first | assumption | exact And.left (by k_extra "pj0") | exact And.right (by k_extra "pj0"))) | (refine pX ?_; (first | assumption | exact And.left (by k_extra "pj0") | exact And.right (by k_extra "pj0"))) | exact neT (by assumption) (by (first | assumption | exact And.left (by k_extra "pj0") | exact And.right (by k_extra "pj0")))
  k_with "ne" => (refine neN ?_; (try dsimp only); first | k_extra "ne9" | omega)
  k_with "omega" => first | with_reducible (first | (first | assumption | exact And.left (by k_extra "pj0") | exact And.right (by k_extra "pj0")) | exact oA (by assumption) | exact oB (by assumption) | exact oC (by assumption) | exact oD (by assumption) | exact oE (by assumption) (by assumption) | exact oF (by assumption) (by assumption) | exact oG (by assumption) (by assumption) | exact oH (by assumption) | exact oI (by assumption) | exact oJ (by assumption) | exact oK (by assumption) (by assumption) | exact oL (by assumption) (by assumption) | exact oM | exact oN (by assumption) | exact oO (by assumption) | exact idx1 (by assumption) (by assumption) | exact idx2 (by assumption) (by assumption) | exact oP (by assumption) (by assumption) | exact oQ | exact oR (by assumption) | exact oS (by assumption) | exact oT (by assumption) (by assumption) | exact oU (by assumption) (by assumption) | exact oV (by assumption) (by assumption) | exact oW (by assumption) | exact oX (by assumption) | exact oY (by assumption) | exact oZ (by assumption) (by assumption) | exact pA (by assumption) (by assumption) | exact pC (by assumption) | exact pB (by assumption) (by assumption) | exact pD (by assumption) | exact pE (by assumption) | exact pF (by assumption) | exact pG (by assumption) | exact pH (by assumption) | exact pI (by assumption) | exact pJ (by assumption) (by assumption) | exact pK (by assumption) | exact pL (by assumption) (by assumption) | exact pM | exact pN | exact pO (by assumption) | exact pP (by assumption) (by assumption) | exact pQ (by assumption) | exact pR (by assumption) | exact pS (by assumption) | exact pT (by assumption) | exact pU (by assumption) | exact pV (by assumption) | exact pY (by assumption) | exact oBad (by assumption) (by assumption) | exact oBad1 (by assumption) (by assumption) | exact qA (by assumption) | exact qB (by assumption) | exact qC (by assumption) | exact qD (by assumption) | exact qE (by assumption) | exact qF | exact qG (by assumption) (by assumption) | exact oT1 (by assumption) | exact oD1 (by assumption) | exact oD2 (by assumption)) | decide | ((first | (with_reducible show ¬ (_ = _)) | (with_reducible show @Ne Nat _ _)); k_extra "ne9")
  k_with "fold" => ((with_reducible show wpAny _ _ (eval _ _) _ _ _); (fail_if_success (with_reducible show wpAny _ _ (eval (PySem.Expr.Slice _ _ _ _) _) _ _ _)); (fail_if_success (fail_if_success k_fold)); refine foldQ ?_; intro Q9)
  k_with "fold" => ((with_reducible show wpAny _ _ (execs _ _) _ _ (Shared.mk _ _ _ (_ + _) _)); refine tokfold ?_; intro tk9)
  k_with "eval IfExp" => (k_here; (fail_if_success (with_reducible show wpAny _ _ _ (fun _ _ => ∃ _ _ _, _) _ _)); refine int_join (fun i => 0 ≤ i) ?_ (fun i9 t9 k9 p9 => ?_))
  k_with "eval IfExp" => (k_here; (fail_if_success (with_reducible show wpAny _ _ _ (fun _ _ => ∃ _ _ _, _) _ _)); (with_reducible show wpAny _ _ (eval (PySem.Expr.IfExp (PySem.Expr.Compare (PySem.Expr.Call _ _ _ _) _ _ _) _ _ _) _) _ _ _); refine int_join (fun _ => True) ?_ (fun i9 t9 k9 p9 => ?_))
  trivial
theorem pool_ok {w : World} {mg mb : Str → Option Value} {mean : ExcName → Option Value} {loose : List Str} {dp un : Nat} {gd : Option (List Code)} {cn : Str} {cs : Scope} {a : Addr} {ccd : Value} {cl : List (Str × Addr)} {outer : List Env} {A₀ : Around} {base h₀ : Heap} {L : Addr} {m : Str → Option Value} {s : Shared} {Q E : Value → Shared → Prop} {rest : List (Addr × Obj)}
    {l : Addr} {vs : List Value} {ns : List Int}
    (B : Below A₀ base outer h₀) (F : Fr h₀ L s.heap m) (X : (hd.heap_39 w.params).In h₀) (N : News h₀ L s.heap rest) (T : Top hd.view_39 loose mean mg mb h₀) (hk : cs.kind = .function) (hroom : dp + 40 < recursionLimit) (hunits : un + 200 < cLine)
    (hl : base.IsList l vs.toArray) (hi : IntsAre vs ns) (hlen : ns.length ≤ 2 ^ 20)
    (hret : ∀ (D : Addr) (x y : Int) (tx ty : Tok) h' tk', Fr h₀ L h' m → News h₀ L h' ((D, listOf #[Value.int x tx, Value.int y ty] 0) :: rest) → (∀ p ∈ rest, p.1 < D) → 0 ≤ x → (0 ≤ y ∧ y < 2147483647) → Q (.ref D) { s with heap := h', toks := tk' }) :
    wpAny (model PP w) (ktrTop dp un gd cn cs L a ccd cl outer) (call (.ref 270) [.ref l]) Q E s := by
  have hMk := kstMark
  have hvl : vs.length = ns.length := hi.length
  k_steps
  all_goals first | with_reducible exact True.intro | exact ⟨_, _, _, rfl, trivial, rfl⟩ | exact ⟨_, _, _, rfl, by first | assumption | omega, rfl⟩ | skip

  rename News _ _ _ _ => nE
  rename (∀ p ∈ rest, p.1 < _) => hlt
  exact hret _ _ _ _ _ _ _ (by assumption) nE hlt (by first | assumption | omega) ⟨Int.fmod_nonneg_of_pos _ (by decide), Int.fmod_lt_of_pos _ (by decide)⟩
end
section
example : True := by
  k_with_none
  k_with "eval Dict" => (k_here; k_dflt ((refine' kdn_str ?_ ?_ ?_ ?_ ?_ ?_ ?_ ?_ ?_); (case refine'_5 => rfl); (case refine'_6 => k_asm); (case refine'_7 => k_asm); (case refine'_8 => exact Top.nolimit (by k_asm)); (case refine'_9 => rfl); (case refine'_10 => rfl); (case refine'_11 => exact List.cons_ne_nil _ _); (case refine'_12 => exact Nat.le_of_ble_eq_true rfl)); intro d' h' o' F' N' l1 lo' hd'; (try k_lt l1))
  k_with "enter" => (refine' code_def (by k_asm) (by k_asm) (by k_asm) (by k_asm) (by k_asm) (by exact rfl) (by exact rfl) (by assumption) (by k_is) (by k_is) (by k_room) (by first | exact BindsTo.of_eq rfl | exact binds_K (by k_in) rfl (by k_is) rfl rfl rfl | fail "k_enter: no rule for these arguments") (by exact locs rfl) ?_ (by exact rfl) (by exact rfl) (by exact rfl) (by decide); k_whole; intro g' L' h' FG' F' N' B' X' T'; (try dsimp only); (try k_lift B'); (try k_fold))
  k_with "room" => first | (refine' room_of (by assumption) (by ((try simp (config := { zetaDelta := true }) only [depth_under_make, depth_under_kw, depth_in1, depth_deeper, depth_caller]); (try dsimp (config := { zetaDelta := true }) only [ktrTop]); simp only [Nat.add_assoc, Nat.reduceAdd, Nat.add_le_add_iff_left, Nat.reduceLeDiff, Nat.le_add_right]))) | ktr_room
  k_with "units" => first | (refine' room_of (by assumption) (by ((try simp (config := { zetaDelta := true }) only [units_under_make, units_in1, units_deeper, Around.mark_units, units_caller]); (try dsimp (config := { zetaDelta := true }) only [ktrTop]); simp only [Nat.add_assoc, Nat.reduceAdd, Nat.add_le_add_iff_left, Nat.reduceLeDiff, Nat.le_add_right]))) | ktr_units
  k_with "pj0" => first | assumption | exact And.right (by k_extra "pj1")
  k_with "pj1" => first | assumption | exact And.right (by k_extra "pj2")
  k_with "pj2" => first | assumption | exact And.right (by k_extra "pj3")
  k_with "pj3" => first | assumption | exact And.right (by k_extra "pj4")
  k_with "pj4" => first | assumption | exact And.right (by k_extra "pj5")
  k_with "pj5" => first | assumption | exact And.right (by k_extra "pj6")
  k_with "pj6" => first | assumption | exact And.right (by k_extra "pj7")
  k_with "pj7" => first | assumption | exact And.right (by k_extra "pj8")
  k_with "pj8" => first | assumption | exact And.right (by k_extra "pj9")
  k_with "pj9" => first | assumption | exact And.right (by k_extra "pj10")
  k_with "pj10" => first | assumption | exact And.right (by k_extra "pj11")
  k_with "pj11" => first | assumption | exact And.right (by k_extra "pj12")
  k_with "pj12" => first | assumption | exact And.right (by k_extra "pj13")
  k_with "pj13" => first | assumption | exact And.right (by k_extra "pj14")
  k_with "pj14" => first | assumption | exact And.right (by k_extra "pj15")
  k_with "pj15" => first | assumption | exact And.right (by k_extra "pj16")
  k_with "pj16" => first | assumption | exact And.right (by k_extra "pj17")
  k_with "pj17" => first | assumption | exact And.right (by k_extra "pj18")
  k_with "pj18" => first | assumption | exact And.right (by k_extra "pj19")
  k_with "pj19" => first | assumption | exact And.right (by k_extra "pj20")
  k_with "pj20" => first | assumption | exact And.right (by k_extra "pj21")
  k_with "pj21" => first | assumption | exact And.right (by k_extra "pj22")
  k_with "pj22" => assumption
  k_with "ne9" => first | (refine Nat.ne_of_lt ?_; (first | assumption | exact And.left (by k_extra "pj0") | exact And.right (by k_extra "pj0"))) | (refine Nat.ne_of_gt ?_; (first | assumption | exact And.left (by k_extra "pj0") | exact And.right (by k_extra "pj0"))) | (first | assumption | exact And.left (by k_extra "pj0") | exact And.right (by k_extra "pj0")) | (refine Ne.symm ?_; (first | assumption | exact And.left (by k_extra "pj0") | exact And.right (by k_extra "pj0"))) | (refine pW ?_; (first | assumption | exact And.left (by k_extra "pj0") | exact And.right (by k_extra "pj0"))) | (refine pX ?_; (first | assumption | exact And.left (by k_extra "pj0") | exact And.right (by k_extra "pj0"))) | exact neT (by assumption) (by (first | assumption | exact And.left (by k_extra "pj0") | exact And.right (by k_extra "pj0")))
  k_with "ne" => (refine neN ?_; (try dsimp only); first | k_extra "ne9" | omega)
  k_with "omega" => first | with_reducible (first | (first | assumption | exact And.left (by k_extra "pj0") | exact And.right (by k_extra "pj0")) | exact oA (by assumption) | exact oB (by assumption) | exact oC (by assumption) | exact oD (by assumption) | exact oE (by assumption) (by assumption) | exact oF (by assumption) (by assumption) | exact oG (by assumption) (by assumption) | exact oH (by assumption) | exact oI (by assumption) | exact oJ (by assumption) | exact oK (by assumption) (by assumption) | exact oL (by assumption) (by assumption) | exact oM | exact oN (by assumption) | exact oO (by assumption) | exact idx1 (by assumption) (by assumption) | exact idx2 (by assumption) (by assumption) | exact oP (by assumption) (by assumption) | exact oQ | exact oR (by assumption) | exact oS (by assumption) | exact oT (by assumption) (by assumption) | exact oU (by assumption) (by assumption) | exact oV (by assumption) (by assumption) | exact oW (by assumption) | exact oX (by assumption) | exact oY (by assumption) | exact oZ (by assumption) (by assumption) | exact pA (by assumption) (by assumption) | exact pC (by assumption) | exact pB (by assumption) (by assumption) | exact pD (by assumption) | exact pE (by assumption) | exact pF (by assumption) | exact pG (by assumption) | exact pH (by assumption) | exact pI (by assumption) | exact pJ (by assumption) (by assumption) | exact pK (by assumption) | exact pL (by assumption) (by assumption) | exact pM | exact pN | exact pO (by assumption) | exact pP (by assumption) (by assumption) | exact pQ (by assumption) | exact pR (by assumption) | exact pS (by assumption) | exact pT (by assumption) | exact pU (by assumption) | exact pV (by assumption) | exact pY (by assumption) | exact oBad (by assumption) (by assumption) | exact oBad1 (by assumption) (by assumption) | exact qA (by assumption) | exact qB (by assumption) | exact qC (by assumption) | exact qD (by assumption) | exact qE (by assumption) | exact qF | exact qG (by assumption) (by assumption) | exact oT1 (by assumption) | exact oD1 (by assumption) | exact oD2 (by assumption)) | decide | ((first | (with_reducible show ¬ (_ = _)) | (with_reducible show @Ne Nat _ _)); k_extra "ne9")
  k_with "enter" => (refine' code_def (by k_asm) (by k_asm) (by k_asm) (by k_asm) (by k_asm) (by exact rfl) (by exact rfl) (by assumption) (by k_is) (by k_is) (by k_room) (by first | exact BindsTo.of_eq rfl | exact binds_K (by k_in) rfl (by k_is) rfl rfl rfl | fail "k_enter: no rule for these arguments") (by exact locs rfl) ?_ (by exact rfl) (by exact rfl) (by exact rfl) (by decide); k_whole; intro g' L' h' FG' F' N' B' X' T'; (try dsimp only); (try k_lift B'); (try k_fold))
  trivial
open LCg in
theorem rest_ind {prog : Program} {w : World} {A : Around} {h₀ : Heap} {L : Addr} {m : Str → Option Value} {env : Env} {elt : PySem.Expr} {x : Str} {scope : Scope} {cl : List (Str × Addr)} {s : Shared} {S : List (Addr × Obj) → Prop} {P : Nat → Value → Prop} {Fin : List Value → List (Addr × Obj) → Prop} {n : Nat} {news : List (Addr × Obj)}
    (Inv : Nat → List Value → List (Addr × Obj) → Prop)
    (step : ∀ i ys nw, i < n → Inv i ys nw → ∀ v I oI C oC D m₂ h tk (E' : Value → Shared → Prop), P i v → NsObj oC m₂ → m₂ x = some v → Fr h₀ L h m → News h₀ L h ((I, oI) :: (C, oC) :: (D, lst ys) :: nw) → Off3 I C D nw → ((@Ne Nat I C) ∧ (@Ne Nat I D) ∧ (@Ne Nat C D)) →
      wpAny (model prog w) A (eval elt (compEnvC scope cl C env)) (CompEnd h₀ L m { s with heap := h, toks := tk } I oI C oC D (lst ys) S (fun y nw' => Inv (i + 1) (ys ++ [y]) nw')) E' { s with heap := h, toks := tk })
    (fin : ∀ ys nw, Inv n ys nw → Fin ys nw) (h0 : Inv 0 [] news) : CompRest prog w A h₀ L m env elt x scope cl s S P Fin n 0 [] news := by
  have all : ∀ k i ys nw, i + k = n → Inv i ys nw → CompRest prog w A h₀ L m env elt x scope cl s S P Fin k i ys nw := by
    intro k
    induction k with
    | zero =>
      intro i ys nw e hI
      obtain rfl : i = n := e
      exact CompRest.zero (fin ys nw hI)
    | succ k ih =>
      intro i ys nw e hI
      refine CompRest.succ fun v I oI C oC D m₂ h tk E' hP hC hx F N off ne => ?_
      refine wpAny_mono (step i ys nw (pY e) hI v I oI C oC D m₂ h tk E' hP hC hx F N off ne) (fun y s₂ hq => ?_) fun _ _ z => z
      obtain ⟨h', tk', nw', e', F', N', off', hS', hr⟩ := hq
      exact ⟨h', tk', nw', e', F', N', off', hS', ih (i + 1) _ _ ((Nat.succ_add i k).trans e) hr⟩
  exact all n 0 [] news (Nat.zero_add n) h0
theorem off3_upd {I C D l : Addr} {o : Obj} {news : List (Addr × Obj)} {g : Obj → List (Addr × Obj)} (U : UpdF l o news g) (o' : Obj) (h : LCg.Off3 I C D news) : LCg.Off3 I C D (g o') ∧ l ≠ I ∧ l ≠ C ∧ l ≠ D := by
  obtain ⟨pre, post, rfl, hg, ha, hb⟩ := U.split
  have hm := h.mem
  refine ⟨LCg.Off3.of fun p hp => ?_, hm (l, o) (List.mem_append_right _ (List.Mem.head _))⟩
  rw [hg] at hp
  rcases List.mem_append.mp hp with hp | hp
  · exact hm p (List.mem_append_left _ hp)
  · rcases List.mem_cons.mp hp with rfl | hp
    · exact hm (l, o) (List.mem_append_right _ (List.Mem.head _))
    · exact hm p (List.mem_append_right _ (List.mem_cons_of_mem _ hp))
theorem updF_next {l : Addr} {o : Obj} {news : List (Addr × Obj)} {g : Obj → List (Addr × Obj)} (U : UpdF l o news g) (o' : Obj) : UpdF l o' (g o') g := by
  induction U with
  | head h => exact UpdF.head h
  | tail h r ih => exact UpdF.tail h ih
open LCg in
theorem pops_rest {prog : Program} {w : World} {A : Around} {h₀ : Heap} {L : Addr} {m : Str → Option Value} {env : Env} {elt : PySem.Expr} {x : Str} {scope : Scope} {cl : List (Str × Addr)} {s : Shared} {P : Nat → Value → Prop} {Fin : List Value → List (Addr × Obj) → Prop} {n : Nat} {news : List (Addr × Obj)} {g : Obj → List (Addr × Obj)} {l : Addr} {vs₀ : List Value} {c₀ : Nat} {due : List Int}
    (U : UpdF l (listOf vs₀.toArray c₀) news g) (hi : IntsAre vs₀ due) (hn : n ≤ due.length)
    (step : ∀ (vs : List Value) (c : Nat) (ns : List Int) (z : Int) (ys : List Value) I oI C oC D h tk (E' : Value → Shared → Prop), IntsAre vs (ns ++ [z]) → (ns ++ [z]).length ≤ due.length → Fr h₀ L h m → News h₀ L h ((I, oI) :: (C, oC) :: (D, lst ys) :: g (listOf vs.toArray c)) →
      UpdF l (listOf vs.toArray c) ((I, oI) :: (C, oC) :: (D, lst ys) :: g (listOf vs.toArray c)) (fun o => (I, oI) :: (C, oC) :: (D, lst ys) :: g o) →
      wpAny (model prog w) A (eval elt (compEnvC scope cl C env)) (fun y s' => ∃ (t : Tok) (vs' : List Value) (c' : Nat) (h' : Heap) (tk' : Nat), y = .int z t ∧ s' = { s with heap := h', toks := tk' } ∧ Fr h₀ L h' m ∧ IntsAre vs' ns ∧ News h₀ L h' ((I, oI) :: (C, oC) :: (D, lst ys) :: g (listOf vs'.toArray c'))) E' { s with heap := h, toks := tk })
    (fin : ∀ (vs : List Value) (c : Nat) (ys : List Value), IntsAre vs (due.take (due.length - n)) → IntsAre ys (due.drop (due.length - n)).reverse → Fin ys (g (listOf vs.toArray c))) :
    CompRest prog w A h₀ L m env elt x scope cl s (fun _ => True) P Fin n 0 [] news := by
  refine rest_ind (fun i ys nw => ∃ (vs : List Value) (c : Nat), nw = g (listOf vs.toArray c) ∧ IntsAre vs (due.take (due.length - i)) ∧ IntsAre ys (due.drop (due.length - i)).reverse) ?_ ?_ ?_
  · rintro i ys nw hin ⟨vs, c, rfl, hv, hy⟩ v I oI C oC D m₂ h tk E' _ _ _ F N off ne
    have hid : i < due.length := Nat.lt_of_lt_of_le hin hn
    have hlt : due.length - (i + 1) < due.length := Nat.sub_lt (Nat.lt_of_le_of_lt (Nat.zero_le i) hid) (Nat.succ_pos i)
    have e1 : due.take (due.length - i) = due.take (due.length - (i + 1)) ++ [due[due.length - (i + 1)]] := by
      rw [oD1 hid, List.take_add_one, List.getElem?_eq_getElem hlt]
      rfl
    have e2 : (due.drop (due.length - (i + 1))).reverse = (due.drop (due.length - i)).reverse ++ [due[due.length - (i + 1)]] := by
      rw [List.drop_eq_getElem_cons hlt, List.reverse_cons, oD2 hid]
    rw [e1] at hv
    obtain ⟨_, n1, n2, n3⟩ := off3_upd (updF_next U (listOf vs.toArray c)) (listOf vs.toArray c) off
    refine wpAny_mono (step vs c _ _ ys I oI C oC D h tk E' hv (by rw [← e1, List.length_take]; omega) F N (UpdF.tail (Ne.symm n1) (UpdF.tail (Ne.symm n2) (UpdF.tail (Ne.symm n3) (updF_next U _))))) (fun y s' hq => ?_) fun _ _ z => z
    obtain ⟨t, vs', c', h', tk', rfl, rfl, F', hv', N'⟩ := hq
    refine ⟨h', tk', g (listOf vs'.toArray c'), rfl, F', N', (off3_upd (updF_next U (listOf vs.toArray c)) _ off).1, trivial, vs', c', rfl, hv', ?_⟩
    rw [e2]
    exact hy.append (IntsAre.cons _ _ IntsAre.nil)
  · rintro ys nw ⟨vs, c, rfl, hv, hy⟩
    exact fin vs c ys hv hy
  · obtain ⟨pre, post, rfl, hg, ha, hb⟩ := U.split
    refine ⟨vs₀, c₀, (hg _).symm, ?_, ?_⟩
    · simpa using hi
    · simpa using IntsAre.nil
theorem updF_app {l : Addr} {o : Obj} {own news : List (Addr × Obj)} {g : Obj → List (Addr × Obj)} (U : UpdF l o news g) (h : ∀ p ∈ own, p.1 ≠ l) : UpdF l o (news ++ own) (fun o' => g o' ++ own) := by
  induction U with
  | head h1 => exact UpdF.head fun p hp => (List.mem_append.mp hp).elim (h1 p) (h p)
  | tail h1 r ih => exact UpdF.tail h1 ih
theorem updF_adr {l : Addr} {o : Obj} {news : List (Addr × Obj)} {g : Obj → List (Addr × Obj)} (U : UpdF l o news g) (o' : Obj) : (g o').map (·.1) = news.map (·.1) := by
  obtain ⟨pre, post, rfl, hg, _, _⟩ := U.split
  rw [hg]; simp
theorem updF_mem {l q : Addr} {o p : Obj} {news : List (Addr × Obj)} {g : Obj → List (Addr × Obj)} (U : UpdF l o news g) (h : (q, p) ∈ news) (hn : @Ne Nat q l) (o' : Obj) : (q, p) ∈ g o' := by
  obtain ⟨pre, post, rfl, hg, _, _⟩ := U.split
  rw [hg]
  rcases List.mem_append.mp h with h | h
  · exact List.mem_append_left _ h
  · rcases List.mem_cons.mp h with e | h
    · exact absurd (congrArg Prod.fst e) hn
    · exact List.mem_append_right _ (List.mem_cons_of_mem _ h)
theorem updF_has {l : Addr} {o : Obj} {news : List (Addr × Obj)} {g : Obj → List (Addr × Obj)} (U : UpdF l o news g) : l ∈ news.map (·.1) := by
  obtain ⟨pre, post, rfl, _, _, _⟩ := U.split
  simp
theorem updF_self {l : Addr} {o : Obj} {news : List (Addr × Obj)} {g : Obj → List (Addr × Obj)} (U : UpdF l o news g) : g o = news := by
  obtain ⟨pre, post, rfl, hg, _, _⟩ := U.split
  rw [hg]
theorem push_loop {prog : Program} {w : World} {A : Around} {E : Value → Shared → Prop} {s : Shared} {env : Env} {h₀ : Heap} {x : Str} {body : List Stmt} {Q : Flow → Shared → Prop} {m₀ : Str → Option Value}
    {src l : Addr} {xs vs₀ : List Value} {nx c₀ : Nat} {ns ds : List Int} {news : List (Addr × Obj)} {g : Obj → List (Addr × Obj)}
    (hh : A.handled = none) (hs : (src, listOf xs.toArray nx) ∈ news) (hsl : @Ne Nat src l) (U : UpdF l (listOf vs₀.toArray c₀) news g) (hx : IntsAre xs ns) (hv : IntsAre vs₀ ds) (F : Fr h₀ env.locals s.heap m₀) (N : News h₀ env.locals s.heap news)
    (turn : ∀ (pre post : List Int) (n : Int) (t : Tok) (vs : List Value) (c : Nat) h tk own, ns = pre ++ n :: post → IntsAre vs (ds ++ pre) → OwnOff own (news.map (·.1)) → Fr h₀ env.locals h (fun y => if y = x then some (.int n t) else m₀ y) → News h₀ env.locals h (g (listOf vs.toArray c) ++ own) →
      UpdF l (listOf vs.toArray c) (g (listOf vs.toArray c) ++ own) (fun o => g o ++ own) →
      wpAny (model prog w) A (execs body env) (fun f s' => ∃ (t' : Tok) (c' : Nat) (h' : Heap) (tk' : Nat), f = .next ∧ s' = { s with heap := h', toks := tk' } ∧ Fr h₀ env.locals h' (fun y => if y = x then some (.int n t) else m₀ y) ∧ News h₀ env.locals h' (g (listOf (vs ++ [Value.int n t']).toArray c') ++ own)) E { s with heap := h, toks := tk })
    (done : ∀ (vs : List Value) (c : Nat) (u : Str → Option Value) h tk, IntsAre vs (ds ++ ns) → Fr h₀ env.locals h (fun y => if y = x then u y else m₀ y) → News h₀ env.locals h (g (listOf vs.toArray c)) → Q .next { s with heap := h, toks := tk }) :
    wpAny (model prog w) A (pyIter (.ref src)) (fun it s₂ => LoopAtV prog w A h₀ env x body Q E it s₂) E s := by
  refine iter_invNL (fun i m nw => ∃ (vs : List Value) (c : Nat), nw = g (listOf vs.toArray c) ∧ IntsAre vs (ds ++ ns.take i) ∧ ∀ y, y ≠ x → m y = m₀ y) hh hs hx F N ⟨vs₀, c₀, (updF_self U).symm, by simpa using hv, fun _ _ => rfl⟩ ?_ ?_
  · rintro i n t m₁ news₁ h tk own hn hadr hoff hm ⟨vs, c, rfl, hvs, hm₁⟩ F₁ N₁
    have em : (fun y => if y = x then some (Value.int n t) else m₁ y) = fun y => if y = x then some (Value.int n t) else m₀ y := by
      funext y
      by_cases e : y = x
      · simp [e]
      · simp only [if_neg e]; exact hm₁ y e
    rw [em] at F₁
    have hs' : ns.take (i + 1) = ns.take i ++ [n] := by simp [List.take_add_one, hn]
    have e : ns = ns.take i ++ n :: ns.drop (i + 1) := by
      have ht := List.take_append_drop (i + 1) ns
      rw [hs', List.append_assoc] at ht
      exact ht.symm
    have hol : ∀ p ∈ own, p.1 ≠ l := hoff.ne (updF_has U)
    refine wpAny_mono (turn _ _ n t vs c h tk own e hvs hoff F₁ N₁ (updF_app (updF_next U _) hol)) (fun f s₂ hq => ?_) fun _ _ z => z
    obtain ⟨t', c', h', tk', rfl, rfl, F', N'⟩ := hq
    refine ⟨h', tk', _, _, g (listOf (vs ++ [Value.int n t']).toArray c'), rfl, F', N', fun p hp => List.mem_append_left _ hp, fun p hp => List.mem_append_right _ hp, updF_adr U _, updF_mem U hs hsl _, _, _, rfl, ?_, fun y hy => by simp [hy]⟩
    rw [hs', ← List.append_assoc]
    exact hvs.append (IntsAre.cons _ _ IntsAre.nil)
  · rintro m₁ news₁ h tk _ ⟨vs, c, rfl, hvs, hm₁⟩ F₁ N₁
    rw [List.take_length] at hvs
    refine done vs c m₁ h tk hvs ?_ N₁
    have em : (fun y => if y = x then m₁ y else m₀ y) = m₁ := by
      funext y
      by_cases e : y = x
      · simp [e]
      · simp only [if_neg e]; exact (hm₁ y e).symm
    rw [em]; exact F₁
theorem pick_bounds (n : Nat) (h : 1 ≤ n) : sliceBounds (some (-2)) none (some (-1)) n = (((n - 1 : Nat) : Int) - 1, -1, -1) := by
  simp only [sliceBounds, Option.getD_some]
  have h1 : ¬ ((-1 : Int) > 0) := by decide
  simp only [h1, if_false]
  have h2 : max (-1) (min (if (-2 : Int) < 0 then -2 + (n : Int) else -2) ((n : Int) - 1)) = ((n - 1 : Nat) : Int) - 1 := by
    obtain ⟨j, rfl⟩ : ∃ j, n = j + 1 := ⟨n - 1, (Nat.sub_add_cancel h).symm⟩
    rw [if_pos (by decide), show ((j + 1 : Nat) : Int) - 1 = (j : Int) from Int.add_sub_cancel (j : Int) 1, show (-2 : Int) + ((j + 1 : Nat) : Int) = (j : Int) - 1 from (Int.add_comm (-2) ((j : Int) + 1)).trans (Int.add_assoc (j : Int) 1 (-2)), Int.min_eq_left (Int.sub_le_self _ (by decide)), Int.max_eq_right (show (-1 : Int) ≤ (j : Int) - 1 from Int.sub_le_sub_right (Int.natCast_nonneg j) 1)]
    rfl
  rw [h2]
theorem pick_back (vs : List Value) (h : 1 ≤ vs.length) : slicePick vs.toArray (some (-2)) none (some (-1)) = (vs.take (vs.length - 1)).reverse.toArray := by
  unfold slicePick
  rw [List.size_toArray, pick_bounds _ h]
  show ((sliceRange (((vs.length - 1 : Nat) : Int) - 1) (-1) (-1)).filterMap (vs.toArray[·]?)).toArray = _
  rw [krv_sliceRange, krv_range, List.filterMap_reverse]
  have e : (List.range (vs.length - 1)).filterMap (vs.toArray[·]?) = vs.take (vs.length - 1) := by
    have h := pick_run vs.toArray 0 (vs.length - 1)
    rw [show ((0 + ·) : Nat → Nat) = id from funext fun k => Nat.zero_add k, List.map_id] at h
    simpa using h
  rw [e]
theorem held_pick {vs : List Value} {due : List Int} {p : Nat} (hp : p < due.length) (h : IntsAre vs (due.drop p).reverse) : ∃ xs : List Value, slicePick vs.toArray (some (-2)) none (some (-1)) = xs.toArray ∧ IntsAre xs (due.drop (p + 1)) := by
  have hl : vs.length = due.length - p := by rw [h.length]; simp
  refine ⟨(vs.take (vs.length - 1)).reverse, pick_back vs (by rw [hl]; exact Nat.sub_pos_of_lt hp), ?_⟩
  have e : due.drop (p + 1) = ((due.drop p).reverse.take (vs.length - 1)).reverse := by
    rw [List.drop_eq_getElem_cons hp, List.reverse_cons, List.take_left' (by rw [List.length_reverse, List.length_drop, hl, Nat.sub_add_eq]), List.reverse_reverse]
  rw [e]
  exact (h.take _).reverse
section
example : True := by
  k_with_none
  k_with "eval Dict" => (k_here; k_dflt ((refine' kdn_str ?_ ?_ ?_ ?_ ?_ ?_ ?_ ?_ ?_); (case refine'_5 => rfl); (case refine'_6 => k_asm); (case refine'_7 => k_asm); (case refine'_8 => exact Top.nolimit (by k_asm)); (case refine'_9 => rfl); (case refine'_10 => rfl); (case refine'_11 => exact List.cons_ne_nil _ _); (case refine'_12 => exact Nat.le_of_ble_eq_true rfl)); intro d' h' o' F' N' l1 lo' hd'; (try k_lt l1))
  k_with "enter" => (refine' code_def (by k_asm) (by k_asm) (by k_asm) (by k_asm) (by k_asm) (by exact rfl) (by exact rfl) (by assumption) (by k_is) (by k_is) (by k_room) (by first | exact BindsTo.of_eq rfl | exact binds_K (by k_in) rfl (by k_is) rfl rfl rfl | fail "k_enter: no rule for these arguments") (by exact locs rfl) ?_ (by exact rfl) (by exact rfl) (by exact rfl) (by decide); k_whole; intro g' L' h' FG' F' N' B' X' T'; (try dsimp only); (try k_lift B'); (try k_fold))
  k_with "room" => first | (refine' room_of (by assumption) (by ((try simp (config := { zetaDelta := true }) only [depth_under_make, depth_under_kw, depth_in1, depth_deeper, depth_caller]); (try dsimp (config := { zetaDelta := true }) only [ktrTop]); simp only [Nat.add_assoc, Nat.reduceAdd, Nat.add_le_add_iff_left, Nat.reduceLeDiff, Nat.le_add_right]))) | ktr_room
  k_with "units" => first | (refine' room_of (by assumption) (by ((try simp (config := { zetaDelta := true }) only [units_under_make, units_in1, units_deeper, Around.mark_units, units_caller]); (try dsimp (config := { zetaDelta := true }) only [ktrTop]); simp only [Nat.add_assoc, Nat.reduceAdd, Nat.add_le_add_iff_left, Nat.reduceLeDiff, Nat.le_add_right]))) | ktr_units
  k_with "pj0" => first | assumption | exact And.right (by k_extra "pj1")
  k_with "pj1" => first | assumption | exact And.right (by k_extra "pj2")
  k_with "pj2" => first | assumption | exact And.right (by k_extra "pj3")
  k_with "pj3" => first | assumption | exact And.right (by k_extra "pj4")
  k_with "pj4" => first | assumption | exact And.right (by k_extra "pj5")
  k_with "pj5" => first | assumption | exact And.right (by k_extra "pj6")
  k_with "pj6" => first | assumption | exact And.right (by k_extra "pj7")
  k_with "pj7" => first | assumption | exact And.right (by k_extra "pj8")
  k_with "pj8" => first | assumption | exact And.right (by k_extra "pj9")
  k_with "pj9" => first | assumption | exact And.right (by k_extra "pj10")
  k_with "pj10" => first | assumption | exact And.right (by k_extra "pj11")
  k_with "pj11" => first | assumption | exact And.right (by k_extra "pj12")
  k_with "pj12" => first | assumption | exact And.right (by k_extra "pj13")
  k_with "pj13" => first | assumption | exact And.right (by k_extra "pj14")
  k_with "pj14" => first | assumption | exact And.right (by k_extra "pj15")
  k_with "pj15" => first | assumption | exact And.right (by k_extra "pj16")
  k_with "pj16" => first | assumption | exact And.right (by k_extra "pj17")
  k_with "pj17" => first | assumption | exact And.right (by k_extra "pj18")
  k_with "pj18" => first | assumption | exact And.right (by k_extra "pj19")
  k_with "pj19" => first | assumption | exact And.right (by k_extra "pj20")
  k_with "pj20" => first | assumption | exact And.right (by k_extra "pj21")
  k_with "pj21" => first | assumption | exact And.right (by k_extra "pj22")
  k_with "pj22" => assumption
  k_with "ne9" => first | (refine Nat.ne_of_lt ?_; (first | assumption | exact And.left (by k_extra "pj0") | exact And.right (by k_extra "pj0"))) | (refine Nat.ne_of_gt ?_; (first | assumption | exact And.left (by k_extra "pj0") | exact And.right (by k_extra "pj0"))) | (first | assumption | exact And.left (by k_extra "pj0") | exact And.right (by k_extra "pj0")) | (refine Ne.symm ?_; (first | assumption | exact And.left (by k_extra "pj0") | exact And.right (by k_extra "pj0"))) | (refine pW ?_; (first | assumption | exact And.left (by k_extra "pj0") | exact And.right (by k_extra "pj0"))) | (refine pX ?_; (first | assumption | exact And.left (by k_extra "pj0") | exact And.right (by k_extra "pj0"))) | exact neT (by assumption) (by (first | assumption | exact And.left (by k_extra "pj0") | exact And.right (by k_extra "pj0")))
  k_with "ne" => (refine neN ?_; (try dsimp only); first | k_extra "ne9" | omega)
  k_with "omega" => first | with_reducible (first | (first | assumption | exact And.left (by k_extra "pj0") | exact And.right (by k_extra "pj0")) | exact oA (by assumption) | exact oB (by assumption) | exact oC (by assumption) | exact oD (by assumption) | exact oE (by assumption) (by assumption) | exact oF (by assumption) (by assumption) | exact oG (by assumption) (by assumption) | exact oH (by assumption) | exact oI (by assumption) | exact oJ (by assumption) | exact oK (by assumption) (by assumption) | exact oL (by assumption) (by assumption) | exact oM | exact oN (by assumption) | exact oO (by assumption) | exact idx1 (by assumption) (by assumption) | exact idx2 (by assumption) (by assumption) | exact oP (by assumption) (by assumption) | exact oQ | exact oR (by assumption) | exact oS (by assumption) | exact oT (by assumption) (by assumption) | exact oU (by assumption) (by assumption) | exact oV (by assumption) (by assumption) | exact oW (by assumption) | exact oX (by assumption) | exact oY (by assumption) | exact oZ (by assumption) (by assumption) | exact pA (by assumption) (by assumption) | exact pC (by assumption) | exact pB (by assumption) (by assumption) | exact pD (by assumption) | exact pE (by assumption) | exact pF (by assumption) | exact pG (by assumption) | exact pH (by assumption) | exact pI (by assumption) | exact pJ (by assumption) (by assumption) | exact pK (by assumption) | exact pL (by assumption) (by assumption) | exact pM | exact pN | exact pO (by assumption) | exact pP (by assumption) (by assumption) | exact pQ (by assumption) | exact pR (by assumption) | exact pS (by assumption) | exact pT (by assumption) | exact pU (by assumption) | exact pV (by assumption) | exact pY (by assumption) | exact oBad (by assumption) (by assumption) | exact oBad1 (by assumption) (by assumption) | exact qA (by assumption) | exact qB (by assumption) | exact qC (by assumption) | exact qD (by assumption) | exact qE (by assumption) | exact qF | exact qG (by assumption) (by assumption) | exact oT1 (by assumption) | exact oD1 (by assumption) | exact oD2 (by assumption)) | decide | ((first | (with_reducible show ¬ (_ = _)) | (with_reducible show @Ne Nat _ _)); k_extra "ne9")
  k_with "enter" => (refine' code_def (by k_asm) (by k_asm) (by k_asm) (by k_asm) (by k_asm) (by exact rfl) (by exact rfl) (by assumption) (by k_is) (by k_is) (by k_room) (by first | exact BindsTo.of_eq rfl | exact binds_K (by k_in) rfl (by k_is) rfl rfl rfl | fail "k_enter: no rule for these arguments") (by exact locs rfl) ?_ (by exact rfl) (by exact rfl) (by exact rfl) (by decide); k_whole; intro g' L' h' FG' F' N' B' X' T'; (try dsimp only); (try k_lift B'); (try k_fold))
  k_with "enter" => (refine' code_defC (by k_asm) (by k_asm) (by k_asm) (by k_asm) (by k_asm) (by exact rfl) (by exact rfl) (by assumption) (by k_is) (by k_is) (by k_room) (by first | exact BindsTo.of_eq rfl | exact binds_K (by k_in) rfl (by k_is) rfl rfl rfl | fail "k_enter: no rule for these arguments") (by exact rfl) (by decide +kernel) ?_ (by exact rfl) (by exact rfl) (by exact rfl); k_whole; intro g' L' h' tk' cells' FG' F' N' Y' B' X' T' l1; (try k_lt l1); k_cells Y'; (try simp only [List.cons_append, List.nil_append] at N'); (try dsimp only); (try k_lift B'); (try k_fold))
  k_with "updF" => assumption
  k_with "call ref" => (k_here; (with_reducible show wpAny _ _ (call (Value.ref 177) _) _ _ _); k_dflt (refine' pop_use (by k_asm) (by k_asm) (by k_asm) (by k_asm) (by k_asm) (by first | exact rfl | assumption) (by k_extra "room") (by k_extra "units") (by k_mem) (by k_mem) (by k_updF) (by assumption) (by first | assumption | omega | (simp at *; omega)) ?_; k_whole); intro vs9 t9 c9 h9 tk9 F9 I9 N9; (try dsimp only at N9); (try k_sweep); (try k_fold))
  k_with "call ref" => (k_here; (with_reducible show wpAny _ _ (call (Value.ref 191) _) _ _ _); k_dflt (refine' peek_use (by k_asm) (by k_asm) (by k_asm) (by k_asm) (by k_asm) (by first | exact rfl | assumption) (by k_extra "room") (by k_extra "units") (by k_mem) (by k_mem) (by k_mem) (by assumption) (by omega) (by omega) (by omega) ?_; k_whole); intro t9 h9 tk9 F9 N9; (try k_sweep); (try k_fold))
  k_with "call ref" => (k_here; (with_reducible show wpAny _ _ (call (Value.ref 170) _) _ _ _); k_dflt (refine' push_use (by k_asm) (by k_asm) (by k_asm) (by k_asm) (by k_asm) (by first | exact rfl | assumption) (by k_extra "room") (by k_extra "units") (by k_mem) (by k_mem) (by k_updF) (by assumption) (by first | assumption | omega) (by first | assumption | omega) ?_; k_whole); intro t9 c9 h9 tk9 F9 N9; (try dsimp only at N9); (try k_sweep); (try k_fold))
  k_with "exec For" => (k_here; (rename Fr _ _ _ _ => lF'); (with_unfolding_all refine' For_invVF lF' (by exact rfl) (by exact rfl) ?_; k_whole))
  k_with "exec Assign cons ListComp" => (k_here; k_dflt (refine LCg.Assign_ListComp_U (F₀ := by k_asm) (by rfl) (by with_unfolding_all rfl) (by with_unfolding_all rfl) (by decide) (by rfl) (by decide) (by rfl) (by rfl) (by rfl) ?_))
  k_with "CompSrc" => (k_here; k_dflt (refine LCg.CompSrc.range (by rfl) (by k_asm) (by k_asm) (by assumption) (small_one (by omega) (by omega) (by omega) (by omega)) (rangeSize_nat _ _) ?_ ?_))
  trivial
theorem mindex_ok {w : World} {mg mb : Str → Option Value} {mean : ExcName → Option Value} {loose : List Str} {dp un : Nat} {gd : Option (List Code)} {cn : Str} {cs : Scope} {a : Addr} {ccd : Value} {cl : List (Str × Addr)} {outer : List Env} {A₀ : Around} {base h₀ : Heap} {L : Addr} {m : Str → Option Value} {s : Shared} {Q E : Value → Shared → Prop} {rest : List (Addr × Obj)}
    {x dx sx sdx l : Addr} {wb sb : Nat → Nat} {tt : Tok} {vs : List Value} {due : List Int} {c : Nat} {k code : Int}
    (B : Below A₀ base outer h₀) (F : Fr h₀ L s.heap m) (X : (hd.heap_39 w.params).In h₀) (N : News h₀ L s.heap ((x, instObj 259 dx) :: (dx, workD w wb sx) :: (sx, instObj 208 sdx) :: (sdx, stackD w sb l) :: (l, listOf vs.toArray c) :: rest)) (T : Top hd.view_39 loose mean mg mb h₀) (hk : cs.kind = .function) (hroom : dp + 40 < recursionLimit) (hunits : un + 200 < cLine)
    (hi : IntsAre vs (due ++ [k])) (hlen : due.length < 8) (hk1 : 1 ≤ k) (hk2 : k ≤ (due.length : Int)) (hbig : ∀ n ∈ due, -2147483648 ≤ n ∧ n ≤ 2147483647)
    (d1 : @Ne Nat x l ∧ @Ne Nat dx l ∧ @Ne Nat sx l ∧ @Ne Nat sdx l) (d2 : OwnOff rest [l])
    (hret : ∀ (vs' : List Value) (c9 : Nat) h' tk', Fr h₀ L h' m → News h₀ L h' ((x, instObj 259 dx) :: (dx, workD w wb sx) :: (sx, instObj 208 sdx) :: (sdx, stackD w sb l) :: (l, listOf vs'.toArray c9) :: rest) →
      IntsAre vs' (due.take (due.length - k.toNat) ++ due.drop (due.length - k.toNat + 1) ++ [due.getD (due.length - k.toNat) 0]) → Q .none { s with heap := h', toks := tk' }) :
    wpAny (model PP w) (ktrTop dp un gd cn cs L a ccd cl outer) (call (.ref 26) [.ref x, .int code tt]) Q E s := by
  have hMk := kstMark
  refine wpAny_call ?_
  k_dflt k_enter
  k_steps
  all_goals first | (show _ ≤ PySem.sizeLine; rw [PySem.sizeLine_eq]; omega) | skip
  · refine pops_rest (due := due) (l := l) (by k_updF) (by assumption) (by omega) ?_ ?_
    · intro vs9 c9 ns9 z9 ys9 I9 oI9 C9 oC9 D9 h9 tk9 E9 hv9 hl9 F9 N9 U9
      try dsimp only at N9 U9
      k_steps
      · assumption
      · assumption
      · assumption
    · intro vs9 c9 ys9 hv9 hy9
      k_steps
      rename Fr _ _ _ _ => fS
      rename News _ _ _ _ => nS
      rename News _ _ _ ((_, LCg.lst ys9) :: _) => nP
      have hsub : (k - 0).toNat = k.toNat := by omega
      rw [hsub] at hv9 hy9
      obtain ⟨xs, ex, hxs⟩ := held_pick (due := due) (p := due.length - k.toNat) (by omega) hy9
      have hlP := Heap.lt_size (nP (l, listOf vs9.toArray c9) (by k_mem)).1
      dsimp only at nS fS nP hlP ⊢
      rw [ex] at nS
      have hxl := hxs.length
      have hvl := hv9.length
      rw [List.length_take] at hvl
      rw [List.length_drop] at hxl
      have hsl : @Ne Nat _ l := fun e => Nat.lt_irrefl _ (Nat.lt_of_lt_of_le (e ▸ Nat.lt_succ_self _) (Nat.le_of_lt hlP))
      refine push_loop (l := l) (by rfl) (List.Mem.head _) hsl (by k_updF) hxs hv9 fS nS ?_ ?_
      · intro pre post n tn vs1 c1 h1 tk1 own hpp hv1 hoff f1 n1 u1
        have hvl1 := hv1.length
        rw [List.length_append, List.length_take] at hvl1
        have hpl := congrArg List.length hpp
        rw [List.length_drop, List.length_append, List.length_cons] at hpl
        have hnm : n ∈ due := List.mem_of_mem_drop (i := due.length - k.toNat + 1) (by rw [hpp]; simp)
        have hnb := hbig n hnm
        have hl8 : (List.take (due.length - k.toNat) due ++ pre).length < 8 := by rw [List.length_append, List.length_take]; omega
        k_steps
        · assumption
        · assumption
      · intro vs1 c1 u h1 tk1 hv1 f1 n1
        have hl8 : (List.take (due.length - k.toNat) due ++ List.drop (due.length - k.toNat + 1) due).length < 8 := by rw [List.length_append, List.length_take, List.length_drop]; omega
        have hmb : -2147483648 ≤ due.getD (due.length - k.toNat) 0 ∧ due.getD (due.length - k.toNat) 0 ≤ 2147483647 := by
          have hlt : due.length - k.toNat < due.length := by omega
          rw [List.getD_eq_getElem?_getD, List.getElem?_eq_getElem hlt]
          exact hbig _ (List.getElem_mem hlt)
        have hidx : ((due.length : Int) - k).toNat = due.length - k.toNat := by omega
        rw [hidx] at f1
        k_steps
        rename News _ _ _ _ => nE
        exact hret _ _ _ _ (by assumption) (kst_newsOf nE fun p hp => by first | exact List.mem_cons_of_mem _ (List.mem_cons_of_mem _ (List.mem_cons_of_mem _ hp)) | exact List.mem_cons_of_mem _ (List.mem_cons_of_mem _ hp) | exact List.mem_cons_of_mem _ hp | exact hp) (hv1.append (IntsAre.cons _ _ IntsAre.nil))
end
end
section
example : True := by
  k_with_none
  k_with "eval Dict" => (k_here; k_dflt ((refine' kdn_str ?_ ?_ ?_ ?_ ?_ ?_ ?_ ?_ ?_); (case refine'_5 => rfl); (case refine'_6 => k_asm); (case refine'_7 => k_asm); (case refine'_8 => exact Top.nolimit (by k_asm)); (case refine'_9 => rfl); (case refine'_10 => rfl); (case refine'_11 => exact List.cons_ne_nil _ _); (case refine'_12 => exact Nat.le_of_ble_eq_true rfl)); intro d' h' o' F' N' l1 lo' hd'; (try k_lt l1))
  k_with "enter" => (refine' code_def (by k_asm) (by k_asm) (by k_asm) (by k_asm) (by k_asm) (by exact rfl) (by exact rfl) (by assumption) (by k_is) (by k_is) (by k_room) (by first | exact BindsTo.of_eq rfl | exact binds_K (by k_in) rfl (by k_is) rfl rfl rfl | fail "k_enter: no rule for these arguments") (by exact locs rfl) ?_ (by exact rfl) (by exact rfl) (by exact rfl) (by decide); k_whole; intro g' L' h' FG' F' N' B' X' T'; (try dsimp only); (try k_lift B'); (try k_fold); (refine foldA ?_); intro A9; (refine foldV ?_); intro V9)
  k_with "room" => first | (refine' room_of (by assumption) (by ((try simp (config := { zetaDelta := true }) only [depth_under_make, depth_under_kw, depth_in1, depth_deeper, depth_caller]); (try dsimp (config := { zetaDelta := true }) only [ktrTop]); simp only [Nat.add_assoc, Nat.reduceAdd, Nat.add_le_add_iff_left, Nat.reduceLeDiff, Nat.le_add_right]))) | ktr_room
  k_with "units" => first | (refine' room_of (by assumption) (by ((try simp (config := { zetaDelta := true }) only [units_under_make, units_in1, units_deeper, Around.mark_units, units_caller]); (try dsimp (config := { zetaDelta := true }) only [ktrTop]); simp only [Nat.add_assoc, Nat.reduceAdd, Nat.add_le_add_iff_left, Nat.reduceLeDiff, Nat.le_add_right]))) | ktr_units
  k_with "pj0" => first | assumption | exact And.right (by k_extra "pj1")
  k_with "pj1" => first | assumption | exact And.right (by k_extra "pj2")
  k_with "pj2" => first | assumption | exact And.right (by k_extra "pj3")
  k_with "pj3" => first | assumption | exact And.right (by k_extra "pj4")
  k_with "pj4" => first | assumption | exact And.right (by k_extra "pj5")
  k_with "pj5" => first | assumption | exact And.right (by k_extra "pj6")
  k_with "pj6" => first | assumption | exact And.right (by k_extra "pj7")
  k_with "pj7" => first | assumption | exact And.right (by k_extra "pj8")
  k_with "pj8" => first | assumption | exact And.right (by k_extra "pj9")
  k_with "pj9" => first | assumption | exact And.right (by k_extra "pj10")
  k_with "pj10" => first | assumption | exact And.right (by k_extra "pj11")
  k_with "pj11" => first | assumption | exact And.right (by k_extra "pj12")
  k_with "pj12" => first | assumption | exact And.right (by k_extra "pj13")
  k_with "pj13" => first | assumption | exact And.right (by k_extra "pj14")
  k_with "pj14" => first | assumption | exact And.right (by k_extra "pj15")
  k_with "pj15" => first | assumption | exact And.right (by k_extra "pj16")
  k_with "pj16" => first | assumption | exact And.right (by k_extra "pj17")
  k_with "pj17" => first | assumption | exact And.right (by k_extra "pj18")
  k_with "pj18" => first | assumption | exact And.right (by k_extra "pj19")
  k_with "pj19" => first | assumption | exact And.right (by k_extra "pj20")
  k_with "pj20" => first | assumption | exact And.right (by k_extra "pj21")
  k_with "pj21" => first | assumption | exact And.right (by k_extra "pj22")
  k_with "pj22" => assumption
  k_with "ne9" => first | (refine Nat.ne_of_lt ?_; (first | assumption | exact And.left (by k_extra "pj0") | exact And.right (by k_extra "pj0"))) | (refine Nat.ne_of_gt ?_; (first | assumption | exact And.left (by k_extra "pj0") | exact And.right (by k_extra "pj0"))) | (first | assumption | exact And.left (by k_extra "pj0") | exact And.right (by k_extra "pj0")) | (refine Ne.symm ?_; (first | assumption | exact And.left (by k_extra "pj0") | exact And.right (by k_extra "pj0"))) | (refine pW ?_; (first | assumption | exact And.left (by k_extra "pj0") | exact And.right (by k_extra "pj0"))) | (refine pX ?_; (first | assumption | exact And.left (by k_extra "pj0") | exact And.right (by k_extra "pj0"))) | exact neT (by assumption) (by (first | assumption | exact And.left (by k_extra "pj0") | exact And.right (by k_extra "pj0")))
  k_with "ne" => (refine neN ?_; (try dsimp only); first | k_extra "ne9" | omega)
  k_with "omega" => first | with_reducible (first | (first | assumption | exact And.left (by k_extra "pj0") | exact And.right (by k_extra "pj0")) | exact oA (by assumption) | exact oB (by assumption) | exact oC (by assumption) | exact oD (by assumption) | exact oE (by assumption) (by assumption) | exact oF (by assumption) (by assumption) | exact oG (by assumption) (by assumption) | exact oH (by assumption) | exact oI (by assumption) | exact oJ (by assumption) | exact oK (by assumption) (by assumption) | exact oL (by assumption) (by assumption) | exact oM | exact oN (by assumption) | exact oO (by assumption) | exact idx1 (by assumption) (by assumption) | exact idx2 (by assumption) (by assumption) | exact oP (by assumption) (by assumption) | exact oQ | exact oR (by assumption) | exact oS (by assumption) | exact oT (by assumption) (by assumption) | exact oU (by assumption) (by assumption) | exact oV (by assumption) (by assumption) | exact oW (by assumption) | exact oX (by assumption) | exact oY (by assumption) | exact oZ (by assumption) (by assumption) | exact pA (by assumption) (by assumption) | exact pC (by assumption) | exact pB (by assumption) (by assumption) | exact pD (by assumption) | exact pE (by assumption) | exact pF (by assumption) | exact pG (by assumption) | exact pH (by assumption) | exact pI (by assumption) | exact pJ (by assumption) (by assumption) | exact pK (by assumption) | exact pL (by assumption) (by assumption) | exact pM | exact pN | exact pO (by assumption) | exact pP (by assumption) (by assumption) | exact pQ (by assumption) | exact pR (by assumption) | exact pS (by assumption) | exact pT (by assumption) | exact pU (by assumption) | exact pV (by assumption) | exact pY (by assumption) | exact oBad (by assumption) (by assumption) | exact oBad1 (by assumption) (by assumption) | exact qA (by assumption) | exact qB (by assumption) | exact qC (by assumption) | exact qD (by assumption) | exact qE (by assumption) | exact qF | exact qG (by assumption) (by assumption) | exact oT1 (by assumption) | exact oD1 (by assumption) | exact oD2 (by assumption)) | decide | ((first | (with_reducible show ¬ (_ = _)) | (with_reducible show @Ne Nat _ _)); k_extra "ne9")
  k_with "fold" => ((with_reducible show wpAny _ _ (eval _ _) _ _ _); (fail_if_success (with_reducible show wpAny _ _ (eval (PySem.Expr.Slice _ _ _ _) _) _ _ _)); (fail_if_success (fail_if_success k_fold)); refine foldQ ?_; intro Q9)
  k_with "fold" => ((with_reducible show wpAny _ _ (execs _ _) _ _ (Shared.mk _ _ _ (_ + _) _)); refine tokfold ?_; intro tk9)
  trivial
noncomputable def excHeap (h : Heap) (C : Addr) (rest : List Value) : Heap := (h.push { cls := .type "tuple", data := .seq rest.toArray }).push { cls := .ref C, data := .fields #[.ref h.objs.size, .none, .none, .none, .bool false, .none] }
theorem excHeap_keep {h : Heap} {C b : Addr} {rest : List Value} {o : Obj} (e : h.get? b = some o) : (excHeap h C rest).get? b = some o := Heap.get?_push_of_some _ (Heap.get?_push_of_some _ e)
theorem excHeap_get (h : Heap) (C : Addr) (rest : List Value) : (excHeap h C rest).get? (h.objs.size + 1) = some { cls := .ref C, data := .fields #[.ref h.objs.size, .none, .none, .none, .bool false, .none] } := by
  unfold excHeap; heap_get
section
variable {prog : Program} {w : World} {A : Around} {h : Heap} {g : Array GenState} {d : Drawn} {t : Nat} {os : OsState}
variable {nm q : Str} {C N : Addr} {bs bm : List Value} {hdct : Bool} {sn : List Str} {sub : List Value} {ab : Bool} {col : Option Bool} {dd : Option Addr} {k0 k1 k2 k3 k5 : Option Value} {Bn newId inN : String} {bmN : List Value}
theorem err_new {R : Result → Shared → Prop} (Fn : ExcBaseFacts Bn newId inN bmN) (hBn : bm.contains (.type Bn) = true) (hA : bm.contains (.type "AttributeError") = false) (hN : bm.contains (.type "NameError") = false) {rest : List Value} (hC : h.get? C = some (excClassObj nm q C N bs bm hdct sn sub ab col dd k0 k1 k2 k3 k5 newId))
    (hq : R (.ok (.ret (.ref (h.objs.size + 1)))) ⟨excHeap h C rest, g, d, t, os⟩) (hrest : rest.length ≤ sizeLine := by size_fits) :
    codeAny (model prog w) A (.builtin newId ⟨.ref C :: rest, []⟩) R ⟨h, g, d, t, os⟩ := by
  have hends := Fn.ends
  have hcB : (Value.ref C :: bm).contains (.type Bn) = true := by rw [List.contains_cons, hBn, Bool.or_true]
  have hcA : (Value.ref C :: bm).contains (.type "AttributeError") = false := by rw [List.contains_cons, hA]; rfl
  have hcN : (Value.ref C :: bm).contains (.type "NameError") = false := by rw [List.contains_cons, hN]; rfl
  refine codeAny_builtinAt Fn.entry ?_
  unfold Builtin.«BaseException.__new__»
  refine PySem.wpAt_bind ?_
  show PySem.wpAt _ _ _ (stack >>= _) _ _ _
  refine PySem.wpAt_bind (PySem.wpAt_stack fun p below => PySem.wpAt_of_wpAny ?_)
  wp_walk
  refine PySem.wpAt_of_wpAny ?_
  rw [Fn.owner]
  repeat (first | with_reducible refine wpAny_madeHere_exc Fn.canon hC ?_ | with_reducible refine wpAny_loadPart_at hC ?_ | (with_reducible refine wpAny_isSubtype_exc hC ?_; first | rw [hcB] | rw [hcA] | rw [hcN]) | wp_step)
  show R _ _
  rw [Heap.size_push]
  exact hq
theorem err_type_call {E : Value → Shared → Prop} (Fn : ExcBaseFacts Bn newId inN bmN) (hBn : bm.contains (.type Bn) = true) (hA : bm.contains (.type "AttributeError") = false) (hN : bm.contains (.type "NameError") = false) {rest : List Value} {fI : Addr} {oI : Obj} {Q : Fin → Shared → Prop}
    (hC : h.get? C = some (excClassObj nm q C N bs bm hdct sn sub ab col dd k0 k1 k2 k3 k5 newId)) (hi : Looks (model prog w) h (typeLookup (.ref C) "__init__") (some (.ref fI)))
    (hfI : h.get? fI = some oI) (hfc : oI.cls = .type "function")
    (hq : wpAny (model prog w) A (call (.ref fI) (.ref (h.objs.size + 1) :: rest)) (fun r s' => r = .none ∧ Q (.done (.ret (.ref (h.objs.size + 1)))) s') E ⟨excHeap h C rest, g, d, t, os⟩) (hrest : rest.length ≤ sizeLine := by size_fits) :
    wpAny (model prog w) A (Builtin.«type.__call__» ⟨.ref C :: rest, []⟩) Q E ⟨h, g, d, t, os⟩ := by
  repeat (first | with_reducible refine wpAny_loadPart_at hC ?_ | with_reducible refine wpAny_madeBy_exc hC ?_ | wp_step)
  refine codeAny_call_builtin_code (Code.quiet_builtin _ Fn.quiet) (wpAny_check_new_subU Fn hBn OwnTail.base hC ?_)
  refine err_new Fn hBn hA hN hC ?_ hrest
  show wpAny _ _ _ _ _ _
  have hC₁ := excHeap_keep (C := C) (rest := rest) hC
  have hfI₁ := excHeap_keep (C := C) (rest := rest) hfI
  have hi₁ := hi.keeps fun b o e => excHeap_keep (C := C) (rest := rest) e
  have hget := excHeap_get h C rest
  have hcC : (Value.ref C :: bm).contains (.ref C) = true := by simp
  unfold isInstance
  repeat (first | with_reducible refine wpAny_loadPart_at hget ?_ | (with_reducible refine wpAny_isSubtype_exc hC₁ ?_; rw [hcC]) | wp_step)
  show wpAny _ _ (typeLookup (.ref C) _) _ _ _
  refine hi₁.here ?_
  refine wpAny_holding (wpAny_bind ?_)
  unfold bindSpecial
  refine wpAny_bind (wpAny_typeOf (T := "function") ⟨_, hfI₁, hfc⟩ ?_)
  rw [if_pos (by decide)]
  refine wpAny_pure (wpAny_bind (wpAny_mono hq (fun r s' hr => ?_) fun _ _ x => x))
  obtain ⟨rfl, hQ⟩ := hr
  wp_walk
  exact hQ
theorem err_call {E : Value → Shared → Prop} (Fn : ExcBaseFacts Bn newId inN bmN) (hBn : bm.contains (.type Bn) = true) (hA : bm.contains (.type "AttributeError") = false) (hN : bm.contains (.type "NameError") = false) {rest : List Value} {fI : Addr} {oI : Obj} {Q : Value → Shared → Prop}
    (hC : h.get? C = some (excClassObj nm q C N bs bm hdct sn sub ab col dd k0 k1 k2 k3 k5 newId)) (hi : Looks (model prog w) h (typeLookup (.ref C) "__init__") (some (.ref fI)))
    (hfI : h.get? fI = some oI) (hfc : oI.cls = .type "function")
    (hq : wpAny (model prog w) (A.under (.builtin "type.__call__" ⟨.ref C :: rest, []⟩)) (call (.ref fI) (.ref (h.objs.size + 1) :: rest)) (fun r s' => r = .none ∧ Q (.ref (h.objs.size + 1)) s') E ⟨excHeap h C rest, g, d, t, os⟩) (hrest : rest.length ≤ sizeLine := by size_fits) :
    wpAny (model prog w) A (call (.ref C) rest) Q E ⟨h, g, d, t, os⟩ := by
  have f1 := tc_lookup
  have f2 := tc_bind (.ref C)
  have hT : (⟨h, g, d, t, os⟩ : Shared).TypeIs (.ref C) "type" := ⟨_, hC, rfl⟩
  refine wpAny_call (codeAny_of_tree ?_)
  show wpAny _ _ (callAny (.ref C) _) _ _ _
  repeat (any_goals (first | assumption | with_reducible refine wpAny_loadPart_at hC ?_ | wp_step))
  refine ⟨rfl, ?_⟩
  refine codeAny_call_builtin_at (Code.quiet_builtin _ (by decide +kernel)) entry_typeCall (wpAny_check_type_call_sub hC (err_type_call (hrest := hrest) Fn hBn hA hN hC hi hfI hfc hq))
end
section
variable {prog : Program} {w : World} {A : Around} {h : Heap} {g : Array GenState} {d : Drawn} {t : Nat} {os : OsState}
variable {nm q : Str} {C P N x : Addr} {bs bm : List Value} {sn : List Str} {sub : List Value} {ab : Bool} {col : Option Bool} {dd : Option Addr} {k0 k1 k2 k3 k5 : Option Value} {B newId sa owner : String} {name : Str} {v : Value} {o : Obj}
theorem err_check_sa {E : Value → Shared → Prop} {M : Model} {nameV : Value} {Q : Unit → Shared → Prop} (SF : StoreFacts B bm sa owner)
    (hC : h.get? C = some (excClassObj nm q C N bs (.ref P :: bm) true sn sub ab col dd k0 k1 k2 k3 k5 newId)) (hx : h.get? x = some o) (hc : o.cls = .ref C) (hq : Q () ⟨h, g, d, t, os⟩) :
    wpAny M A (checkBuiltinCall sa ⟨[.ref x, nameV, v], []⟩) Q E ⟨h, g, d, t, os⟩ := by
  have hcB : (Value.ref C :: Value.ref P :: bm).contains (.type owner) = true := by rw [List.contains_cons, List.contains_cons, SF.hasOwner, Bool.or_true, Bool.or_true]
  have ha := SF.args (.ref x) nameV v
  simp only [checkBuiltinCall, SF.kind, SF.split]
  refine wpAny_bind ?_
  · unfold isInstance
    repeat (first | (with_reducible refine wpAny_loadPart_at hx ?_; rw [hc]) | (with_reducible refine wpAny_isSubtype_exc hC ?_; rw [hcB]) | wp_step)
    cases hsig : Manifest.signature? sa with
    | none => exact wpAny_pure hq
    | some sig =>
      simp only [argsOk, hsig] at ha
      have h2 : Bind.checkArgs sa sig ⟨[.ref x, nameV, v], []⟩ = pure () := ha
      show wpAny M A (Bind.checkArgs sa sig ⟨[.ref x, nameV, v], []⟩) Q E _
      rw [h2]; exact wpAny_pure hq
theorem put_dict {P : Heap → Prop} {h : Heap} {x : Addr} {o : Obj} {fs : Array Value} (hx : h.get? x = some o) (hfd : o.data = .fields fs)
    (k : ∀ G : Heap, x ≠ h.objs.size → G.get? h.objs.size = some { cls := .type "dict", data := .dict #[] } → (∀ b ob, b ≠ x → h.get? b = some ob → G.get? b = some ob) → G.get? x = some { cls := o.cls, dict := some h.objs.size, data := o.data, slots := o.slots } → P G) :
    P ((h.push { cls := .type "dict", data := .dict #[] }).update x fun o => { cls := o.cls, dict := some h.objs.size, data := o.data, slots := o.slots }) := by
  have hxs : x ≠ h.objs.size := Nat.ne_of_lt (Heap.lt_size hx)
  exact k _ hxs ((Heap.get?_update_ne _ _ _ _ hxs.symm).trans (Heap.get?_push_at rfl rfl)) (fun b ob hbx hb => (Heap.get?_update_ne _ _ _ _ hbx).trans (Heap.get?_push_of_some _ hb)) (Heap.get?_update_self _ (Heap.get?_push_of_some _ hx) (Obj.isFreed_of_fields hfd))
theorem err_store_entry {E : Value → Shared → Prop} {tk : Tok} {Q : PySem.Fin → Shared → Prop} (SF : StoreFacts B bm sa owner)
    (hC : h.get? C = some (excClassObj nm q C N bs (.ref P :: bm) true sn sub ab col dd k0 k1 k2 k3 k5 newId)) (hl : Looks (model prog w) h (typeLookup (.ref C) name) none)
    (hx : h.get? x = some o) (hc : o.cls = .ref C) {fs : Array Value} (hfd : o.data = .fields fs) (hdn : o.dict = none)
    (hq : ∀ h' tk', h'.get? x = some { cls := o.cls, dict := some h.objs.size, data := o.data, slots := o.slots } → (∀ b ob, b ≠ x → h.get? b = some ob → h'.get? b = some ob) → (∃ od, h'.get? h.objs.size = some od) → Q (.done (.ret .none)) ⟨h', g, d, tk', os⟩) :
    wpAny (model prog w) A (Builtin.«object.__setattr__» ⟨[.ref x, .str name tk, v], []⟩) Q E ⟨h, g, d, t, os⟩ := by
  have hpass := SF.passes (.ref x)
  unfold Builtin.«object.__setattr__»
  repeat (first | rw [refuse_eq] | (rw [refuseLoop_ref, refuseLoop_ref, hpass]) | (with_reducible refine wpAny_loadPart_at hx ?_; rw [hc]) | with_reducible refine wpAny_mroOf_exc hC ?_ | (with_reducible refine hl.at ?_) | wp_step)
  rw [hdn, hfd, if_neg (by simp [typeHasDict])]
  · refine wpAny_bind (wpAny_alloc' ?_)
    refine wpAny_bind (wpAny_update' (Heap.get?_push_of_some _ hx) ?_)
    refine wpAny_pure ?_
    refine put_dict (P := fun G => wpAny (model prog w) A _ Q E ⟨G, g, d, _, os⟩) hx hfd fun G hxs gd gk gx => ?_
    have hnd : G.Ns h.objs.size (fun _ => none) := ⟨_, #[], _, gd, rfl, fun e he => absurd he (by simp), fun _ => rfl⟩
    show wpAny _ _ (PySem.Builtin.ObjectAttr.storeInDict h.objs.size (.str name tk) name v) _ _ _
    unfold PySem.Builtin.ObjectAttr.storeInDict PySem.Builtin.ObjectAttr.newKeyGuard
    refine wpAny_bind (wpAny_pure (wpAny_bind (wpAny_nsSet1 (Heap.Ns1.of_empty hnd) fun h' hn' hs => ?_)))
    obtain ⟨oD, esD, epD, hoD, hdD, hcD⟩ := hn'.count (Within.cons name v Within.nil)
    refine wpAny_bind (wpAny_lookBehind hoD (by rw [hdD]; exact pastItsLine_dict (Nat.le_trans hcD (by rw [List.length_cons, List.length_nil, sizeLine_eq]; decide))) ?_)
    wp_walk
    exact hq h' _ ((hs.2 x hxs).trans gx) (fun b ob hbx hb => (hs.2 b (Nat.ne_of_lt (Heap.lt_size hb))).trans (gk b ob hbx hb)) ⟨_, hoD⟩
theorem err_store_attr {E : Value → Shared → Prop} {Q : Unit → Shared → Prop} (SF : StoreFacts B bm sa owner)
    (hC : h.get? C = some (excClassObj nm q C N bs (.ref P :: bm) true sn sub ab col dd k0 k1 k2 k3 k5 newId)) (hs : Looks (model prog w) h (typeLookup (.ref C) "__setattr__") (some (.builtin sa))) (hl : Looks (model prog w) h (typeLookup (.ref C) name) none)
    (hx : h.get? x = some o) (hc : o.cls = .ref C) {fs : Array Value} (hfd : o.data = .fields fs) (hdn : o.dict = none)
    (hq : ∀ h' tk', h'.get? x = some { cls := o.cls, dict := some h.objs.size, data := o.data, slots := o.slots } → (∀ b ob, b ≠ x → h.get? b = some ob → h'.get? b = some ob) → (∃ od, h'.get? h.objs.size = some od) → Q () ⟨h', g, d, tk', os⟩) :
    wpAny (model prog w) A (setAttr (.ref x) name v) Q E ⟨h, g, d, t, os⟩ := by
  have f3 := SF.slot.bind (.ref x)
  unfold setAttr callSpecial? specialOf
  repeat (any_goals (first | assumption | (with_reducible refine wpAny_loadPart_at hx ?_; rw [hc]) | (with_reducible refine hs.at ?_) | wp_step))
  refine codeAny_call_builtin SF.slot.plain SF.entry (err_check_sa SF hC hx hc (err_store_entry SF hC hl hx hc hfd hdn fun h' tk' hx' hk hd => ?_))
  repeat (any_goals (first | assumption | wp_step))
  exact hq h' tk' hx' hk hd
end
theorem excCls_of {P : Prop} {K : Frag} {h : Heap} {C N : Addr} {nm q : Str} {bs bm : List Value} {hdct : Bool} {sn : List Str} {sub : List Value} {ab : Bool} {col : Option Bool} {dd : Option Addr} {k0 k1 k2 k3 k5 : Option Value} {newId : String} (X : K.In h)
    (e : K.lookup C = some (excClassObj nm q C N bs bm hdct sn sub ab col dd k0 k1 k2 k3 k5 newId)) (e1 : bm = [.ref 43, .type "Exception", .type "BaseException", .type "object"]) (e2 : hdct = true) (e3 : newId = "Exception.__new__")
    (k : ∀ nm q N bs sn sub ab col dd k0 k1 k2 k3 k5, h.get? C = some (excClassObj nm q C N bs [.ref 43, .type "Exception", .type "BaseException", .type "object"] true sn sub ab col dd k0 k1 k2 k3 k5 "Exception.__new__") → P) : P := by
  subst e1 e2 e3
  exact k _ _ _ _ _ _ _ _ _ _ _ _ _ _ (X _ _ e)
theorem fnObj_of {K : Frag} {h : Heap} {f : Addr} {o : Obj} (X : K.In h) (e : K.lookup f = some o) (e1 : o.cls = .type "function") : ∃ o, h.get? f = some o ∧ o.cls = .type "function" := ⟨o, X _ _ e, e1⟩
theorem fault_cls {P : Prop} {w : World} {h : Heap} (X : (hd.heap_39 w.params).In h) (k : ∀ nm q N bs sn sub ab col dd k0 k1 k2 k3 k5, h.get? 56 = some (excClassObj nm q 56 N bs [.ref 43, .type "Exception", .type "BaseException", .type "object"] true sn sub ab col dd k0 k1 k2 k3 k5 "Exception.__new__") → P) : P := by
  refine' excCls_of X ?e ?e1 ?e2 ?e3 k
  case e => k_is
  case e1 => rfl
  case e2 => rfl
  case e3 => rfl
theorem fault_fn {w : World} {h : Heap} (X : (hd.heap_39 w.params).In h) : ∃ o, h.get? 40 = some o ∧ o.cls = .type "function" := by
  refine' fnObj_of X ?e ?c
  case e => k_is
  case c => rfl
theorem fault_init {w : World} {h : Heap} (X : (hd.heap_39 w.params).In h) : Looks (model PP w) h (typeLookup (.ref 56) "__init__") (some (.ref 40)) := by
  refine looks_findIn X ?_
  k_is
theorem fault_set {w : World} {h : Heap} (X : (hd.heap_39 w.params).In h) : Looks (model PP w) h (typeLookup (.ref 56) "__setattr__") (some (.builtin "object.__setattr__")) := by
  refine looks_findIn X ?_
  k_is
theorem fault_msg {w : World} {h : Heap} (X : (hd.heap_39 w.params).In h) : Looks (model PP w) h (typeLookup (.ref 56) "message") none := by
  refine looks_findIn X ?_
  k_is
section
noncomputable abbrev errNew (t : Addr) : Obj := { cls := .ref 56, data := .fields #[.ref t, .none, .none, .none, .bool false, .none] }
noncomputable abbrev errObj (t d : Addr) : Obj := { cls := .ref 56, dict := some d, data := .fields #[.ref t, .none, .none, .none, .bool false, .none] }
theorem fr_upd {h₀ h h' : Heap} {L x : Addr} {m : Str → Option Value} (F : Fr h₀ L h m) (hL : x ≠ L) (h0 : h₀.get? x = none) (hk : ∀ b o, b ≠ x → h.get? b = some o → h'.get? b = some o) : Fr h₀ L h' m := by
  obtain ⟨⟨o, es, ep, ho, r⟩, keep, above⟩ := F
  exact ⟨⟨o, es, ep, hk _ _ (Ne.symm hL) ho, r⟩, fun b o e => hk b o (fun q => by rw [q, h0] at e; cases e) (keep b o e), above⟩
theorem exc_new {P : Heap → Addr → Addr → Prop} {h₀ h : Heap} {L : Addr} {m : Str → Option Value} {news : List (Addr × Obj)} {vs : List Value} (F : Fr h₀ L h m) (N : News h₀ L h news)
    (k : ∀ H e t, Fr h₀ L H m → News h₀ L H ((e, errNew t) :: (t, { cls := .type "tuple", data := .seq vs.toArray }) :: news) → (∀ p ∈ news, p.1 ≠ e) → P H e t) : P (excHeap h 56 vs) (h.objs.size + 1) h.objs.size := by
  have N2 := (N.push F { cls := .type "tuple", data := .seq vs.toArray }).push (F.push _) (errNew h.objs.size)
  rw [Heap.size_push] at N2
  exact k _ _ _ ((F.push _).push _) N2 fun p hp => Nat.ne_of_lt (Nat.lt_succ_of_lt (Heap.lt_size (N p hp).1))
theorem fault_ok {w : World} {mg mb : Str → Option Value} {mean : ExcName → Option Value} {loose : List Str} {dp un : Nat} {gd : Option (List Code)} {cn : Str} {cs : Scope} {a : Addr} {ccd : Value} {cl : List (Str × Addr)} {outer : List Env} {A₀ : Around} {base h₀ : Heap} {L : Addr} {m : Str → Option Value} {s : Shared} {Q E : Value → Shared → Prop} {news : List (Addr × Obj)}
    {msg : Str} {tm : Tok}
    (B : Below A₀ base outer h₀) (F : Fr h₀ L s.heap m) (X : (hd.heap_39 w.params).In h₀) (N : News h₀ L s.heap news) (T : Top hd.view_39 loose mean mg mb h₀) (hk : cs.kind = .function) (hroom : dp + 10 < recursionLimit) (hunits : un + 60 < cLine)
    (hret : ∀ (e t d : Addr) h' tk', Fr h₀ L h' m → News h₀ L h' ((e, errObj t d) :: news) → (∀ p ∈ news, p.1 ≠ e) → Q (.ref e) { s with heap := h', toks := tk' }) :
    wpAny (model PP w) (ktrTop dp un gd cn cs L a ccd cl outer) (call (.ref 56) [.str msg tm]) Q E s := by
  have hMk := kstMark
  obtain ⟨hp, g, dr, tk, os⟩ := s
  have Xs := X.keeps F.keep
  refine fault_cls Xs fun nm q N0 bs sn sub ab col dd k0 k1 k2 k3 k5 hC => ?_
  obtain ⟨oI, hoI, hcI⟩ := fault_fn Xs
  refine err_call PySem.F.excBase_Exception (by decide) (by decide) (by decide) hC (fault_init Xs) hoI hcI ?_
  refine exc_new (P := fun H e t => wpAny (model PP w) _ (call (.ref 40) [.ref e, .str msg tm]) (fun r s' => r = .none ∧ Q (.ref e) s') E ⟨H, g, dr, tk, os⟩) F N fun H e t F1 N2 hfar => ?_
  clear F N
  refine wpAny_call ?_
  k_dflt k_enter
  k_steps
  rename Fr _ _ _ _ => fS
  rename News _ _ _ _ => nS
  rename Frag.In _ _ => xS
  have Xh := xS.keeps fS.keep
  refine fault_cls Xh fun nm2 q2 N02 bs2 sn2 sub2 ab2 col2 dd2 k02 k12 k22 k32 k52 hC2 => ?_
  have hx := nS _ (List.Mem.head _)
  refine err_store_attr PySem.F.store_Exception hC2 (fault_set Xh) (fault_msg Xh) hx.1 rfl rfl rfl fun h2 tk2 hx2 hk2 _ => ?_
  have f2 := fr_upd fS hx.2.1 hx.2.2 hk2
  have n2 : News _ _ h2 ((e, errObj t _) :: news) := fun p hp => by
    rcases List.mem_cons.mp hp with rfl | hp
    · exact ⟨hx2, hx.2⟩
    · have z := nS p (List.mem_cons_of_mem _ (List.mem_cons_of_mem _ hp))
      exact ⟨hk2 _ _ (hfar p hp) z.1, z.2⟩
  clear fS nS
  k_steps
  rename News _ _ _ _ => nE
  exact hret _ _ _ _ _ (by assumption) nE hfar
end
section
variable {M : Model} {A : Around} {E : Value → Shared → Prop} {s' : Shared} {base g g₂ : Heap} {outer : List Env} {L e t d : Addr} {m : Str → Option Value} {Q : Unit → Shared → Prop} {news : List (Addr × Obj)} {env : Env}
theorem frames_mem {b : Addr} (hf : env.frame = some L) (hm : b ∈ (env :: outer).filterMap (·.frame)) : b = L ∨ b ∈ outer.filterMap (·.frame) := by
  obtain ⟨e', he, hf'⟩ := List.mem_filterMap.mp hm
  rcases List.mem_cons.mp he with rfl | he
  · rw [hf] at hf'; exact .inl (Option.some.inj hf').symm
  · exact .inr (List.mem_filterMap.mpr ⟨e', he, hf'⟩)
theorem hide_err {h : Heap} {oe : Obj} {l : List Addr} (st : base.StaysIn g) (F : Fr g L h m) (N : News g L h ((e, oe) :: news)) (hne : ∀ p ∈ news, p.1 ≠ e) (hb : ∀ b ∈ l, base.get? b = none) (hl : ∀ b ∈ l, b = L ∨ b ∈ outer.filterMap (·.frame)) (hn : ∀ q ∈ news, q.1 ∉ l) :
    base.StaysIn (hideAll h (e :: l)) ∧ (∀ b o, g.get? b = some o → b ∉ outer.filterMap (·.frame) → (hideAll h (e :: l)).get? b = some o) ∧ ∀ q ∈ news, (hideAll h (e :: l)).get? q.1 = some q.2 ∧ g.get? q.1 = none ∧ base.get? q.1 = none := by
  have hx := (N _ (List.Mem.head _)).2.2
  have hge : ∀ b o, g.get? b = some o → b ≠ e := fun b o q z => by rw [z, hx] at q; cases q
  refine ⟨fun b o q => hideAll_get _ (F.keep b o (st b o q)) fun hm => ?_, fun b o q nm => hideAll_get _ (F.keep b o q) fun hm => ?_, fun q hq => ?_⟩
  · rcases List.mem_cons.mp hm with z | hm
    · exact hge b o (st b o q) z
    · rw [hb b hm] at q; cases q
  · rcases List.mem_cons.mp hm with z | hm
    · exact hge b o q z
    · rcases hl b hm with z | z
      · rw [z, kts_self F] at q
        cases q
      · exact nm z
  · have z := N q (List.mem_cons_of_mem _ hq)
    refine ⟨hideAll_get _ z.1 fun hm => ?_, z.2.2, fresh_of_stays st z.2.2⟩
    rcases List.mem_cons.mp hm with y | hm
    · exact hne q hq y
    · exact hn q hq hm
theorem leave_err {name : Str} {scope : Scope} {a : Addr} {cd : Value} (K : Below A base outer g) (F : Fr g L s'.heap m) (N : News g L s'.heap ((e, errObj t d) :: news)) (hne : ∀ p ∈ news, p.1 ≠ e) (hk : scope.kind = .function)
    (hQ : ∀ h', RaisedSN base g outer e (.ref 56) news h' → g.UpToSlots h' → Q () { s' with heap := h' }) :
    wpAny M (A.deeper (envOf name scope L a cd)) (leaving (envOf name scope L a cd) (.ref e)) Q E s' := by
  have K' := K.push (name := name) (a := a) (cd := cd) F hk
  have H := hide_err (outer := outer) K.stays F N hne (fun b hm => (K'.frames.mem hm).1) (fun b hm => kts_mem hm) fun q hq hm => by
    obtain ⟨env, he, hf⟩ := List.mem_filterMap.mp hm
    have z := (N q (List.mem_cons_of_mem _ hq)).2
    rcases List.mem_cons.mp he with rfl | he
    · exact z.1 (Option.some.inj hf).symm
    · obtain ⟨o, ho, _⟩ := (K.frames.mem (List.mem_filterMap.mpr ⟨env, he, hf⟩)).2
      rw [z.2] at ho; cases ho
  refine wpAny_leaving_firstW (a0 := .ref t) K'.stack (funFrames_hide K'.frames fun env he b hb => List.mem_cons_of_mem _ (List.mem_filterMap.mpr ⟨env, he, hb⟩)) rfl (N _ (List.Mem.head _)).1 (fun b o hb => of_hideAll _ hb) (hideAll_none _ (List.Mem.head _)) rfl rfl rfl fun h' hL => ?_
  exact hQ h' ⟨_, .ref t, H.1, H.2.1, H.2.2, hL.1, hideAll_none _ (List.Mem.head _), hL.2.1.2.2, hL.2.2.1⟩ ((Heap.UpToSlots.of_keeps F.keep).trans hL.2.2.2)
theorem leave_err_on {cls : Value} (K : Below A base outer g) (F : Fr g L g₂ m) (hf : env.frame = some L) (R : RaisedSN base g₂ (env :: outer) e cls news s'.heap) (hsm : g₂.UpToSlots s'.heap)
    (hQ : ∀ h', RaisedSN base g outer e cls news h' → g.UpToSlots h' → Q () { s' with heap := h' }) :
    wpAny M (A.deeper env) (leaving env (.ref e)) Q E s' := by
  obtain ⟨B, a0, hB, hBG, hl, hfl⟩ := R
  exact wpAny_leaves_onW (Around.frames_deeper K.stack) hf hfl fun h' x1 x2 =>
    have R : RaisedSN base g outer e cls news h' := ⟨B, a0, hB, fun b o q nm => hBG b o (F.keep b o q) (fun hm => by
      rcases frames_mem hf hm with z | z
      · rw [z, kts_self F] at q
        cases q
      · exact nm z), fun q hq => ⟨(hl q hq).1, kts_none F.keep (hl q hq).2.1, (hl q hq).2.2⟩, x1⟩
    hQ h' R ((Heap.UpToSlots.of_keeps F.keep).trans (hsm.trans x2))
end
def RaiseUp (prog : Program) (w : World) (E : Value → Shared → Prop) (v : Value) (s : Shared) : Prop :=
  ∃ e t d, v = .ref e ∧ s.heap.get? e = some (errObj t d) ∧ (hd.heap_39 w.params).In s.heap ∧ E (.ref e) s
theorem RaiseUp.intro {w : World} {E : Value → Shared → Prop} {s : Shared} {e t d : Addr} {h₀ : Heap} {L : Addr} {m : Str → Option Value} {news : List (Addr × Obj)} (F : Fr h₀ L s.heap m) (X : (hd.heap_39 w.params).In h₀) (N : News h₀ L s.heap news) (he : (e, errObj t d) ∈ news) (h : E (.ref e) s) : RaiseUp PP w E (.ref e) s :=
  ⟨e, t, d, rfl, (N _ he).1, X.keeps F.keep, h⟩
theorem raise_err {w : World} {A : Around} {E : Value → Shared → Prop} {s : Shared} {env : Env} {c pos : _} {Q : Flow → Shared → Prop} (hh : A.handled = none)
    (h : wpAny (model PP w) A (eval c env) (RaiseUp PP w E) E s) : wpAny (model PP w) A (exec (.Raise (some c) none pos) env) Q E s := by
  rw [arm_exec_Raise]
  refine wpAny_bind (wpAny_standAt ?_)
  have e0 : evalOpt none env = none := rfl
  simp only [arm_evalOpt_some, e0, Option.map]
  unfold raiseStmt
  refine wpAny_bind (wpAny_mono (?_ : wpAny (model PP w) A _ (RaiseUp PP w E) E s) (fun v s₁ h₁ => ?_) fun _ _ x => x)
  · exact wpAny_bind (wpAny_mono h (fun v s₃ h₃ => wpAny_bind (wpAny_standAt (wpAny_pure h₃))) fun _ _ x => x)
  · obtain ⟨e, t, d, rfl, he, X, hE⟩ := h₁
    obtain ⟨hp, g, dr, tk, os⟩ := s₁
    refine fault_cls X fun nm q N0 bs sn sub ab col dd k0 k1 k2 k3 k5 hC => ?_
    have hcB : (Value.ref 56 :: [Value.ref 43, .type "Exception", .type "BaseException", .type "object"]).contains (.type "BaseException") = true := by decide
    repeat (first | with_reducible refine wpAny_loadPart_at he ?_ | with_reducible refine wpAny_loadPart_at hC ?_ | (with_reducible refine wpAny_isSubtype_exc hC ?_; rw [hcB]) | wp_step)
    exact wpAny_raiseNew_none hh hE
theorem raised_less {base G : Heap} {l : List Env} {e : Addr} {cls : Value} {news news' : List (Addr × Obj)} {h : Heap} (R : RaisedSN base G l e cls news h) (hs : ∀ p ∈ news', p ∈ news) : RaisedSN base G l e cls news' h := by
  obtain ⟨B, a0, hB, hBG, hl, hfl⟩ := R
  exact ⟨B, a0, hB, hBG, fun q hq => hl q (hs q hq), hfl⟩
section
example : True := by
  k_with_none
  k_with "eval Dict" => (k_here; k_dflt ((refine' kdn_str ?_ ?_ ?_ ?_ ?_ ?_ ?_ ?_ ?_); (case refine'_5 => rfl); (case refine'_6 => k_asm); (case refine'_7 => k_asm); (case refine'_8 => exact Top.nolimit (by k_asm)); (case refine'_9 => rfl); (case refine'_10 => rfl); (case refine'_11 => exact List.cons_ne_nil _ _); (case refine'_12 => exact Nat.le_of_ble_eq_true rfl)); intro d' h' o' F' N' l1 lo' hd'; (try k_lt l1))
  k_with "enter" => (refine' code_def (by k_asm) (by k_asm) (by k_asm) (by k_asm) (by k_asm) (by exact rfl) (by exact rfl) (by assumption) (by k_is) (by k_is) (by k_room) (by first | exact BindsTo.of_eq rfl | exact binds_K (by k_in) rfl (by k_is) rfl rfl rfl | fail "k_enter: no rule for these arguments") (by exact locs rfl) ?_ (by exact rfl) (by exact rfl) (by exact rfl) (by decide); k_whole; intro g' L' h' FG' F' N' B' X' T'; (try dsimp only); (try k_lift B'); (try k_fold); (refine foldA ?_); intro A9; (refine foldV ?_); intro V9)
  k_with "room" => first | (refine' room_of (by assumption) (by ((try simp (config := { zetaDelta := true }) only [depth_under_make, depth_under_kw, depth_in1, depth_deeper, depth_caller]); (try dsimp (config := { zetaDelta := true }) only [ktrTop]); simp only [Nat.add_assoc, Nat.reduceAdd, Nat.add_le_add_iff_left, Nat.reduceLeDiff, Nat.le_add_right]))) | ktr_room
  k_with "units" => first | (refine' room_of (by assumption) (by ((try simp (config := { zetaDelta := true }) only [units_under_make, units_in1, units_deeper, Around.mark_units, units_caller]); (try dsimp (config := { zetaDelta := true }) only [ktrTop]); simp only [Nat.add_assoc, Nat.reduceAdd, Nat.add_le_add_iff_left, Nat.reduceLeDiff, Nat.le_add_right]))) | ktr_units
  k_with "pj0" => first | assumption | exact And.right (by k_extra "pj1")
  k_with "pj1" => first | assumption | exact And.right (by k_extra "pj2")
  k_with "pj2" => first | assumption | exact And.right (by k_extra "pj3")
  k_with "pj3" => first | assumption | exact And.right (by k_extra "pj4")
  k_with "pj4" => first | assumption | exact And.right (by k_extra "pj5")
  k_with "pj5" => first | assumption | exact And.right (by k_extra "pj6")
  k_with "pj6" => first | assumption | exact And.right (by k_extra "pj7")
  k_with "pj7" => first | assumption | exact And.right (by k_extra "pj8")
  k_with "pj8" => first | assumption | exact And.right (by k_extra "pj9")
  k_with "pj9" => first | assumption | exact And.right (by k_extra "pj10")
  k_with "pj10" => first | assumption | exact And.right (by k_extra "pj11")
  k_with "pj11" => first | assumption | exact And.right (by k_extra "pj12")
  k_with "pj12" => first | assumption | exact And.right (by k_extra "pj13")
  k_with "pj13" => first | assumption | exact And.right (by k_extra "pj14")
  k_with "pj14" => first | assumption | exact And.right (by k_extra "pj15")
  k_with "pj15" => first | assumption | exact And.right (by k_extra "pj16")
  k_with "pj16" => first | assumption | exact And.right (by k_extra "pj17")
  k_with "pj17" => first | assumption | exact And.right (by k_extra "pj18")
  k_with "pj18" => first | assumption | exact And.right (by k_extra "pj19")
  k_with "pj19" => first | assumption | exact And.right (by k_extra "pj20")
  k_with "pj20" => first | assumption | exact And.right (by k_extra "pj21")
  k_with "pj21" => first | assumption | exact And.right (by k_extra "pj22")
  k_with "pj22" => assumption
  k_with "ne9" => first | (refine Nat.ne_of_lt ?_; (first | assumption | exact And.left (by k_extra "pj0") | exact And.right (by k_extra "pj0"))) | (refine Nat.ne_of_gt ?_; (first | assumption | exact And.left (by k_extra "pj0") | exact And.right (by k_extra "pj0"))) | (first | assumption | exact And.left (by k_extra "pj0") | exact And.right (by k_extra "pj0")) | (refine Ne.symm ?_; (first | assumption | exact And.left (by k_extra "pj0") | exact And.right (by k_extra "pj0"))) | (refine pW ?_; (first | assumption | exact And.left (by k_extra "pj0") | exact And.right (by k_extra "pj0"))) | (refine pX ?_; (first | assumption | exact And.left (by k_extra "pj0") | exact And.right (by k_extra "pj0"))) | exact neT (by assumption) (by (first | assumption | exact And.left (by k_extra "pj0") | exact And.right (by k_extra "pj0")))
  k_with "ne" => (refine neN ?_; (try dsimp only); first | k_extra "ne9" | omega)
  k_with "omega" => first | with_reducible (first | (first | assumption | exact And.left (by k_extra "pj0") | exact And.right (by k_extra "pj0")) | exact oA (by assumption) | exact oB (by assumption) | exact oC (by assumption) | exact oD (by assumption) | exact oE (by assumption) (by assumption) | exact oF (by assumption) (by assumption) | exact oG (by assumption) (by assumption) | exact oH (by assumption) | exact oI (by assumption) | exact oJ (by assumption) | exact oK (by assumption) (by assumption) | exact oL (by assumption) (by assumption) | exact oM | exact oN (by assumption) | exact oO (by assumption) | exact idx1 (by assumption) (by assumption) | exact idx2 (by assumption) (by assumption) | exact oP (by assumption) (by assumption) | exact oQ | exact oR (by assumption) | exact oS (by assumption) | exact oT (by assumption) (by assumption) | exact oU (by assumption) (by assumption) | exact oV (by assumption) (by assumption) | exact oW (by assumption) | exact oX (by assumption) | exact oY (by assumption) | exact oZ (by assumption) (by assumption) | exact pA (by assumption) (by assumption) | exact pC (by assumption) | exact pB (by assumption) (by assumption) | exact pD (by assumption) | exact pE (by assumption) | exact pF (by assumption) | exact pG (by assumption) | exact pH (by assumption) | exact pI (by assumption) | exact pJ (by assumption) (by assumption) | exact pK (by assumption) | exact pL (by assumption) (by assumption) | exact pM | exact pN | exact pO (by assumption) | exact pP (by assumption) (by assumption) | exact pQ (by assumption) | exact pR (by assumption) | exact pS (by assumption) | exact pT (by assumption) | exact pU (by assumption) | exact pV (by assumption) | exact pY (by assumption) | exact oBad (by assumption) (by assumption) | exact oBad1 (by assumption) (by assumption) | exact qA (by assumption) | exact qB (by assumption) | exact qC (by assumption) | exact qD (by assumption) | exact qE (by assumption) | exact qF | exact qG (by assumption) (by assumption) | exact oT1 (by assumption) | exact oD1 (by assumption) | exact oD2 (by assumption)) | decide | ((first | (with_reducible show ¬ (_ = _)) | (with_reducible show @Ne Nat _ _)); k_extra "ne9")
  k_with "fold" => ((with_reducible show wpAny _ _ (eval _ _) _ _ _); (fail_if_success (with_reducible show wpAny _ _ (eval (PySem.Expr.Slice _ _ _ _) _) _ _ _)); (fail_if_success (fail_if_success k_fold)); refine foldQ ?_; intro Q9)
  k_with "fold" => ((with_reducible show wpAny _ _ (execs _ _) _ _ (Shared.mk _ _ _ (_ + _) _)); refine tokfold ?_; intro tk9)
  k_with "exec Raise some none" => (k_here; (refine' raise_err (by with_unfolding_all exact rfl) ?_))
  k_with "call ref" => (k_here; (with_reducible show wpAny _ _ (call (Value.ref 56) [Value.str _ _]) _ _ _); k_dflt (refine' fault_ok (by k_asm) (by k_asm) (by k_asm) (by k_asm) (by k_asm) (by first | exact rfl | assumption) (by k_extra "room") (by k_extra "units") ?_; k_whole); intro e9 t9 d9 h9 tk9 F9 N9 hn9)
  k_with "RaiseUp" => (k_here; k_dflt (refine' RaiseUp.intro (by k_asm) (by k_asm) (by k_asm) (by exact List.Mem.head _) ?_; k_whole))
  k_with "leaving ref" => (k_here; k_dflt (refine' leave_err (by k_asm) (by k_asm) (by k_asm) (by assumption) (by exact rfl) ?_; k_whole); intro h9 R9 U9)
  trivial
theorem pop_fault {w : World} {mg mb : Str → Option Value} {mean : ExcName → Option Value} {loose : List Str} {dp un : Nat} {gd : Option (List Code)} {cn : Str} {cs : Scope} {a : Addr} {ccd : Value} {cl : List (Str × Addr)} {outer : List Env} {A₀ : Around} {base h₀ : Heap} {L : Addr} {m : Str → Option Value} {s : Shared} {Q E : Value → Shared → Prop} {news : List (Addr × Obj)}
    {sx sdx l : Addr} {sb : Nat → Nat} {vs : List Value} {c : Nat}
    (B : Below A₀ base outer h₀) (F : Fr h₀ L s.heap m) (X : (hd.heap_39 w.params).In h₀) (N : News h₀ L s.heap news) (T : Top hd.view_39 loose mean mg mb h₀) (hk : cs.kind = .function) (hroom : dp + 20 < recursionLimit) (hunits : un + 100 < cLine)
    (h1 : (sx, instObj 208 sdx) ∈ news) (h2 : (sdx, stackD w sb l) ∈ news) (h3 : (l, listOf vs.toArray c) ∈ news) (hi : IntsAre vs [])
    (hexc : ∀ G e h' tk', Fr h₀ L G m → RaisedSN base G (envX cn cs L a ccd cl :: outer) e (.ref 56) news h' → G.UpToSlots h' → E (.ref e) { s with heap := h', toks := tk' }) :
    wpAny (model PP w) (ktrTop dp un gd cn cs L a ccd cl outer) (call (.ref 177) [.ref sx]) Q E s := by
  have hMk := kstMark
  have N1 : News h₀ L s.heap ((sx, instObj 208 sdx) :: (sdx, stackD w sb l) :: (l, listOf vs.toArray c) :: news) := kst_newsOf N (newsCons N h1 (newsCons N h2 (newsCons N h3 fun p hp => hp)))
  clear N
  have hvl1 : vs.length = 0 := hi.length
  k_steps
  rename RaisedSN _ _ _ _ _ _ _ => rE
  exact hexc _ _ _ _ (by assumption) (raised_less rE fun p hp => List.mem_cons_of_mem _ (List.mem_cons_of_mem _ (List.mem_cons_of_mem _ (List.mem_cons_of_mem _ hp)))) (by assumption)
example : True := by
  k_with_none
  k_with "eval Dict" => (k_here; k_dflt ((refine' kdn_str ?_ ?_ ?_ ?_ ?_ ?_ ?_ ?_ ?_); (case refine'_5 => rfl); (case refine'_6 => k_asm); (case refine'_7 => k_asm); (case refine'_8 => exact Top.nolimit (by k_asm)); (case refine'_9 => rfl); (case refine'_10 => rfl); (case refine'_11 => exact List.cons_ne_nil _ _); (case refine'_12 => exact Nat.le_of_ble_eq_true rfl)); intro d' h' o' F' N' l1 lo' hd'; (try k_lt l1))
  k_with "enter" => (refine' code_def (by k_asm) (by k_asm) (by k_asm) (by k_asm) (by k_asm) (by exact rfl) (by exact rfl) (by assumption) (by k_is) (by k_is) (by k_room) (by first | exact BindsTo.of_eq rfl | exact binds_K (by k_in) rfl (by k_is) rfl rfl rfl | fail "k_enter: no rule for these arguments") (by exact locs rfl) ?_ (by exact rfl) (by exact rfl) (by exact rfl) (by decide); k_whole; intro g' L' h' FG' F' N' B' X' T'; (try dsimp only); (try k_lift B'); (try k_fold); (refine foldA ?_); intro A9; (refine foldV ?_); intro V9)
  k_with "room" => first | (refine' room_of (by assumption) (by ((try simp (config := { zetaDelta := true }) only [depth_under_make, depth_under_kw, depth_in1, depth_deeper, depth_caller]); (try dsimp (config := { zetaDelta := true }) only [ktrTop]); simp only [Nat.add_assoc, Nat.reduceAdd, Nat.add_le_add_iff_left, Nat.reduceLeDiff, Nat.le_add_right]))) | ktr_room
  k_with "units" => first | (refine' room_of (by assumption) (by ((try simp (config := { zetaDelta := true }) only [units_under_make, units_in1, units_deeper, Around.mark_units, units_caller]); (try dsimp (config := { zetaDelta := true }) only [ktrTop]); simp only [Nat.add_assoc, Nat.reduceAdd, Nat.add_le_add_iff_left, Nat.reduceLeDiff, Nat.le_add_right]))) | ktr_units
  k_with "pj0" => first | assumption | exact And.right (by k_extra "pj1")
  k_with "pj1" => first | assumption | exact And.right (by k_extra "pj2")
  k_with "pj2" => first | assumption | exact And.right (by k_extra "pj3")
  k_with "pj3" => first | assumption | exact And.right (by k_extra "pj4")
  k_with "pj4" => first | assumption | exact And.right (by k_extra "pj5")
  k_with "pj5" => first | assumption | exact And.right (by k_extra "pj6")
  k_with "pj6" => first | assumption | exact And.right (by k_extra "pj7")
  k_with "pj7" => first | assumption | exact And.right (by k_extra "pj8")
  k_with "pj8" => first | assumption | exact And.right (by k_extra "pj9")
  k_with "pj9" => first | assumption | exact And.right (by k_extra "pj10")
  k_with "pj10" => first | assumption | exact And.right (by k_extra "pj11")
  k_with "pj11" => first | assumption | exact And.right (by k_extra "pj12")
  k_with "pj12" => first | assumption | exact And.right (by k_extra "pj13")
  k_with "pj13" => first | assumption | exact And.right (by k_extra "pj14")
  k_with "pj14" => first | assumption | exact And.right (by k_extra "pj15")
  k_with "pj15" => first | assumption | exact And.right (by k_extra "pj16")
  k_with "pj16" => first | assumption | exact And.right (by k_extra "pj17")
  k_with "pj17" => first | assumption | exact And.right (by k_extra "pj18")
  k_with "pj18" => first | assumption | exact And.right (by k_extra "pj19")
  k_with "pj19" => first | assumption | exact And.right (by k_extra "pj20")
  k_with "pj20" => first | assumption | exact And.right (by k_extra "pj21")
  k_with "pj21" => first | assumption | exact And.right (by k_extra "pj22")
  k_with "pj22" => assumption
  k_with "ne9" => first | (refine Nat.ne_of_lt ?_; (first | assumption | exact And.left (by k_extra "pj0") | exact And.right (by k_extra "pj0"))) | (refine Nat.ne_of_gt ?_; (first | assumption | exact And.left (by k_extra "pj0") | exact And.right (by k_extra "pj0"))) | (first | assumption | exact And.left (by k_extra "pj0") | exact And.right (by k_extra "pj0")) | (refine Ne.symm ?_; (first | assumption | exact And.left (by k_extra "pj0") | exact And.right (by k_extra "pj0"))) | (refine pW ?_; (first | assumption | exact And.left (by k_extra "pj0") | exact And.right (by k_extra "pj0"))) | (refine pX ?_; (first | assumption | exact And.left (by k_extra "pj0") | exact And.right (by k_extra "pj0"))) | exact neT (by assumption) (by (first | assumption | exact And.left (by k_extra "pj0") | exact And.right (by k_extra "pj0")))
  k_with "ne" => (refine neN ?_; (try dsimp only); first | k_extra "ne9" | omega)
  k_with "omega" => first | with_reducible (first | (first | assumption | exact And.left (by k_extra "pj0") | exact And.right (by k_extra "pj0")) | exact oA (by assumption) | exact oB (by assumption) | exact oC (by assumption) | exact oD (by assumption) | exact oE (by assumption) (by assumption) | exact oF (by assumption) (by assumption) | exact oG (by assumption) (by assumption) | exact oH (by assumption) | exact oI (by assumption) | exact oJ (by assumption) | exact oK (by assumption) (by assumption) | exact oL (by assumption) (by assumption) | exact oM | exact oN (by assumption) | exact oO (by assumption) | exact idx1 (by assumption) (by assumption) | exact idx2 (by assumption) (by assumption) | exact oP (by assumption) (by assumption) | exact oQ | exact oR (by assumption) | exact oS (by assumption) | exact oT (by assumption) (by assumption) | exact oU (by assumption) (by assumption) | exact oV (by assumption) (by assumption) | exact oW (by assumption) | exact oX (by assumption) | exact oY (by assumption) | exact oZ (by assumption) (by assumption) | exact pA (by assumption) (by assumption) | exact pC (by assumption) | exact pB (by assumption) (by assumption) | exact pD (by assumption) | exact pE (by assumption) | exact pF (by assumption) | exact pG (by assumption) | exact pH (by assumption) | exact pI (by assumption) | exact pJ (by assumption) (by assumption) | exact pK (by assumption) | exact pL (by assumption) (by assumption) | exact pM | exact pN | exact pO (by assumption) | exact pP (by assumption) (by assumption) | exact pQ (by assumption) | exact pR (by assumption) | exact pS (by assumption) | exact pT (by assumption) | exact pU (by assumption) | exact pV (by assumption) | exact pY (by assumption) | exact oBad (by assumption) (by assumption) | exact oBad1 (by assumption) (by assumption) | exact qA (by assumption) | exact qB (by assumption) | exact qC (by assumption) | exact qD (by assumption) | exact qE (by assumption) | exact qF | exact qG (by assumption) (by assumption) | exact oT1 (by assumption) | exact oD1 (by assumption) | exact oD2 (by assumption)) | decide | ((first | (with_reducible show ¬ (_ = _)) | (with_reducible show @Ne Nat _ _)); k_extra "ne9")
  k_with "fold" => ((with_reducible show wpAny _ _ (eval _ _) _ _ _); (fail_if_success (with_reducible show wpAny _ _ (eval (PySem.Expr.Slice _ _ _ _) _) _ _ _)); (fail_if_success (fail_if_success k_fold)); refine foldQ ?_; intro Q9)
  k_with "fold" => ((with_reducible show wpAny _ _ (execs _ _) _ _ (Shared.mk _ _ _ (_ + _) _)); refine tokfold ?_; intro tk9)
  k_with "exec Raise some none" => (k_here; (refine' raise_err (by with_unfolding_all exact rfl) ?_))
  k_with "call ref" => (k_here; (with_reducible show wpAny _ _ (call (Value.ref 56) [Value.str _ _]) _ _ _); k_dflt (refine' fault_ok (by k_asm) (by k_asm) (by k_asm) (by k_asm) (by k_asm) (by first | exact rfl | assumption) (by k_extra "room") (by k_extra "units") ?_; k_whole); intro e9 t9 d9 h9 tk9 F9 N9 hn9)
  k_with "RaiseUp" => (k_here; k_dflt (refine' RaiseUp.intro (by k_asm) (by k_asm) (by k_asm) (by exact List.Mem.head _) ?_; k_whole))
  k_with "leaving ref" => (k_here; k_dflt (refine' leave_err (by k_asm) (by k_asm) (by k_asm) (by assumption) (by exact rfl) ?_; k_whole); intro h9 R9 U9)
  k_with "isTrue Compare" => (k_here; (fail_if_success (with_reducible show wpAny _ _ _ (fun _ _ => ∃ _, _) _ _)); (with_reducible show wpAny _ _ (isTrue (PySem.Expr.Compare _ [_, _] _ _) _ _) _ _ _); refine val_join false ?_ (fun k9 => ?_))
  trivial
theorem peek_fault {w : World} {mg mb : Str → Option Value} {mean : ExcName → Option Value} {loose : List Str} {dp un : Nat} {gd : Option (List Code)} {cn : Str} {cs : Scope} {a : Addr} {ccd : Value} {cl : List (Str × Addr)} {outer : List Env} {A₀ : Around} {base h₀ : Heap} {L : Addr} {m : Str → Option Value} {s : Shared} {Q E : Value → Shared → Prop} {news : List (Addr × Obj)}
    {sx sdx l : Addr} {sb : Nat → Nat} {t : Tok} {vs : List Value} {ns : List Int} {c : Nat} {k : Int}
    (B : Below A₀ base outer h₀) (F : Fr h₀ L s.heap m) (X : (hd.heap_39 w.params).In h₀) (N : News h₀ L s.heap news) (T : Top hd.view_39 loose mean mg mb h₀) (hk : cs.kind = .function) (hroom : dp + 20 < recursionLimit) (hunits : un + 100 < cLine)
    (h1 : (sx, instObj 208 sdx) ∈ news) (h2 : (sdx, stackD w sb l) ∈ news) (h3 : (l, listOf vs.toArray c) ∈ news) (hi : IntsAre vs ns) (hlen : ns.length < 9) (hbig : -2147483648 ≤ k ∧ k ≤ 2147483647) (hout : ¬ (1 ≤ k ∧ k ≤ (ns.length : Int)))
    (hexc : ∀ G e h' tk', Fr h₀ L G m → RaisedSN base G (envX cn cs L a ccd cl :: outer) e (.ref 56) news h' → G.UpToSlots h' → E (.ref e) { s with heap := h', toks := tk' }) :
    wpAny (model PP w) (ktrTop dp un gd cn cs L a ccd cl outer) (call (.ref 191) [.ref sx, .int k t]) Q E s := by
  have hMk := kstMark
  have N1 : News h₀ L s.heap ((sx, instObj 208 sdx) :: (sdx, stackD w sb l) :: (l, listOf vs.toArray c) :: news) := kst_newsOf N (newsCons N h1 (newsCons N h2 (newsCons N h3 fun p hp => hp)))
  clear N
  have hvl : vs.length = ns.length := hi.length
  k_steps
  all_goals first | exact decide_eq_false (by omega) | skip
  rename RaisedSN _ _ _ _ _ _ _ => rE
  exact hexc _ _ _ _ (by assumption) (raised_less rE fun p hp => List.mem_cons_of_mem _ (List.mem_cons_of_mem _ (List.mem_cons_of_mem _ hp))) (by assumption)
end
section
example : True := by
  k_with_none
  k_with "eval Dict" => (k_here; k_dflt ((refine' kdn_str ?_ ?_ ?_ ?_ ?_ ?_ ?_ ?_ ?_); (case refine'_5 => rfl); (case refine'_6 => k_asm); (case refine'_7 => k_asm); (case refine'_8 => exact Top.nolimit (by k_asm)); (case refine'_9 => rfl); (case refine'_10 => rfl); (case refine'_11 => exact List.cons_ne_nil _ _); (case refine'_12 => exact Nat.le_of_ble_eq_true rfl)); intro d' h' o' F' N' l1 lo' hd'; (try k_lt l1))
  k_with "enter" => (refine' code_def (by k_asm) (by k_asm) (by k_asm) (by k_asm) (by k_asm) (by exact rfl) (by exact rfl) (by assumption) (by k_is) (by k_is) (by k_room) (by first | exact BindsTo.of_eq rfl | exact binds_K (by k_in) rfl (by k_is) rfl rfl rfl | fail "k_enter: no rule for these arguments") (by exact locs rfl) ?_ (by exact rfl) (by exact rfl) (by exact rfl) (by decide); k_whole; intro g' L' h' FG' F' N' B' X' T'; (try dsimp only); (try k_lift B'); (try k_fold); (refine foldA ?_); intro A9; (refine foldV ?_); intro V9)
  k_with "room" => first | (refine' room_of (by assumption) (by ((try simp (config := { zetaDelta := true }) only [depth_under_make, depth_under_kw, depth_in1, depth_deeper, depth_caller]); (try dsimp (config := { zetaDelta := true }) only [ktrTop]); simp only [Nat.add_assoc, Nat.reduceAdd, Nat.add_le_add_iff_left, Nat.reduceLeDiff, Nat.le_add_right]))) | ktr_room
  k_with "units" => first | (refine' room_of (by assumption) (by ((try simp (config := { zetaDelta := true }) only [units_under_make, units_in1, units_deeper, Around.mark_units, units_caller]); (try dsimp (config := { zetaDelta := true }) only [ktrTop]); simp only [Nat.add_assoc, Nat.reduceAdd, Nat.add_le_add_iff_left, Nat.reduceLeDiff, Nat.le_add_right]))) | ktr_units
  k_with "pj0" => first | assumption | exact And.right (by k_extra "pj1")
  k_with "pj1" => first | assumption | exact And.right (by k_extra "pj2")
  k_with "pj2" => first | assumption | exact And.right (by k_extra "pj3")
  k_with "pj3" => first | assumption | exact And.right (by k_extra "pj4")
  k_with "pj4" => first | assumption | exact And.right (by k_extra "pj5")
  k_with "pj5" => first | assumption | exact And.right (by k_extra "pj6")
  k_with "pj6" => first | assumption | exact And.right (by k_extra "pj7")
  k_with "pj7" => first | assumption | exact And.right (by k_extra "pj8")
  k_with "pj8" => first | assumption | exact And.right (by k_extra "pj9")
  k_with "pj9" => first | assumption | exact And.right (by k_extra "pj10")
  k_with "pj10" => first | assumption | exact And.right (by k_extra "pj11")
  k_with "pj11" => first | assumption | exact And.right (by k_extra "pj12")
  k_with "pj12" => first | assumption | exact And.right (by k_extra "pj13")
  k_with "pj13" => first | assumption | exact And.right (by k_extra "pj14")
  k_with "pj14" => first | assumption | exact And.right (by k_extra "pj15")
  k_with "pj15" => first | assumption | exact And.right (by k_extra "pj16")
  k_with "pj16" => first | assumption | exact And.right (by k_extra "pj17")
  k_with "pj17" => first | assumption | exact And.right (by k_extra "pj18")
  k_with "pj18" => first | assumption | exact And.right (by k_extra "pj19")
  k_with "pj19" => first | assumption | exact And.right (by k_extra "pj20")
  k_with "pj20" => first | assumption | exact And.right (by k_extra "pj21")
  k_with "pj21" => first | assumption | exact And.right (by k_extra "pj22")
  k_with "pj22" => assumption
  k_with "ne9" => first | (refine Nat.ne_of_lt ?_; (first | assumption | exact And.left (by k_extra "pj0") | exact And.right (by k_extra "pj0"))) | (refine Nat.ne_of_gt ?_; (first | assumption | exact And.left (by k_extra "pj0") | exact And.right (by k_extra "pj0"))) | (first | assumption | exact And.left (by k_extra "pj0") | exact And.right (by k_extra "pj0")) | (refine Ne.symm ?_; (first | assumption | exact And.left (by k_extra "pj0") | exact And.right (by k_extra "pj0"))) | (refine pW ?_; (first | assumption | exact And.left (by k_extra "pj0") | exact And.right (by k_extra "pj0"))) | (refine pX ?_; (first | assumption | exact And.left (by k_extra "pj0") | exact And.right (by k_extra "pj0"))) | exact neT (by assumption) (by (first | assumption | exact And.left (by k_extra "pj0") | exact And.right (by k_extra "pj0")))
  k_with "ne" => (refine neN ?_; (try dsimp only); first | k_extra "ne9" | omega)
  k_with "omega" => first | with_reducible (first | (first | assumption | exact And.left (by k_extra "pj0") | exact And.right (by k_extra "pj0")) | exact oA (by assumption) | exact oB (by assumption) | exact oC (by assumption) | exact oD (by assumption) | exact oE (by assumption) (by assumption) | exact oF (by assumption) (by assumption) | exact oG (by assumption) (by assumption) | exact oH (by assumption) | exact oI (by assumption) | exact oJ (by assumption) | exact oK (by assumption) (by assumption) | exact oL (by assumption) (by assumption) | exact oM | exact oN (by assumption) | exact oO (by assumption) | exact idx1 (by assumption) (by assumption) | exact idx2 (by assumption) (by assumption) | exact oP (by assumption) (by assumption) | exact oQ | exact oR (by assumption) | exact oS (by assumption) | exact oT (by assumption) (by assumption) | exact oU (by assumption) (by assumption) | exact oV (by assumption) (by assumption) | exact oW (by assumption) | exact oX (by assumption) | exact oY (by assumption) | exact oZ (by assumption) (by assumption) | exact pA (by assumption) (by assumption) | exact pC (by assumption) | exact pB (by assumption) (by assumption) | exact pD (by assumption) | exact pE (by assumption) | exact pF (by assumption) | exact pG (by assumption) | exact pH (by assumption) | exact pI (by assumption) | exact pJ (by assumption) (by assumption) | exact pK (by assumption) | exact pL (by assumption) (by assumption) | exact pM | exact pN | exact pO (by assumption) | exact pP (by assumption) (by assumption) | exact pQ (by assumption) | exact pR (by assumption) | exact pS (by assumption) | exact pT (by assumption) | exact pU (by assumption) | exact pV (by assumption) | exact pY (by assumption) | exact oBad (by assumption) (by assumption) | exact oBad1 (by assumption) (by assumption) | exact qA (by assumption) | exact qB (by assumption) | exact qC (by assumption) | exact qD (by assumption) | exact qE (by assumption) | exact qF | exact qG (by assumption) (by assumption) | exact oT1 (by assumption) | exact oD1 (by assumption) | exact oD2 (by assumption)) | decide | ((first | (with_reducible show ¬ (_ = _)) | (with_reducible show @Ne Nat _ _)); k_extra "ne9")
  k_with "fold" => ((with_reducible show wpAny _ _ (eval _ _) _ _ _); (fail_if_success (with_reducible show wpAny _ _ (eval (PySem.Expr.Slice _ _ _ _) _) _ _ _)); (fail_if_success (fail_if_success k_fold)); refine foldQ ?_; intro Q9)
  k_with "fold" => ((with_reducible show wpAny _ _ (execs _ _) _ _ (Shared.mk _ _ _ (_ + _) _)); refine tokfold ?_; intro tk9)
  k_with "enter" => (refine' code_defC (by k_asm) (by k_asm) (by k_asm) (by k_asm) (by k_asm) (by exact rfl) (by exact rfl) (by assumption) (by k_is) (by k_is) (by k_room) (by first | exact BindsTo.of_eq rfl | exact binds_K (by k_in) rfl (by k_is) rfl rfl rfl | fail "k_enter: no rule for these arguments") (by exact rfl) (by decide +kernel) ?_ (by exact rfl) (by exact rfl) (by exact rfl); k_whole; intro g' L' h' tk' cells' FG' F' N' Y' B' X' T' l1; (try k_lt l1); k_cells Y'; (try simp only [List.cons_append, List.nil_append] at N'); (try dsimp only); (try k_lift B'); (try k_fold); (refine foldA ?_); intro A9; (refine foldV ?_); intro V9)
  k_with "updF" => assumption
  k_with "leaving ref" => (k_here; k_dflt (refine' leave_err_on (by k_asm) (by assumption) (by exact rfl) (by assumption) (by assumption) ?_; k_whole); intro h9 R9 U9)
  k_with "call ref" => (k_here; (with_reducible show wpAny _ _ (call (Value.ref 177) _) _ _ _); k_dflt (refine' pop_fault (by k_asm) (by k_asm) (by k_asm) (by k_asm) (by k_asm) (by first | exact rfl | assumption) (by k_extra "room") (by k_extra "units") (by k_mem) (by k_mem) (by k_mem) (by assumption) ?_; k_whole); intro g9 e9 h9 tk9 F9 R9 U9)
  trivial
theorem mindex_empty {w : World} {mg mb : Str → Option Value} {mean : ExcName → Option Value} {loose : List Str} {dp un : Nat} {gd : Option (List Code)} {cn : Str} {cs : Scope} {a : Addr} {ccd : Value} {cl : List (Str × Addr)} {outer : List Env} {A₀ : Around} {base h₀ : Heap} {L : Addr} {m : Str → Option Value} {s : Shared} {Q E : Value → Shared → Prop} {rest : List (Addr × Obj)}
    {x dx sx sdx l : Addr} {wb sb : Nat → Nat} {tt : Tok} {vs : List Value} {c : Nat} {code : Int}
    (B : Below A₀ base outer h₀) (F : Fr h₀ L s.heap m) (X : (hd.heap_39 w.params).In h₀) (N : News h₀ L s.heap ((x, instObj 259 dx) :: (dx, workD w wb sx) :: (sx, instObj 208 sdx) :: (sdx, stackD w sb l) :: (l, listOf vs.toArray c) :: rest)) (T : Top hd.view_39 loose mean mg mb h₀) (hk : cs.kind = .function) (hroom : dp + 40 < recursionLimit) (hunits : un + 200 < cLine)
    (hi : IntsAre vs [])
    (hexc : ∀ G e h' tk', Fr h₀ L G m → RaisedSN base G (envX cn cs L a ccd cl :: outer) e (.ref 56) ((x, instObj 259 dx) :: (dx, workD w wb sx) :: (sx, instObj 208 sdx) :: (sdx, stackD w sb l) :: (l, listOf vs.toArray c) :: rest) h' → G.UpToSlots h' → E (.ref e) { s with heap := h', toks := tk' }) :
    wpAny (model PP w) (ktrTop dp un gd cn cs L a ccd cl outer) (call (.ref 26) [.ref x, .int code tt]) Q E s := by
  have hMk := kstMark
  refine wpAny_call ?_
  k_dflt k_enter
  k_steps
  rename RaisedSN _ _ _ _ _ _ _ => rE
  exact hexc _ _ _ _ (by assumption) (raised_less rE fun p hp => by first | exact hp | exact List.mem_cons_of_mem _ hp) (by assumption)
end
section
example : True := by
  k_with_none
  k_with "eval Dict" => (k_here; k_dflt ((refine' kdn_str ?_ ?_ ?_ ?_ ?_ ?_ ?_ ?_ ?_); (case refine'_5 => rfl); (case refine'_6 => k_asm); (case refine'_7 => k_asm); (case refine'_8 => exact Top.nolimit (by k_asm)); (case refine'_9 => rfl); (case refine'_10 => rfl); (case refine'_11 => exact List.cons_ne_nil _ _); (case refine'_12 => exact Nat.le_of_ble_eq_true rfl)); intro d' h' o' F' N' l1 lo' hd'; (try k_lt l1))
  k_with "enter" => (refine' code_def (by k_asm) (by k_asm) (by k_asm) (by k_asm) (by k_asm) (by exact rfl) (by exact rfl) (by assumption) (by k_is) (by k_is) (by k_room) (by first | exact BindsTo.of_eq rfl | exact binds_K (by k_in) rfl (by k_is) rfl rfl rfl | fail "k_enter: no rule for these arguments") (by exact locs rfl) ?_ (by exact rfl) (by exact rfl) (by exact rfl) (by decide); k_whole; intro g' L' h' FG' F' N' B' X' T'; (try dsimp only); (try k_lift B'); (try k_fold); (refine foldA ?_); intro A9; (refine foldV ?_); intro V9)
  k_with "room" => first | (refine' room_of (by assumption) (by ((try simp (config := { zetaDelta := true }) only [depth_under_make, depth_under_kw, depth_in1, depth_deeper, depth_caller]); (try dsimp (config := { zetaDelta := true }) only [ktrTop]); simp only [Nat.add_assoc, Nat.reduceAdd, Nat.add_le_add_iff_left, Nat.reduceLeDiff, Nat.le_add_right]))) | ktr_room
  k_with "units" => first | (refine' room_of (by assumption) (by ((try simp (config := { zetaDelta := true }) only [units_under_make, units_in1, units_deeper, Around.mark_units, units_caller]); (try dsimp (config := { zetaDelta := true }) only [ktrTop]); simp only [Nat.add_assoc, Nat.reduceAdd, Nat.add_le_add_iff_left, Nat.reduceLeDiff, Nat.le_add_right]))) | ktr_units
  k_with "pj0" => first | assumption | exact And.right (by k_extra "pj1")
  k_with "pj1" => first | assumption | exact And.right (by k_extra "pj2")
  k_with "pj2" => first | assumption | exact And.right (by k_extra "pj3")
  k_with "pj3" => first | assumption | exact And.right (by k_extra "pj4")
  k_with "pj4" => first | assumption | exact And.right (by k_extra "pj5")
  k_with "pj5" => first | assumption | exact And.right (by k_extra "pj6")
  k_with "pj6" => first | assumption | exact And.right (by k_extra "pj7")
  k_with "pj7" => first | assumption | exact And.right (by k_extra "pj8")
  k_with "pj8" => first | assumption | exact And.right (by k_extra "pj9")
  k_with "pj9" => first | assumption | exact And.right (by k_extra "pj10")
  k_with "pj10" => first | assumption | exact And.right (by k_extra "pj11")
  k_with "pj11" => first | assumption | exact And.right (by k_extra "pj12")
  k_with "pj12" => first | assumption | exact And.right (by k_extra "pj13")
  k_with "pj13" => first | assumption | exact And.right (by k_extra "pj14")
  k_with "pj14" => first | assumption | exact And.right (by k_extra "pj15")
  k_with "pj15" => first | assumption | exact And.right (by k_extra "pj16")
  k_with "pj16" => first | assumption | exact And.right (by k_extra "pj17")
  k_with "pj17" => first | assumption | exact And.right (by k_extra "pj18")
  k_with "pj18" => first | assumption | exact And.right (by k_extra "pj19")
  k_with "pj19" => first | assumption | exact And.right (by k_extra "pj20")
  k_with "pj20" => first | assumption | exact And.right (by k_extra "pj21")
  k_with "pj21" => first | assumption | exact And.right (by k_extra "pj22")
  k_with "pj22" => assumption
  k_with "ne9" => first | (refine Nat.ne_of_lt ?_; (first | assumption | exact And.left (by k_extra "pj0") | exact And.right (by k_extra "pj0"))) | (refine Nat.ne_of_gt ?_; (first | assumption | exact And.left (by k_extra "pj0") | exact And.right (by k_extra "pj0"))) | (first | assumption | exact And.left (by k_extra "pj0") | exact And.right (by k_extra "pj0")) | (refine Ne.symm ?_; (first | assumption | exact And.left (by k_extra "pj0") | exact And.right (by k_extra "pj0"))) | (refine pW ?_; (first | assumption | exact And.left (by k_extra "pj0") | exact And.right (by k_extra "pj0"))) | (refine pX ?_; (first | assumption | exact And.left (by k_extra "pj0") | exact And.right (by k_extra "pj0"))) | exact neT (by assumption) (by (first | assumption | exact And.left (by k_extra "pj0") | exact And.right (by k_extra "pj0")))
  k_with "ne" => (refine neN ?_; (try dsimp only); first | k_extra "ne9" | omega)
  k_with "omega" => first | with_reducible (first | (first | assumption | exact And.left (by k_extra "pj0") | exact And.right (by k_extra "pj0")) | exact oA (by assumption) | exact oB (by assumption) | exact oC (by assumption) | exact oD (by assumption) | exact oE (by assumption) (by assumption) | exact oF (by assumption) (by assumption) | exact oG (by assumption) (by assumption) | exact oH (by assumption) | exact oI (by assumption) | exact oJ (by assumption) | exact oK (by assumption) (by assumption) | exact oL (by assumption) (by assumption) | exact oM | exact oN (by assumption) | exact oO (by assumption) | exact idx1 (by assumption) (by assumption) | exact idx2 (by assumption) (by assumption) | exact oP (by assumption) (by assumption) | exact oQ | exact oR (by assumption) | exact oS (by assumption) | exact oT (by assumption) (by assumption) | exact oU (by assumption) (by assumption) | exact oV (by assumption) (by assumption) | exact oW (by assumption) | exact oX (by assumption) | exact oY (by assumption) | exact oZ (by assumption) (by assumption) | exact pA (by assumption) (by assumption) | exact pC (by assumption) | exact pB (by assumption) (by assumption) | exact pD (by assumption) | exact pE (by assumption) | exact pF (by assumption) | exact pG (by assumption) | exact pH (by assumption) | exact pI (by assumption) | exact pJ (by assumption) (by assumption) | exact pK (by assumption) | exact pL (by assumption) (by assumption) | exact pM | exact pN | exact pO (by assumption) | exact pP (by assumption) (by assumption) | exact pQ (by assumption) | exact pR (by assumption) | exact pS (by assumption) | exact pT (by assumption) | exact pU (by assumption) | exact pV (by assumption) | exact pY (by assumption) | exact oBad (by assumption) (by assumption) | exact oBad1 (by assumption) (by assumption) | exact qA (by assumption) | exact qB (by assumption) | exact qC (by assumption) | exact qD (by assumption) | exact qE (by assumption) | exact qF | exact qG (by assumption) (by assumption) | exact oT1 (by assumption) | exact oD1 (by assumption) | exact oD2 (by assumption)) | decide | ((first | (with_reducible show ¬ (_ = _)) | (with_reducible show @Ne Nat _ _)); k_extra "ne9")
  k_with "fold" => ((with_reducible show wpAny _ _ (eval _ _) _ _ _); (fail_if_success (with_reducible show wpAny _ _ (eval (PySem.Expr.Slice _ _ _ _) _) _ _ _)); (fail_if_success (fail_if_success k_fold)); refine foldQ ?_; intro Q9)
  k_with "fold" => ((with_reducible show wpAny _ _ (execs _ _) _ _ (Shared.mk _ _ _ (_ + _) _)); refine tokfold ?_; intro tk9)
  k_with "enter" => (refine' code_defC (by k_asm) (by k_asm) (by k_asm) (by k_asm) (by k_asm) (by exact rfl) (by exact rfl) (by assumption) (by k_is) (by k_is) (by k_room) (by first | exact BindsTo.of_eq rfl | exact binds_K (by k_in) rfl (by k_is) rfl rfl rfl | fail "k_enter: no rule for these arguments") (by exact rfl) (by decide +kernel) ?_ (by exact rfl) (by exact rfl) (by exact rfl); k_whole; intro g' L' h' tk' cells' FG' F' N' Y' B' X' T' l1; (try k_lt l1); k_cells Y'; (try simp only [List.cons_append, List.nil_append] at N'); (try dsimp only); (try k_lift B'); (try k_fold); (refine foldA ?_); intro A9; (refine foldV ?_); intro V9)
  k_with "updF" => assumption
  k_with "call ref" => (k_here; (with_reducible show wpAny _ _ (call (Value.ref 177) _) _ _ _); k_dflt (refine' pop_use (by k_asm) (by k_asm) (by k_asm) (by k_asm) (by k_asm) (by first | exact rfl | assumption) (by k_extra "room") (by k_extra "units") (by k_mem) (by k_mem) (by k_updF) (by assumption) (by first | assumption | omega | (simp at *; omega)) ?_; k_whole); intro vs9 t9 c9 h9 tk9 F9 I9 N9; (try dsimp only at N9); (try k_sweep); (try k_fold))
  k_with "leaving ref" => (k_here; k_dflt (refine' leave_err_on (by k_asm) (by assumption) (by exact rfl) (by assumption) (by assumption) ?_; k_whole); intro h9 R9 U9)
  k_with "call ref" => (k_here; (with_reducible show wpAny _ _ (call (Value.ref 191) _) _ _ _); k_dflt (refine' peek_fault (by k_asm) (by k_asm) (by k_asm) (by k_asm) (by k_asm) (by first | exact rfl | assumption) (by k_extra "room") (by k_extra "units") (by k_mem) (by k_mem) (by k_mem) (by assumption) (by omega) (by assumption) (by assumption) ?_; k_whole); intro g9 e9 h9 tk9 F9 R9 U9)
  trivial
theorem mindex_count {w : World} {mg mb : Str → Option Value} {mean : ExcName → Option Value} {loose : List Str} {dp un : Nat} {gd : Option (List Code)} {cn : Str} {cs : Scope} {a : Addr} {ccd : Value} {cl : List (Str × Addr)} {outer : List Env} {A₀ : Around} {base h₀ : Heap} {L : Addr} {m : Str → Option Value} {s : Shared} {Q E : Value → Shared → Prop} {rest : List (Addr × Obj)}
    {x dx sx sdx l : Addr} {wb sb : Nat → Nat} {tt : Tok} {vs : List Value} {due : List Int} {c : Nat} {k code : Int}
    (B : Below A₀ base outer h₀) (F : Fr h₀ L s.heap m) (X : (hd.heap_39 w.params).In h₀) (N : News h₀ L s.heap ((x, instObj 259 dx) :: (dx, workD w wb sx) :: (sx, instObj 208 sdx) :: (sdx, stackD w sb l) :: (l, listOf vs.toArray c) :: rest)) (T : Top hd.view_39 loose mean mg mb h₀) (hk : cs.kind = .function) (hroom : dp + 40 < recursionLimit) (hunits : un + 200 < cLine)
    (hi : IntsAre vs (due ++ [k])) (hlen : due.length < 8) (hbig : -2147483648 ≤ k ∧ k ≤ 2147483647) (hout : ¬ (1 ≤ k ∧ k ≤ (due.length : Int)))
    (d1 : @Ne Nat x l ∧ @Ne Nat dx l ∧ @Ne Nat sx l ∧ @Ne Nat sdx l) (d2 : OwnOff rest [l])
    (hexc : ∀ (vs' : List Value) (c9 : Nat) G e h' tk', IntsAre vs' due → Fr h₀ L G m → RaisedSN base G (envX cn cs L a ccd cl :: outer) e (.ref 56) ((x, instObj 259 dx) :: (dx, workD w wb sx) :: (sx, instObj 208 sdx) :: (sdx, stackD w sb l) :: (l, listOf vs'.toArray c9) :: rest) h' → G.UpToSlots h' → E (.ref e) { s with heap := h', toks := tk' }) :
    wpAny (model PP w) (ktrTop dp un gd cn cs L a ccd cl outer) (call (.ref 26) [.ref x, .int code tt]) Q E s := by
  have hMk := kstMark
  refine wpAny_call ?_
  k_dflt k_enter
  k_steps
  rename RaisedSN _ _ _ _ _ _ _ => rE
  exact hexc _ _ _ _ _ _ (by assumption) (by assumption) (raised_less rE fun p hp => by first | exact hp | exact List.mem_cons_of_mem _ hp) (by assumption)
end
example : True := by
  k_with_none
  k_with "eval Dict" => (k_here; k_dflt ((refine' kdn_str ?_ ?_ ?_ ?_ ?_ ?_ ?_ ?_ ?_); (case refine'_5 => rfl); (case refine'_6 => k_asm); (case refine'_7 => k_asm); (case refine'_8 => exact Top.nolimit (by k_asm)); (case refine'_9 => rfl); (case refine'_10 => rfl); (case refine'_11 => exact List.cons_ne_nil _ _); (case refine'_12 => exact Nat.le_of_ble_eq_true rfl)); intro d' h' o' F' N' l1 lo' hd'; (try k_lt l1))
  k_with "enter" => (refine' code_def (by k_asm) (by k_asm) (by k_asm) (by k_asm) (by k_asm) (by exact rfl) (by exact rfl) (by assumption) (by k_is) (by k_is) (by k_room) (by first | exact BindsTo.of_eq rfl | exact binds_K (by k_in) rfl (by k_is) rfl rfl rfl | fail "k_enter: no rule for these arguments") (by exact locs rfl) ?_ (by exact rfl) (by exact rfl) (by exact rfl) (by decide); k_whole; intro g' L' h' FG' F' N' B' X' T'; (try dsimp only); (try k_lift B'); (try k_fold); (refine foldA ?_); intro A9; (refine foldV ?_); intro V9)
  k_with "room" => first | (refine' room_of (by assumption) (by ((try simp (config := { zetaDelta := true }) only [depth_under_make, depth_under_kw, depth_in1, depth_deeper, depth_caller]); (try dsimp (config := { zetaDelta := true }) only [ktrTop]); simp only [Nat.add_assoc, Nat.reduceAdd, Nat.add_le_add_iff_left, Nat.reduceLeDiff, Nat.le_add_right]))) | ktr_room
  k_with "units" => first | (refine' room_of (by assumption) (by ((try simp (config := { zetaDelta := true }) only [units_under_make, units_in1, units_deeper, Around.mark_units, units_caller]); (try dsimp (config := { zetaDelta := true }) only [ktrTop]); simp only [Nat.add_assoc, Nat.reduceAdd, Nat.add_le_add_iff_left, Nat.reduceLeDiff, Nat.le_add_right]))) | ktr_units
  k_with "pj0" => first | assumption | exact And.right (by k_extra "pj1")
  k_with "pj1" => first | assumption | exact And.right (by k_extra "pj2")
  k_with "pj2" => first | assumption | exact And.right (by k_extra "pj3")
  k_with "pj3" => first | assumption | exact And.right (by k_extra "pj4")
  k_with "pj4" => first | assumption | exact And.right (by k_extra "pj5")
  k_with "pj5" => first | assumption | exact And.right (by k_extra "pj6")
  k_with "pj6" => first | assumption | exact And.right (by k_extra "pj7")
  k_with "pj7" => first | assumption | exact And.right (by k_extra "pj8")
  k_with "pj8" => first | assumption | exact And.right (by k_extra "pj9")
  k_with "pj9" => first | assumption | exact And.right (by k_extra "pj10")
  k_with "pj10" => first | assumption | exact And.right (by k_extra "pj11")
  k_with "pj11" => first | assumption | exact And.right (by k_extra "pj12")
  k_with "pj12" => first | assumption | exact And.right (by k_extra "pj13")
  k_with "pj13" => first | assumption | exact And.right (by k_extra "pj14")
  k_with "pj14" => first | assumption | exact And.right (by k_extra "pj15")
  k_with "pj15" => first | assumption | exact And.right (by k_extra "pj16")
  k_with "pj16" => first | assumption | exact And.right (by k_extra "pj17")
  k_with "pj17" => first | assumption | exact And.right (by k_extra "pj18")
  k_with "pj18" => first | assumption | exact And.right (by k_extra "pj19")
  k_with "pj19" => first | assumption | exact And.right (by k_extra "pj20")
  k_with "pj20" => first | assumption | exact And.right (by k_extra "pj21")
  k_with "pj21" => first | assumption | exact And.right (by k_extra "pj22")
  k_with "pj22" => assumption
  k_with "ne9" => first | (refine Nat.ne_of_lt ?_; (first | assumption | exact And.left (by k_extra "pj0") | exact And.right (by k_extra "pj0"))) | (refine Nat.ne_of_gt ?_; (first | assumption | exact And.left (by k_extra "pj0") | exact And.right (by k_extra "pj0"))) | (first | assumption | exact And.left (by k_extra "pj0") | exact And.right (by k_extra "pj0")) | (refine Ne.symm ?_; (first | assumption | exact And.left (by k_extra "pj0") | exact And.right (by k_extra "pj0"))) | (refine pW ?_; (first | assumption | exact And.left (by k_extra "pj0") | exact And.right (by k_extra "pj0"))) | (refine pX ?_; (first | assumption | exact And.left (by k_extra "pj0") | exact And.right (by k_extra "pj0"))) | exact neT (by assumption) (by (first | assumption | exact And.left (by k_extra "pj0") | exact And.right (by k_extra "pj0")))
  k_with "ne" => (refine neN ?_; (try dsimp only); first | k_extra "ne9" | omega)
  k_with "omega" => first | with_reducible (first | (first | assumption | exact And.left (by k_extra "pj0") | exact And.right (by k_extra "pj0")) | exact oA (by assumption) | exact oB (by assumption) | exact oC (by assumption) | exact oD (by assumption) | exact oE (by assumption) (by assumption) | exact oF (by assumption) (by assumption) | exact oG (by assumption) (by assumption) | exact oH (by assumption) | exact oI (by assumption) | exact oJ (by assumption) | exact oK (by assumption) (by assumption) | exact oL (by assumption) (by assumption) | exact oM | exact oN (by assumption) | exact oO (by assumption) | exact idx1 (by assumption) (by assumption) | exact idx2 (by assumption) (by assumption) | exact oP (by assumption) (by assumption) | exact oQ | exact oR (by assumption) | exact oS (by assumption) | exact oT (by assumption) (by assumption) | exact oU (by assumption) (by assumption) | exact oV (by assumption) (by assumption) | exact oW (by assumption) | exact oX (by assumption) | exact oY (by assumption) | exact oZ (by assumption) (by assumption) | exact pA (by assumption) (by assumption) | exact pC (by assumption) | exact pB (by assumption) (by assumption) | exact pD (by assumption) | exact pE (by assumption) | exact pF (by assumption) | exact pG (by assumption) | exact pH (by assumption) | exact pI (by assumption) | exact pJ (by assumption) (by assumption) | exact pK (by assumption) | exact pL (by assumption) (by assumption) | exact pM | exact pN | exact pO (by assumption) | exact pP (by assumption) (by assumption) | exact pQ (by assumption) | exact pR (by assumption) | exact pS (by assumption) | exact pT (by assumption) | exact pU (by assumption) | exact pV (by assumption) | exact pY (by assumption) | exact oBad (by assumption) (by assumption) | exact oBad1 (by assumption) (by assumption) | exact qA (by assumption) | exact qB (by assumption) | exact qC (by assumption) | exact qD (by assumption) | exact qE (by assumption) | exact qF | exact qG (by assumption) (by assumption) | exact oT1 (by assumption) | exact oD1 (by assumption) | exact oD2 (by assumption)) | decide | ((first | (with_reducible show ¬ (_ = _)) | (with_reducible show @Ne Nat _ _)); k_extra "ne9")
  k_with "fold" => ((with_reducible show wpAny _ _ (eval _ _) _ _ _); (fail_if_success (with_reducible show wpAny _ _ (eval (PySem.Expr.Slice _ _ _ _) _) _ _ _)); (fail_if_success (fail_if_success k_fold)); refine foldQ ?_; intro Q9)
  k_with "fold" => ((with_reducible show wpAny _ _ (execs _ _) _ _ (Shared.mk _ _ _ (_ + _) _)); refine tokfold ?_; intro tk9)
  trivial
theorem mem4 {p q p' q' : Addr × Obj} {news : List (Addr × Obj)} (h1 : p ∈ news) (h2 : q ∈ news) (h3 : p' ∈ news) (h4 : q' ∈ news) : ∀ r ∈ [p, q, p', q'], r ∈ news := List.forall_mem_cons.mpr ⟨h1, List.forall_mem_cons.mpr ⟨h2, mem2 h3 h4⟩⟩
theorem ne4 {w : World} {h₀ h : Heap} {L x dx sx sdx l : Addr} {wb sb : Nat → Nat} {vs : List Value} {c : Nat} {news : List (Addr × Obj)} (N : News h₀ L h news) (h1 : (x, instObj 259 dx) ∈ news) (h2 : (dx, workD w wb sx) ∈ news) (h3 : (sx, instObj 208 sdx) ∈ news) (h4 : (sdx, stackD w sb l) ∈ news) (hl : (l, listOf vs.toArray c) ∈ news) :
    @Ne Nat x l ∧ @Ne Nat dx l ∧ @Ne Nat sx l ∧ @Ne Nat sdx l := ⟨newsNe N h1 hl (by intro e; cases e), newsNe N h2 hl (by intro e; exact absurd (Value.type.inj e) (by decide)), newsNe N h3 hl (by intro e; cases e), newsNe N h4 hl (by intro e; exact absurd (Value.type.inj e) (by decide))⟩
theorem mindex_use {w : World} {mg mb : Str → Option Value} {mean : ExcName → Option Value} {loose : List Str} {dp un : Nat} {gd : Option (List Code)} {cn : Str} {cs : Scope} {a : Addr} {ccd : Value} {cl : List (Str × Addr)} {outer : List Env} {A₀ : Around} {base h₀ : Heap} {L : Addr} {m : Str → Option Value} {s : Shared} {Q E : Value → Shared → Prop} {news : List (Addr × Obj)} {g : Obj → List (Addr × Obj)}
    {x dx sx sdx l : Addr} {wb sb : Nat → Nat} {tt : Tok} {vs : List Value} {due : List Int} {c : Nat} {k code : Int}
    (B : Below A₀ base outer h₀) (F : Fr h₀ L s.heap m) (X : (hd.heap_39 w.params).In h₀) (N : News h₀ L s.heap news) (T : Top hd.view_39 loose mean mg mb h₀) (hk : cs.kind = .function) (hroom : dp + 40 < recursionLimit) (hunits : un + 200 < cLine)
    (h1 : (x, instObj 259 dx) ∈ news) (h2 : (dx, workD w wb sx) ∈ news) (h3 : (sx, instObj 208 sdx) ∈ news) (h4 : (sdx, stackD w sb l) ∈ news) (U : UpdF l (listOf vs.toArray c) news g)
    (hi : IntsAre vs (due ++ [k])) (hlen : due.length < 8) (hk1 : 1 ≤ k) (hk2 : k ≤ (due.length : Int)) (hbig : ∀ n ∈ due, -2147483648 ≤ n ∧ n ≤ 2147483647)
    (hret : ∀ (vs' : List Value) (c9 : Nat) h' tk', Fr h₀ L h' m → News h₀ L h' (g (listOf vs'.toArray c9)) →
      IntsAre vs' (due.take (due.length - k.toNat) ++ due.drop (due.length - k.toNat + 1) ++ [due.getD (due.length - k.toNat) 0]) → Q .none { s with heap := h', toks := tk' }) :
    wpAny (model PP w) (ktrTop dp un gd cn cs L a ccd cl outer) (call (.ref 26) [.ref x, .int code tt]) Q E s := by
  exact use_split N U _ (mem4 h1 h2 h3 h4) fun rest N1 d2 hl bk => mindex_ok B F X N1 T hk hroom hunits hi hlen hk1 hk2 hbig (ne4 N h1 h2 h3 h4 hl) d2 fun vs' c9 h' tk' F' N' I' => hret vs' c9 h' tk' F' (kst_newsOf N' (bk _)) I'
theorem mindex_empty_use {w : World} {mg mb : Str → Option Value} {mean : ExcName → Option Value} {loose : List Str} {dp un : Nat} {gd : Option (List Code)} {cn : Str} {cs : Scope} {a : Addr} {ccd : Value} {cl : List (Str × Addr)} {outer : List Env} {A₀ : Around} {base h₀ : Heap} {L : Addr} {m : Str → Option Value} {s : Shared} {Q E : Value → Shared → Prop} {news : List (Addr × Obj)} {g : Obj → List (Addr × Obj)}
    {x dx sx sdx l : Addr} {wb sb : Nat → Nat} {tt : Tok} {vs : List Value} {c : Nat} {code : Int}
    (B : Below A₀ base outer h₀) (F : Fr h₀ L s.heap m) (X : (hd.heap_39 w.params).In h₀) (N : News h₀ L s.heap news) (T : Top hd.view_39 loose mean mg mb h₀) (hk : cs.kind = .function) (hroom : dp + 40 < recursionLimit) (hunits : un + 200 < cLine)
    (h1 : (x, instObj 259 dx) ∈ news) (h2 : (dx, workD w wb sx) ∈ news) (h3 : (sx, instObj 208 sdx) ∈ news) (h4 : (sdx, stackD w sb l) ∈ news) (U : UpdF l (listOf vs.toArray c) news g)
    (hi : IntsAre vs [])
    (hexc : ∀ G e h' tk', Fr h₀ L G m → RaisedSN base G (envX cn cs L a ccd cl :: outer) e (.ref 56) news h' → G.UpToSlots h' → E (.ref e) { s with heap := h', toks := tk' }) :
    wpAny (model PP w) (ktrTop dp un gd cn cs L a ccd cl outer) (call (.ref 26) [.ref x, .int code tt]) Q E s := by
  exact use_split N U _ (mem4 h1 h2 h3 h4) fun rest N1 d2 hl bk => mindex_empty B F X N1 T hk hroom hunits hi fun G e h' tk' F' R' U' => hexc G e h' tk' F' (raised_less R' ((updF_self U) ▸ bk _)) U'
theorem mindex_count_use {w : World} {mg mb : Str → Option Value} {mean : ExcName → Option Value} {loose : List Str} {dp un : Nat} {gd : Option (List Code)} {cn : Str} {cs : Scope} {a : Addr} {ccd : Value} {cl : List (Str × Addr)} {outer : List Env} {A₀ : Around} {base h₀ : Heap} {L : Addr} {m : Str → Option Value} {s : Shared} {Q E : Value → Shared → Prop} {news : List (Addr × Obj)} {g : Obj → List (Addr × Obj)}
    {x dx sx sdx l : Addr} {wb sb : Nat → Nat} {tt : Tok} {vs : List Value} {due : List Int} {c : Nat} {k code : Int}
    (B : Below A₀ base outer h₀) (F : Fr h₀ L s.heap m) (X : (hd.heap_39 w.params).In h₀) (N : News h₀ L s.heap news) (T : Top hd.view_39 loose mean mg mb h₀) (hk : cs.kind = .function) (hroom : dp + 40 < recursionLimit) (hunits : un + 200 < cLine)
    (h1 : (x, instObj 259 dx) ∈ news) (h2 : (dx, workD w wb sx) ∈ news) (h3 : (sx, instObj 208 sdx) ∈ news) (h4 : (sdx, stackD w sb l) ∈ news) (U : UpdF l (listOf vs.toArray c) news g)
    (hi : IntsAre vs (due ++ [k])) (hlen : due.length < 8) (hbig : -2147483648 ≤ k ∧ k ≤ 2147483647) (hout : ¬ (1 ≤ k ∧ k ≤ (due.length : Int)))
    (hexc : ∀ (vs' : List Value) (c9 : Nat) G e h' tk', IntsAre vs' due → Fr h₀ L G m → RaisedSN base G (envX cn cs L a ccd cl :: outer) e (.ref 56) (g (listOf vs'.toArray c9)) h' → G.UpToSlots h' → E (.ref e) { s with heap := h', toks := tk' }) :
    wpAny (model PP w) (ktrTop dp un gd cn cs L a ccd cl outer) (call (.ref 26) [.ref x, .int code tt]) Q E s := by
  exact use_split N U _ (mem4 h1 h2 h3 h4) fun rest N1 d2 hl bk => mindex_count B F X N1 T hk hroom hunits hi hlen hbig hout (ne4 N h1 h2 h3 h4 hl) d2 fun vs' c9 G e h' tk' I' F' R' U' => hexc vs' c9 G e h' tk' I' F' (raised_less R' (bk _)) U'
section
variable {prog : Program} {w : World} {A₀ A : Around} {s : Shared} {base h₀ : Heap} {L a : Addr} {m : Str → Option Value} {cn : Str} {cs : Scope} {ccd : Value} {cl : List (Str × Addr)} {news : List (Addr × Obj)} {K : Frag} {p : Program} {loose : List Str} {mean : ExcName → Option Value} {mg mb : Str → Option Value}
    {R : Result → Shared → Prop} {name qual : Str} {params : Arguments} {body : List Stmt} {scope : Scope} {dV kV doc pm cdv ct oc : Value} {an od : Option Addr} {osl : Array (Option Value)} {f : Addr} {args : Args} {binds : List (Str × Value)}
theorem below_pushX {outer : List Env} {h : Heap} (K : Below A base outer h₀) (F : Fr h₀ L h m) (hk : cs.kind = .function) : Below (A.deeper (envX cn cs L a ccd cl)) base (envX cn cs L a ccd cl :: outer) h := by
  have hnew : base.get? L = none := by
    cases hq : base.get? L with
    | none => rfl
    | some o => exact absurd (Nat.lt_of_lt_of_le (Heap.lt_size (K.stays L o hq)) F.above) (Nat.lt_irrefl _)
  refine ⟨Around.frames_deeper K.stack, fun b o e => F.keep b o (K.stays b o e), ?_⟩
  exact .cons (by show cs.kind ≠ .module; rw [hk]; decide) rfl F.ns hnew (K.frames.of_keeps fun b o e _ => ⟨o, F.keep b o e, rfl⟩)
theorem enterX {P : Prop} (B : Below A₀ base [] h₀) (F : Fr h₀ L s.heap m) (N : News h₀ L s.heap news) (hA : A.frames = some [envX cn cs L a ccd cl]) (hck : cs.kind = .function)
    (k : ∀ oL es ep, (hideAll s.heap (news.map (·.1))).get? L = some oL → oL.data = .dict es ep → (∀ h', h'.get? L = some oL → Heap.Ns h' L m) → (∀ (sl : Array (Option Value)) h', h'.get? L = some { oL with slots := sl } → Heap.Ns h' L m) →
      h₀.StaysIn (hideAll s.heap (news.map (·.1))) → Below A base [envX cn cs L a ccd cl] (hideAll s.heap (news.map (·.1))) → P) : P := by
  have nm : ∀ b o, h₀.get? b = some o → b ∉ news.map (·.1) := fun b o e q => by
    obtain ⟨p, hp, rfl⟩ := List.mem_map.mp q
    rw [(N p hp).2.2] at e; cases e
  have st : h₀.StaysIn (hideAll s.heap (news.map (·.1))) := fun b o e => hideAll_get _ (F.keep b o e) (nm b o e)
  obtain ⟨oL, es, ep, hL, hLd, hLk, hLf⟩ := F.ns
  have nL : L ∉ news.map (·.1) := fun q => by
    obtain ⟨p, hp, e⟩ := List.mem_map.mp q
    exact (N p hp).2.1 e
  have hLg := hideAll_get (news.map (·.1)) hL nL
  have B₁ := below_pushX (cn := cn) (a := a) (ccd := ccd) (cl := cl) B F hck
  exact k oL es ep hLg hLd (fun h' e => ⟨oL, es, ep, e, hLd, hLk, hLf⟩) (fun sl h' e => ⟨_, es, ep, e, hLd, hLk, hLf⟩) st ⟨hA, fun b o e => st b o (B.stays b o e), funFrames_hideAll B₁.frames fun env he b hb hf => by
    cases he with
    | head => exact nL ((Option.some.inj hf : L = b) ▸ hb)
    | tail _ he => cases he⟩
theorem code_defX (B : Below A₀ base [] h₀) (F : Fr h₀ L s.heap m) (X₀ : K.In h₀) (N : News h₀ L s.heap news) (T : Top p loose mean mg mb h₀) (hA : A.frames = some [envX cn cs L a ccd cl])
    (ho : K.lookup f = some ⟨oc, od, .func (fnOf name qual params body scope dV kV doc pm an cdv ct), osl⟩) (hcd : codeIn K cdv qual = true) (hroom : A.depth < recursionLimit)
    (hbind : BindsTo s (fnOf name qual params body scope dV kV doc pm an cdv ct) args binds) (hloc : ∀ y ∈ binds, scope.names.lookup y.1 = some .local)
    (h : ∀ g L' h₁, Fr h₀ L g m → Fr g L' h₁ (fun y => binds.reverse.lookup y) → News g L' h₁ news → Below A base [envX cn cs L a ccd cl] g → K.In g → Top p loose mean mg mb g → KtsDicts ([envX cn cs L a ccd cl].filterMap (·.frame)) g →
      wpAny (model prog w) (A.deeper (envOf qual scope L' f cdv)) (execs body (envOf qual scope L' f cdv))
        (fun fl s' => LeaveS0 ([envX cn cs L a ccd cl].filterMap (·.frame)) h₀ L m g R (match fl with | .ret v => v | _ => .none) s')
        (fun e s' => wpAny (model prog w) (A.deeper (envOf qual scope L' f cdv)) (leaving (envOf qual scope L' f cdv) e) (fun _ s'' => R (.error e) s'') (fun e' s'' => R (.error e') s'') s')
        { s with heap := h₁, toks := s.toks + binds.length })
    (hck : cs.kind = .function) (hco : scope.isCoroutine = false) (hgen : scope.isGenerator = false) (hk : scope.kind = .function)
    (hcell : ∀ x ∈ scope.names, x.2 ≠ .cell) : codeAny (model prog w) A (.call (.ref f) args) R s := by
  have X := X₀.keeps F.keep
  refine codeAny_call_def (fd := fnOf name qual params body scope dV kV doc pm an cdv ct) (body := body) (binds := binds) hroom (X _ _ ho) rfl (T.nolimit.keeps F.keep) (codeRec_of X hcd) rfl hbind hcell hloc (fun h₁ hns hk₁ => ?_) hco hgen hk
  refine enterX B F N hA hck fun oL es ep hLg hLd hN hNs st B₂ => ?_
  refine wpAny_mono (h _ s.heap.objs.size h₁ ⟨hN _ hLg, st, F.above⟩ ⟨hns, fun b o e => hk₁ b o (of_hideAll _ e), Nat.le_of_eq (hideAll_size _ _)⟩
    (fun p hp => ⟨hk₁ _ _ (N p hp).1, Nat.ne_of_lt (Heap.lt_size (N p hp).1), hideAll_none _ (List.mem_map_of_mem hp)⟩) B₂ (X₀.keeps st) (T.keeps st) (fun b hb => by
      obtain rfl : b = L := by simpa using hb
      exact ⟨oL, es, ep, hLg, hLd⟩)) (fun fl s' hl => ?_) fun _ _ y => y
  obtain ⟨g', L', m', news', T', F', N', k⟩ := hl
  have nL₀ : h₀.get? L = none := kts_self F
  obtain ⟨sl, hs⟩ := T'.up hLg
  refine k ⟨hNs sl _ (F'.keep _ _ hs), fun b o e => F'.keep b o (T'.other b o (st b o e) (fun q => by
    have z : b = L := by simpa using q
    rw [z, nL₀] at e
    cases e)), F.above⟩ fun p hp => ⟨(N' p hp).1, fun q => ?_, ?_⟩
  · have := (N' p hp).2.2; rw [q, hs] at this; cases this
  · cases q : h₀.get? p.1 with
    | none => rfl
    | some o =>
      obtain ⟨sl', hs'⟩ := T'.up (st _ _ q)
      have := (N' p hp).2.2
      rw [hs'] at this
      cases this
end
end
section
def DrawEnd (h₀ : Heap) (L : Addr) (m : Str → Option Value) (s : Shared) (pre : List (Addr × Obj)) (g : Obj → List (Addr × Obj)) (ms : List Int) (v : Value) (s' : Shared) : Prop :=
  ∃ (x y r : Int) (tx ty t : Tok) (c : Nat) (h' : Heap) (tk' : Nat), v = .int r t ∧ s' = { s with heap := h', toks := tk' } ∧ Fr h₀ L h' m ∧ News h₀ L h' (pre ++ g (listOf #[Value.int x tx, Value.int y ty] c)) ∧ 0 ≤ x ∧ (0 ≤ y ∧ y < 2147483647) ∧ r ∈ ms
open LCg in
theorem draws_rest {prog : Program} {w : World} {A : Around} {h₀ : Heap} {L : Addr} {m : Str → Option Value} {env : Env} {elt : PySem.Expr} {x : Str} {scope : Scope} {cl : List (Str × Addr)} {s : Shared} {P : Nat → Value → Prop} {Fin : List Value → List (Addr × Obj) → Prop} {n : Nat} {news : List (Addr × Obj)} {g : Obj → List (Addr × Obj)} {l : Addr} {x0 y0 : Int} {tx0 ty0 : Tok} {c₀ : Nat} (ms : List Int)
    (U : UpdF l (listOf #[Value.int x0 tx0, Value.int y0 ty0] c₀) news g) (hx : 0 ≤ x0) (hy : 0 ≤ y0 ∧ y0 < 2147483647)
    (step : ∀ (a b : Int) (ta tb : Tok) (c : Nat) (ys : List Value) I oI C oC D h tk (E' : Value → Shared → Prop), 0 ≤ a → (0 ≤ b ∧ b < 2147483647) → Fr h₀ L h m → News h₀ L h ((I, oI) :: (C, oC) :: (D, lst ys) :: g (listOf #[Value.int a ta, Value.int b tb] c)) →
      UpdF l (listOf #[Value.int a ta, Value.int b tb] c) ((I, oI) :: (C, oC) :: (D, lst ys) :: g (listOf #[Value.int a ta, Value.int b tb] c)) (fun o => (I, oI) :: (C, oC) :: (D, lst ys) :: g o) →
      wpAny (model prog w) A (eval elt (compEnvC scope cl C env)) (DrawEnd h₀ L m { s with heap := h, toks := tk } [(I, oI), (C, oC), (D, lst ys)] g ms) E' { s with heap := h, toks := tk })
    (fin : ∀ (a b : Int) (ta tb : Tok) (c : Nat) (ys : List Value) (ns : List Int), 0 ≤ a → (0 ≤ b ∧ b < 2147483647) → IntsAre ys ns → ns.length = n → (∀ k ∈ ns, k ∈ ms) → Fin ys (g (listOf #[Value.int a ta, Value.int b tb] c))) :
    CompRest prog w A h₀ L m env elt x scope cl s (fun _ => True) P Fin n 0 [] news := by
  refine rest_ind (fun i ys nw => ∃ (a b : Int) (ta tb : Tok) (c : Nat) (ns : List Int), nw = g (listOf #[Value.int a ta, Value.int b tb] c) ∧ 0 ≤ a ∧ (0 ≤ b ∧ b < 2147483647) ∧ IntsAre ys ns ∧ ns.length = i ∧ ∀ k ∈ ns, k ∈ ms) ?_ ?_ ?_
  · rintro i ys nw hin ⟨a, b, ta, tb, c, ns, rfl, ha, hb, hys, hl, hm⟩ v I oI C oC D m₂ h tk E' _ _ _ F N off ne
    obtain ⟨_, n1, n2, n3⟩ := off3_upd (updF_next U (listOf #[Value.int a ta, Value.int b tb] c)) (listOf #[Value.int a ta, Value.int b tb] c) off
    refine wpAny_mono (step a b ta tb c ys I oI C oC D h tk E' ha hb F N (UpdF.tail (Ne.symm n1) (UpdF.tail (Ne.symm n2) (UpdF.tail (Ne.symm n3) (updF_next U _))))) (fun y s' hq => ?_) fun _ _ z => z
    obtain ⟨a', b', r, ta', tb', t, c', h', tk', rfl, rfl, F', N', ha', hb', hr⟩ := hq
    refine ⟨h', tk', g (listOf #[Value.int a' ta', Value.int b' tb'] c'), rfl, F', N', (off3_upd (updF_next U (listOf #[Value.int a ta, Value.int b tb] c)) _ off).1, trivial, a', b', ta', tb', c', ns ++ [r], rfl, ha', hb', hys.append (IntsAre.cons _ _ IntsAre.nil), by simp [hl], fun k hk => ?_⟩
    rcases List.mem_append.mp hk with hk | hk
    · exact hm k hk
    · rw [List.mem_singleton.mp hk]; exact hr
  · rintro ys nw ⟨a, b, ta, tb, c, ns, rfl, ha, hb, hys, hl, hm⟩
    exact fin a b ta tb c ys ns ha hb hys hl hm
  · exact ⟨x0, y0, tx0, ty0, c₀, [], (updF_self U).symm, hx, hy, IntsAre.nil, rfl, fun _ h => nomatch h⟩
def TurnEnd (h₀ : Heap) (L : Addr) (s : Shared) (g : Obj → List (Addr × Obj)) (own : List (Addr × Obj)) (f : Flow) (s' : Shared) : Prop :=
  ∃ (x y : Int) (tx ty : Tok) (c : Nat) (m' : Str → Option Value) (h' : Heap) (tk' : Nat), f = .next ∧ s' = { s with heap := h', toks := tk' } ∧ Fr h₀ L h' m' ∧ News h₀ L h' (g (listOf #[Value.int x tx, Value.int y ty] c) ++ own) ∧ 0 ≤ x ∧ (0 ≤ y ∧ y < 2147483647)
theorem turns_loop {prog : Program} {w : World} {A : Around} {E : Value → Shared → Prop} {s : Shared} {env : Env} {h₀ : Heap} {X : Str} {body : List Stmt} {Q : Flow → Shared → Prop} {m₀ : Str → Option Value}
    {rr l : Addr} {a₀ b₀ : Int} {t₀ u₀ v₀ : Tok} {n : Nat} {x0 y0 : Int} {tx0 ty0 : Tok} {c₀ : Nat} {news : List (Addr × Obj)} {g : Obj → List (Addr × Obj)}
    (hh : A.handled = none) (hr : IsRange s.heap rr a₀ b₀ 1 t₀ u₀ v₀) (hsmall : Builtin.Range.small a₀ b₀ 1 = true) (hn : Builtin.Range.rangeSize a₀ b₀ 1 = (n : Int)) (U : UpdF l (listOf #[Value.int x0 tx0, Value.int y0 ty0] c₀) news g) (hx : 0 ≤ x0) (hy : 0 ≤ y0 ∧ y0 < 2147483647)
    (F : Fr h₀ env.locals s.heap m₀) (N : News h₀ env.locals s.heap news)
    (turn : ∀ (k : Int) (t : Tok) (x y : Int) (tx ty : Tok) (c : Nat) (m₁ : Str → Option Value) h tk own, 0 ≤ x → (0 ≤ y ∧ y < 2147483647) → OwnOff own (news.map (·.1)) → Fr h₀ env.locals h (fun z => if z = X then some (.int k t) else m₁ z) → News h₀ env.locals h (g (listOf #[Value.int x tx, Value.int y ty] c) ++ own) →
      UpdF l (listOf #[Value.int x tx, Value.int y ty] c) (g (listOf #[Value.int x tx, Value.int y ty] c) ++ own) (fun o => g o ++ own) →
      wpAny (model prog w) A (execs body env) (TurnEnd h₀ env.locals { s with heap := h, toks := tk } g own) E { s with heap := h, toks := tk })
    (done : ∀ (x y : Int) (tx ty : Tok) (c : Nat) (m₁ : Str → Option Value) h tk, Fr h₀ env.locals h m₁ → News h₀ env.locals h (g (listOf #[Value.int x tx, Value.int y ty] c)) → Q .next { s with heap := h, toks := tk }) :
    wpAny (model prog w) A (pyIter (.ref rr)) (fun it s₂ => LoopAtV prog w A h₀ env X body Q E it s₂) E s := by
  refine iter_rangeS (σ := Unit) (fun _ _ nx => ∃ (x y : Int) (tx ty : Tok) (c : Nat), nx = g (listOf #[Value.int x tx, Value.int y ty] c) ∧ 0 ≤ x ∧ (0 ≤ y ∧ y < 2147483647)) (fun _ _ => ()) () hh hr hsmall hn F N ⟨x0, y0, tx0, ty0, c₀, (updF_self U).symm, hx, hy⟩ ?_ ?_
  · rintro k t _ m₁ nx h tk own _ hoff ⟨x, y, tx, ty, c, rfl, hx1, hy1⟩ F₁ N₁
    have hol : ∀ p ∈ own, p.1 ≠ l := hoff.ne (updF_has U)
    refine wpAny_mono (turn k t x y tx ty c m₁ h tk own hx1 hy1 hoff F₁ N₁ (updF_app (updF_next U _) hol)) (fun f s₂ hq => ?_) fun _ _ z => z
    obtain ⟨x', y', tx', ty', c', m', h', tk', rfl, rfl, F', N', hx', hy'⟩ := hq
    exact ⟨h', tk', _, _, g (listOf #[Value.int x' tx', Value.int y' ty'] c'), rfl, F', N', fun p hp => List.mem_append_left _ hp, fun p hp => List.mem_append_right _ hp, updF_adr U _, x', y', tx', ty', c', rfl, hx', hy'⟩
  · rintro m₁ nx h tk ⟨x, y, tx, ty, c, rfl, _, _⟩ F₁ N₁
    exact done x y tx ty c m₁ h tk F₁ N₁
end
section
theorem pre_short {pre post ns : List Int} {n : Int} (h : ns = pre ++ n :: post) (hl : ns.length ≤ 8) : ([] ++ pre).length < 8 := by
  rw [h, List.length_append, List.length_cons] at hl
  exact Nat.lt_of_lt_of_le (Nat.lt_add_of_pos_right (Nat.succ_pos _)) hl
section
example : True := by
  k_with_none
  k_with "eval Dict" => (k_here; k_dflt ((refine' kdn_str ?_ ?_ ?_ ?_ ?_ ?_ ?_ ?_ ?_); (case refine'_5 => rfl); (case refine'_6 => k_asm); (case refine'_7 => k_asm); (case refine'_8 => exact Top.nolimit (by k_asm)); (case refine'_9 => rfl); (case refine'_10 => rfl); (case refine'_11 => exact List.cons_ne_nil _ _); (case refine'_12 => exact Nat.le_of_ble_eq_true rfl)); intro d' h' o' F' N' l1 lo' hd'; (try k_lt l1))
  k_with "enter" => (refine' code_def (by k_asm) (by k_asm) (by k_asm) (by k_asm) (by k_asm) (by exact rfl) (by exact rfl) (by assumption) (by k_is) (by k_is) (by k_room) (by first | exact BindsTo.of_eq rfl | exact binds_K (by k_in) rfl (by k_is) rfl rfl rfl | fail "k_enter: no rule for these arguments") (by exact locs rfl) ?_ (by exact rfl) (by exact rfl) (by exact rfl) (by decide); k_whole; intro g' L' h' FG' F' N' B' X' T'; (try dsimp only); (try k_lift B'); (try k_fold); (refine foldA ?_); intro A9; (refine foldV ?_); intro V9)
  k_with "room" => first | (refine' room_of (by assumption) (by ((try simp (config := { zetaDelta := true }) only [depth_under_make, depth_under_kw, depth_in1, depth_deeper, depth_caller]); (try dsimp (config := { zetaDelta := true }) only [ktrTop]); simp only [Nat.add_assoc, Nat.reduceAdd, Nat.add_le_add_iff_left, Nat.reduceLeDiff, Nat.le_add_right]))) | ktr_room
  k_with "units" => first | (refine' room_of (by assumption) (by ((try simp (config := { zetaDelta := true }) only [units_under_make, units_in1, units_deeper, Around.mark_units, units_caller]); (try dsimp (config := { zetaDelta := true }) only [ktrTop]); simp only [Nat.add_assoc, Nat.reduceAdd, Nat.add_le_add_iff_left, Nat.reduceLeDiff, Nat.le_add_right]))) | ktr_units
  k_with "pj0" => first | assumption | exact And.right (by k_extra "pj1")
  k_with "pj1" => first | assumption | exact And.right (by k_extra "pj2")
  k_with "pj2" => first | assumption | exact And.right (by k_extra "pj3")
  k_with "pj3" => first | assumption | exact And.right (by k_extra "pj4")
  k_with "pj4" => first | assumption | exact And.right (by k_extra "pj5")
  k_with "pj5" => first | assumption | exact And.right (by k_extra "pj6")
  k_with "pj6" => first | assumption | exact And.right (by k_extra "pj7")
  k_with "pj7" => first | assumption | exact And.right (by k_extra "pj8")
  k_with "pj8" => first | assumption | exact And.right (by k_extra "pj9")
  k_with "pj9" => first | assumption | exact And.right (by k_extra "pj10")
  k_with "pj10" => first | assumption | exact And.right (by k_extra "pj11")
  k_with "pj11" => first | assumption | exact And.right (by k_extra "pj12")
  k_with "pj12" => first | assumption | exact And.right (by k_extra "pj13")
  k_with "pj13" => first | assumption | exact And.right (by k_extra "pj14")
  k_with "pj14" => first | assumption | exact And.right (by k_extra "pj15")
  k_with "pj15" => first | assumption | exact And.right (by k_extra "pj16")
  k_with "pj16" => first | assumption | exact And.right (by k_extra "pj17")
  k_with "pj17" => first | assumption | exact And.right (by k_extra "pj18")
  k_with "pj18" => first | assumption | exact And.right (by k_extra "pj19")
  k_with "pj19" => first | assumption | exact And.right (by k_extra "pj20")
  k_with "pj20" => first | assumption | exact And.right (by k_extra "pj21")
  k_with "pj21" => first | assumption | exact And.right (by k_extra "pj22")
  k_with "pj22" => assumption
  k_with "ne9" => first | (refine Nat.ne_of_lt ?_; (first | assumption | exact And.left (by k_extra "pj0") | exact And.right (by k_extra "pj0"))) | (refine Nat.ne_of_gt ?_; (first | assumption | exact And.left (by k_extra "pj0") | exact And.right (by k_extra "pj0"))) | (first | assumption | exact And.left (by k_extra "pj0") | exact And.right (by k_extra "pj0")) | (refine Ne.symm ?_; (first | assumption | exact And.left (by k_extra "pj0") | exact And.right (by k_extra "pj0"))) | (refine pW ?_; (first | assumption | exact And.left (by k_extra "pj0") | exact And.right (by k_extra "pj0"))) | (refine pX ?_; (first | assumption | exact And.left (by k_extra "pj0") | exact And.right (by k_extra "pj0"))) | exact neT (by assumption) (by (first | assumption | exact And.left (by k_extra "pj0") | exact And.right (by k_extra "pj0")))
  k_with "ne" => (refine neN ?_; (try dsimp only); first | k_extra "ne9" | omega)
  k_with "omega" => first | with_reducible (first | (first | assumption | exact And.left (by k_extra "pj0") | exact And.right (by k_extra "pj0")) | exact oA (by assumption) | exact oB (by assumption) | exact oC (by assumption) | exact oD (by assumption) | exact oE (by assumption) (by assumption) | exact oF (by assumption) (by assumption) | exact oG (by assumption) (by assumption) | exact oH (by assumption) | exact oI (by assumption) | exact oJ (by assumption) | exact oK (by assumption) (by assumption) | exact oL (by assumption) (by assumption) | exact oM | exact oN (by assumption) | exact oO (by assumption) | exact idx1 (by assumption) (by assumption) | exact idx2 (by assumption) (by assumption) | exact oP (by assumption) (by assumption) | exact oQ | exact oR (by assumption) | exact oS (by assumption) | exact oT (by assumption) (by assumption) | exact oU (by assumption) (by assumption) | exact oV (by assumption) (by assumption) | exact oW (by assumption) | exact oX (by assumption) | exact oY (by assumption) | exact oZ (by assumption) (by assumption) | exact pA (by assumption) (by assumption) | exact pC (by assumption) | exact pB (by assumption) (by assumption) | exact pD (by assumption) | exact pE (by assumption) | exact pF (by assumption) | exact pG (by assumption) | exact pH (by assumption) | exact pI (by assumption) | exact pJ (by assumption) (by assumption) | exact pK (by assumption) | exact pL (by assumption) (by assumption) | exact pM | exact pN | exact pO (by assumption) | exact pP (by assumption) (by assumption) | exact pQ (by assumption) | exact pR (by assumption) | exact pS (by assumption) | exact pT (by assumption) | exact pU (by assumption) | exact pV (by assumption) | exact pY (by assumption) | exact oBad (by assumption) (by assumption) | exact oBad1 (by assumption) (by assumption) | exact qA (by assumption) | exact qB (by assumption) | exact qC (by assumption) | exact qD (by assumption) | exact qE (by assumption) | exact qF | exact qG (by assumption) (by assumption) | exact oT1 (by assumption) | exact oD1 (by assumption) | exact oD2 (by assumption)) | decide | ((first | (with_reducible show ¬ (_ = _)) | (with_reducible show @Ne Nat _ _)); k_extra "ne9")
  k_with "fold" => ((with_reducible show wpAny _ _ (eval _ _) _ _ _); (fail_if_success (with_reducible show wpAny _ _ (eval (PySem.Expr.Slice _ _ _ _) _) _ _ _)); (fail_if_success (fail_if_success k_fold)); refine foldQ ?_; intro Q9)
  k_with "fold" => ((with_reducible show wpAny _ _ (execs _ _) _ _ (Shared.mk _ _ _ (_ + _) _)); refine tokfold ?_; intro tk9)
  k_with "updF" => assumption
  k_with "call ref" => (k_here; (with_reducible show wpAny _ _ (call (Value.ref 259) _) _ _ _); k_dflt (refine' work_made (by k_asm) (by k_asm) (by k_asm) (by k_asm) (by k_asm) (by first | exact rfl | assumption) (by k_extra "room") (by k_extra "units") ?_; k_whole); intro x9 dx9 sx9 sdx9 l9 wb9 sb9 h9 tk9 F9 N9 lt9 ne9; (have mk9 := stackMark l9); (have ne8 := chainLt ne9); (have lt8 := allLt_far lt9 ne9); (try k_lt lt9); (try k_lt lt8))
  k_with "call ref" => (k_here; (with_reducible show wpAny _ _ (call (Value.ref 170) _) _ _ _); k_dflt (refine' push_use (by k_asm) (by k_asm) (by k_asm) (by k_asm) (by k_asm) (by first | exact rfl | assumption) (by k_extra "room") (by k_extra "units") (by k_mem) (by k_mem) (by k_updF) (by assumption) (by first | assumption | omega) (by first | assumption | omega) ?_; k_whole); intro t9 c9 h9 tk9 F9 N9; (try dsimp only at N9); (try k_sweep); (try k_fold))
  k_with "exec For" => (k_here; (rename Fr _ _ _ _ => lF'); (with_unfolding_all refine' For_invVF lF' (by exact rfl) (by exact rfl) ?_; k_whole))
  trivial
theorem allLt_far {rest : List (Addr × Obj)} {dx x sdx sx l : Addr} (h : ∀ p ∈ rest, p.1 < dx) (n : @LT.lt Nat _ dx x ∧ @LT.lt Nat _ x sdx ∧ @LT.lt Nat _ sdx sx ∧ @LT.lt Nat _ sx l) : ∀ p ∈ rest, p.1 < l :=
  fun p hp => Nat.lt_trans (h p hp) (Nat.lt_trans n.1 (Nat.lt_trans n.2.1 (Nat.lt_trans n.2.2.1 n.2.2.2)))
def StackMark (_l : Addr) : Prop := True
theorem stackMark (l : Addr) : StackMark l := trivial
theorem updF_in {l L : Addr} {h₀ h : Heap} {o : Obj} {news : List (Addr × Obj)} {g : Obj → List (Addr × Obj)} (_ : StackMark l) (_ : News h₀ L h news) (U : UpdF l o news g) : UpdF l o news g := U
example : True := by
  k_with_none
  k_with "eval Dict" => (k_here; k_dflt ((refine' kdn_str ?_ ?_ ?_ ?_ ?_ ?_ ?_ ?_ ?_); (case refine'_5 => rfl); (case refine'_6 => k_asm); (case refine'_7 => k_asm); (case refine'_8 => exact Top.nolimit (by k_asm)); (case refine'_9 => rfl); (case refine'_10 => rfl); (case refine'_11 => exact List.cons_ne_nil _ _); (case refine'_12 => exact Nat.le_of_ble_eq_true rfl)); intro d' h' o' F' N' l1 lo' hd'; (try k_lt l1))
  k_with "enter" => (refine' code_def (by k_asm) (by k_asm) (by k_asm) (by k_asm) (by k_asm) (by exact rfl) (by exact rfl) (by assumption) (by k_is) (by k_is) (by k_room) (by first | exact BindsTo.of_eq rfl | exact binds_K (by k_in) rfl (by k_is) rfl rfl rfl | fail "k_enter: no rule for these arguments") (by exact locs rfl) ?_ (by exact rfl) (by exact rfl) (by exact rfl) (by decide); k_whole; intro g' L' h' FG' F' N' B' X' T'; (try dsimp only); (try k_lift B'); (try k_fold); (refine foldA ?_); intro A9; (refine foldV ?_); intro V9)
  k_with "room" => first | (refine' room_of (by assumption) (by ((try simp (config := { zetaDelta := true }) only [depth_under_make, depth_under_kw, depth_in1, depth_deeper, depth_caller]); (try dsimp (config := { zetaDelta := true }) only [ktrTop]); simp only [Nat.add_assoc, Nat.reduceAdd, Nat.add_le_add_iff_left, Nat.reduceLeDiff, Nat.le_add_right]))) | ktr_room
  k_with "units" => first | (refine' room_of (by assumption) (by ((try simp (config := { zetaDelta := true }) only [units_under_make, units_in1, units_deeper, Around.mark_units, units_caller]); (try dsimp (config := { zetaDelta := true }) only [ktrTop]); simp only [Nat.add_assoc, Nat.reduceAdd, Nat.add_le_add_iff_left, Nat.reduceLeDiff, Nat.le_add_right]))) | ktr_units
  k_with "pj0" => first | assumption | exact And.right (by k_extra "pj1")
  k_with "pj1" => first | assumption | exact And.right (by k_extra "pj2")
  k_with "pj2" => first | assumption | exact And.right (by k_extra "pj3")
  k_with "pj3" => first | assumption | exact And.right (by k_extra "pj4")
  k_with "pj4" => first | assumption | exact And.right (by k_extra "pj5")
  k_with "pj5" => first | assumption | exact And.right (by k_extra "pj6")
  k_with "pj6" => first | assumption | exact And.right (by k_extra "pj7")
  k_with "pj7" => first | assumption | exact And.right (by k_extra "pj8")
  k_with "pj8" => first | assumption | exact And.right (by k_extra "pj9")
  k_with "pj9" => first | assumption | exact And.right (by k_extra "pj10")
  k_with "pj10" => first | assumption | exact And.right (by k_extra "pj11")
  k_with "pj11" => first | assumption | exact And.right (by k_extra "pj12")
  k_with "pj12" => first | assumption | exact And.right (by k_extra "pj13")
  k_with "pj13" => first | assumption | exact And.right (by k_extra "pj14")
  k_with "pj14" => first | assumption | exact And.right (by k_extra "pj15")
  k_with "pj15" => first | assumption | exact And.right (by k_extra "pj16")
  k_with "pj16" => first | assumption | exact And.right (by k_extra "pj17")
  k_with "pj17" => first | assumption | exact And.right (by k_extra "pj18")
  k_with "pj18" => first | assumption | exact And.right (by k_extra "pj19")
  k_with "pj19" => first | assumption | exact And.right (by k_extra "pj20")
  k_with "pj20" => first | assumption | exact And.right (by k_extra "pj21")
  k_with "pj21" => first | assumption | exact And.right (by k_extra "pj22")
  k_with "pj22" => assumption
  k_with "ne9" => first | (refine Nat.ne_of_lt ?_; (first | assumption | exact And.left (by k_extra "pj0") | exact And.right (by k_extra "pj0"))) | (refine Nat.ne_of_gt ?_; (first | assumption | exact And.left (by k_extra "pj0") | exact And.right (by k_extra "pj0"))) | (first | assumption | exact And.left (by k_extra "pj0") | exact And.right (by k_extra "pj0")) | (refine Ne.symm ?_; (first | assumption | exact And.left (by k_extra "pj0") | exact And.right (by k_extra "pj0"))) | (refine pW ?_; (first | assumption | exact And.left (by k_extra "pj0") | exact And.right (by k_extra "pj0"))) | (refine pX ?_; (first | assumption | exact And.left (by k_extra "pj0") | exact And.right (by k_extra "pj0"))) | exact neT (by assumption) (by (first | assumption | exact And.left (by k_extra "pj0") | exact And.right (by k_extra "pj0")))
  k_with "ne" => (refine neN ?_; (try dsimp only); first | k_extra "ne9" | omega)
  k_with "omega" => first | with_reducible (first | (first | assumption | exact And.left (by k_extra "pj0") | exact And.right (by k_extra "pj0")) | exact oA (by assumption) | exact oB (by assumption) | exact oC (by assumption) | exact oD (by assumption) | exact oE (by assumption) (by assumption) | exact oF (by assumption) (by assumption) | exact oG (by assumption) (by assumption) | exact oH (by assumption) | exact oI (by assumption) | exact oJ (by assumption) | exact oK (by assumption) (by assumption) | exact oL (by assumption) (by assumption) | exact oM | exact oN (by assumption) | exact oO (by assumption) | exact idx1 (by assumption) (by assumption) | exact idx2 (by assumption) (by assumption) | exact oP (by assumption) (by assumption) | exact oQ | exact oR (by assumption) | exact oS (by assumption) | exact oT (by assumption) (by assumption) | exact oU (by assumption) (by assumption) | exact oV (by assumption) (by assumption) | exact oW (by assumption) | exact oX (by assumption) | exact oY (by assumption) | exact oZ (by assumption) (by assumption) | exact pA (by assumption) (by assumption) | exact pC (by assumption) | exact pB (by assumption) (by assumption) | exact pD (by assumption) | exact pE (by assumption) | exact pF (by assumption) | exact pG (by assumption) | exact pH (by assumption) | exact pI (by assumption) | exact pJ (by assumption) (by assumption) | exact pK (by assumption) | exact pL (by assumption) (by assumption) | exact pM | exact pN | exact pO (by assumption) | exact pP (by assumption) (by assumption) | exact pQ (by assumption) | exact pR (by assumption) | exact pS (by assumption) | exact pT (by assumption) | exact pU (by assumption) | exact pV (by assumption) | exact pY (by assumption) | exact oBad (by assumption) (by assumption) | exact oBad1 (by assumption) (by assumption) | exact qA (by assumption) | exact qB (by assumption) | exact qC (by assumption) | exact qD (by assumption) | exact qE (by assumption) | exact qF | exact qG (by assumption) (by assumption) | exact oT1 (by assumption) | exact oD1 (by assumption) | exact oD2 (by assumption)) | decide | ((first | (with_reducible show ¬ (_ = _)) | (with_reducible show @Ne Nat _ _)); k_extra "ne9")
  k_with "fold" => ((with_reducible show wpAny _ _ (eval _ _) _ _ _); (fail_if_success (with_reducible show wpAny _ _ (eval (PySem.Expr.Slice _ _ _ _) _) _ _ _)); (fail_if_success (fail_if_success k_fold)); refine foldQ ?_; intro Q9)
  k_with "fold" => ((with_reducible show wpAny _ _ (execs _ _) _ _ (Shared.mk _ _ _ (_ + _) _)); refine tokfold ?_; intro tk9)
  k_with "updF" => assumption
  k_with "call ref" => (k_here; (with_reducible show wpAny _ _ (call (Value.ref 259) _) _ _ _); k_dflt (refine' work_made (by k_asm) (by k_asm) (by k_asm) (by k_asm) (by k_asm) (by first | exact rfl | assumption) (by k_extra "room") (by k_extra "units") ?_; k_whole); intro x9 dx9 sx9 sdx9 l9 wb9 sb9 h9 tk9 F9 N9 lt9 ne9; (have mk9 := stackMark l9); (have ne8 := chainLt ne9); (have lt8 := allLt_far lt9 ne9); (try k_lt lt9); (try k_lt lt8))
  k_with "call ref" => (k_here; (with_reducible show wpAny _ _ (call (Value.ref 170) _) _ _ _); k_dflt (refine' push_use (by k_asm) (by k_asm) (by k_asm) (by k_asm) (by k_asm) (by first | exact rfl | assumption) (by k_extra "room") (by k_extra "units") (by k_mem) (by k_mem) (by k_updF) (by assumption) (by first | assumption | omega) (by first | assumption | omega) ?_; k_whole); intro t9 c9 h9 tk9 F9 N9; (try dsimp only at N9); (try k_sweep); (try k_fold))
  k_with "exec For" => (k_here; (rename Fr _ _ _ _ => lF'); (with_unfolding_all refine' For_invVF lF' (by exact rfl) (by exact rfl) ?_; k_whole))
  k_with "subscriptTail Name Slice ref ref" => (k_here; (with_reducible show wpAny _ _ (subscriptTail _ (PySem.Expr.Slice (some (Expr.BinOp _ _ _ _)) none none _) (Value.ref _) (Value.ref _)) _ _ _); k_dflt (refine' kmk_slice_ints (by k_asm) (by k_asm) (by kmk_list) (by kmk_part) (by kmk_part) (by l_ints) (by exact kmk_from (by l_ints) (by omega)) (by exact rfl) ?_ (by with_unfolding_all rfl) (by kmk_pure) (by kmk_size)); intro D' ws' h' F' N' l1 hI' hC' hL'; (try k_lt l1); (try k_sweep))
  k_with "call ref" => (k_here; (with_reducible show wpAny _ _ (call (Value.ref 26) _) _ _ _); k_dflt (refine' mindex_count_use (by k_asm) (by k_asm) (by k_asm) (by k_asm) (by k_asm) (by first | exact rfl | assumption) (by k_extra "room") (by k_extra "units") (by k_mem) (by k_mem) (by k_mem) (by k_mem) (by k_updF) (by assumption) (by first | assumption | omega) (by assumption) (by assumption) ?_; k_whole); intro vs9 c9 g9 e9 h9 tk9 I9 F9 R9 U9; (try dsimp only at R9))
  k_with "call ref" => (k_here; (with_reducible show wpAny _ _ (call (Value.ref 26) _) _ _ _); k_dflt (refine' mindex_empty_use (by k_asm) (by k_asm) (by k_asm) (by k_asm) (by k_asm) (by first | exact rfl | assumption) (by k_extra "room") (by k_extra "units") (by k_mem) (by k_mem) (by k_mem) (by k_mem) (by k_updF) (by assumption) ?_; k_whole); intro g9 e9 h9 tk9 F9 R9 U9; (try dsimp only at R9))
  k_with "call ref" => (k_here; (with_reducible show wpAny _ _ (call (Value.ref 26) _) _ _ _); k_dflt (refine' mindex_use (by k_asm) (by k_asm) (by k_asm) (by k_asm) (by k_asm) (by first | exact rfl | assumption) (by k_extra "room") (by k_extra "units") (by k_mem) (by k_mem) (by k_mem) (by k_mem) (by k_updF) (by assumption) (by first | assumption | omega) (by assumption) (by assumption) (by assumption) ?_; k_whole); intro vs9 c9 h9 tk9 F9 N9 I9; (try dsimp only at N9); (try k_sweep); (try k_fold))
  k_with "eval Compare" => (k_here; (fail_if_success (with_reducible show wpAny _ _ _ (fun _ _ => ∃ _, _) _ _)); (with_reducible show wpAny _ _ (eval (PySem.Expr.Compare _ [_, _] _ _) _) _ _ _); (rename ¬(1 ≤ _ ∧ _ ≤ _) => hout9); refine val_join (.bool false) ?_ (fun k9 => ?_))
  trivial
theorem right_ok {w : World} {mg mb : Str → Option Value} {mean : ExcName → Option Value} {loose : List Str} {dp un : Nat} {gd : Option (List Code)} {cn : Str} {cs : Scope} {a : Addr} {ccd : Value} {cl : List (Str × Addr)} {A₀ : Around} {base h₀ : Heap} {L : Addr} {m : Str → Option Value} {s : Shared} {Q E : Value → Shared → Prop} {news : List (Addr × Obj)}
    {l0 : Addr} {c0 : Nat} {vs : List Value} {ns : List Int}
    (B : Below A₀ base [] h₀) (F : Fr h₀ L s.heap m) (X : (hd.heap_39 w.params).In h₀) (N : News h₀ L s.heap news) (T : Top hd.view_39 loose mean mg mb h₀) (XB : (hd.heap_39 w.params).In base) (TB : Top hd.view_39 loose mean mg mb base) (hk : cs.kind = .function) (hroom : dp + 60 < recursionLimit) (hunits : un + 300 < cLine)
    (h0 : (l0, listOf vs.toArray c0) ∈ news) (hi : IntsAre vs ns) (hlen : ns.length ≤ 8) (hbig : ∀ n ∈ ns, -2147483648 ≤ n ∧ n ≤ 2147483647)
    (hret : ∀ h' tk', Fr h₀ L h' m → News h₀ L h' news → Q (.bool true) { s with heap := h', toks := tk' }) :
    wpAny (model PP w) (ktrTop dp un gd cn cs L a ccd cl []) (call (.ref 291) [.ref l0]) Q E s := by
  have hMk := kstMark
  have N1 : News h₀ L s.heap ((l0, listOf vs.toArray c0) :: news) := kst_newsOf N (newsCons N h0 fun p hp => hp)
  clear N
  have hvl : vs.length = ns.length := hi.length
  refine wpAny_call ?_
  k_dflt (refine' code_defX ?k1 ?k2 ?k3 ?k4 ?k5 ?kA ?k6 ?k7 ?k8 ?k9 ?kB ?_ ?cK ?c2 ?c3 ?c4 ?c5; (case kA => exact rfl); (case k2 => k_asm); (case k1 => k_asm); (case k3 => k_asm); (case k4 => k_asm); (case k5 => k_asm); (case k6 => k_is); (case k7 => k_is); (case k8 => k_room); (case k9 => first | exact binds_K (by k_in) rfl (by k_is) rfl rfl rfl | exact BindsTo.of_eq rfl); (case kB => exact locs rfl); (case cK => assumption); (case c2 => exact rfl); (case c3 => exact rfl); (case c4 => exact rfl); (case c5 => decide); k_whole; intro g' L' h' FG' F' N' B' X' T' D'; (try dsimp only); (try k_lift B'); (try k_fold); (refine foldA ?_); intro A9; (refine foldV ?_); intro V9)
  k_steps
  rename Fr _ _ _ _ => fS
  rename News _ _ _ _ => nS
  rename StackMark _ => hM
  rename IntsAre _ (List.take _ _) => hdue
  dsimp only at nS fS ⊢
  have U := updF_in (o := listOf ([] : List Value).toArray 0) hM nS (by k_updF)
  refine push_loop (ds := []) (by rfl) (by k_mem) (by k_ne) U hi IntsAre.nil fS nS ?_ ?_
  · intro pre post n tn vs1 c1 h1 tk1 own hpp hv1 hoff f1 n1 u1
    have hnb := hbig n (by rw [hpp]; simp)
    have hl8 : ([] ++ pre).length < 8 := pre_short hpp hlen
    clear hvl hlen hpp
    k_steps
    · assumption
    · assumption
  · intro vs1 c1 u h1 tk1 hv1 f1 n1
    rw [List.nil_append] at hv1
    clear fS nS U
    rcases List.eq_nil_or_concat ns with rfl | ⟨due, k, rfl⟩
    · have e1 : List.take (([] : List Int).length - 1) ([] : List Int) = [] := rfl
      rw [e1] at hdue
      k_steps
      all_goals (rename News _ _ _ _ => nE)
      all_goals refine hret _ _ (by assumption) (kst_newsOf nE fun p hp => ?_)
      all_goals repeat (first | exact hp | refine List.mem_cons_of_mem _ ?_)
    · rw [List.concat_eq_append] at hi hlen hbig hdue hv1 hvl
      have e1 : List.take ((due ++ [k]).length - 1) (due ++ [k]) = due := by simp
      rw [e1] at hdue
      have hdl := hdue.length
      have hl : due.length < 8 := by rw [List.length_append, List.length_singleton] at hlen; exact hlen
      have hne1 : (!decide (due ++ [k] = [])) = true := by simp
      have hne2 : decide (due ++ [k] = []) = false := by simp
      have hkb : -2147483648 ≤ k ∧ k ≤ 2147483647 := hbig k (by simp)
      clear hlen hvl
      by_cases hg : 1 ≤ k ∧ k ≤ (due.length : Int)
      · obtain ⟨hk1, hk2⟩ := hg
        have hbd : ∀ n ∈ due, -2147483648 ≤ n ∧ n ≤ 2147483647 := fun n hn => hbig n (List.mem_append_left _ hn)
        k_steps
        rename News _ _ _ _ => nE
        rw [idx1 hk1 hk2, idx2 hk1 hk2, decide_eq_true rfl]
        refine hret _ _ (by assumption) (kst_newsOf nE fun p hp => ?_)
        repeat (first | exact hp | refine List.mem_cons_of_mem _ ?_)
      · k_steps
        all_goals first | exact congrArg Value.bool (decide_eq_false (by assumption)) | exact congrArg Value.bool (decide_eq_false (by omega)) | skip
        all_goals (rename News _ _ _ _ => nE)
        all_goals refine hret _ _ (by assumption) (kst_newsOf nE fun p hp => ?_)
        all_goals repeat (first | exact hp | refine List.mem_cons_of_mem _ ?_)
end
end
section
section
example : True := by
  k_with_none
  k_with "eval Dict" => (k_here; k_dflt ((refine' kdn_str ?_ ?_ ?_ ?_ ?_ ?_ ?_ ?_ ?_); (case refine'_5 => rfl); (case refine'_6 => k_asm); (case refine'_7 => k_asm); (case refine'_8 => exact Top.nolimit (by k_asm)); (case refine'_9 => rfl); (case refine'_10 => rfl); (case refine'_11 => exact List.cons_ne_nil _ _); (case refine'_12 => exact Nat.le_of_ble_eq_true rfl)); intro d' h' o' F' N' l1 lo' hd'; (try k_lt l1))
  k_with "enter" => (refine' code_def (by k_asm) (by k_asm) (by k_asm) (by k_asm) (by k_asm) (by exact rfl) (by exact rfl) (by assumption) (by k_is) (by k_is) (by k_room) (by first | exact BindsTo.of_eq rfl | exact binds_K (by k_in) rfl (by k_is) rfl rfl rfl | fail "k_enter: no rule for these arguments") (by exact locs rfl) ?_ (by exact rfl) (by exact rfl) (by exact rfl) (by decide); k_whole; intro g' L' h' FG' F' N' B' X' T'; (try dsimp only); (try k_lift B'); (try k_fold); (refine foldA ?_); intro A9; (refine foldV ?_); intro V9)
  k_with "room" => first | (refine' room_of (by assumption) (by ((try simp (config := { zetaDelta := true }) only [depth_under_make, depth_under_kw, depth_in1, depth_deeper, depth_caller]); (try dsimp (config := { zetaDelta := true }) only [ktrTop]); simp only [Nat.add_assoc, Nat.reduceAdd, Nat.add_le_add_iff_left, Nat.reduceLeDiff, Nat.le_add_right]))) | ktr_room
  k_with "units" => first | (refine' room_of (by assumption) (by ((try simp (config := { zetaDelta := true }) only [units_under_make, units_in1, units_deeper, Around.mark_units, units_caller]); (try dsimp (config := { zetaDelta := true }) only [ktrTop]); simp only [Nat.add_assoc, Nat.reduceAdd, Nat.add_le_add_iff_left, Nat.reduceLeDiff, Nat.le_add_right]))) | ktr_units
  k_with "pj0" => first | assumption | exact And.right (by k_extra "pj1")
  k_with "pj1" => first | assumption | exact And.right (by k_extra "pj2")
  k_with "pj2" => first | assumption | exact And.right (by k_extra "pj3")
  k_with "pj3" => first | assumption | exact And.right (by k_extra "pj4")
  k_with "pj4" => first | assumption | exact And.right (by k_extra "pj5")
  k_with "pj5" => first | assumption | exact And.right (by k_extra "pj6")
  k_with "pj6" => first | assumption | exact And.right (by k_extra "pj7")
  k_with "pj7" => first | assumption | exact And.right (by k_extra "pj8")
  k_with "pj8" => first | assumption | exact And.right (by k_extra "pj9")
  k_with "pj9" => first | assumption | exact And.right (by k_extra "pj10")
  k_with "pj10" => first | assumption | exact And.right (by k_extra "pj11")
  k_with "pj11" => first | assumption | exact And.right (by k_extra "pj12")
  k_with "pj12" => first | assumption | exact And.right (by k_extra "pj13")
  k_with "pj13" => first | assumption | exact And.right (by k_extra "pj14")
  k_with "pj14" => first | assumption | exact And.right (by k_extra "pj15")
  k_with "pj15" => first | assumption | exact And.right (by k_extra "pj16")
  k_with "pj16" => first | assumption | exact And.right (by k_extra "pj17")
  k_with "pj17" => first | assumption | exact And.right (by k_extra "pj18")
  k_with "pj18" => first | assumption | exact And.right (by k_extra "pj19")
  k_with "pj19" => first | assumption | exact And.right (by k_extra "pj20")
  k_with "pj20" => first | assumption | exact And.right (by k_extra "pj21")
  k_with "pj21" => first | assumption | exact And.right (by k_extra "pj22")
  k_with "pj22" => assumption
  k_with "ne9" => first | (refine Nat.ne_of_lt ?_; (first | assumption | exact And.left (by k_extra "pj0") | exact And.right (by k_extra "pj0"))) | (refine Nat.ne_of_gt ?_; (first | assumption | exact And.left (by k_extra "pj0") | exact And.right (by k_extra "pj0"))) | (first | assumption | exact And.left (by k_extra "pj0") | exact And.right (by k_extra "pj0")) | (refine Ne.symm ?_; (first | assumption | exact And.left (by k_extra "pj0") | exact And.right (by k_extra "pj0"))) | (refine pW ?_; (first | assumption | exact And.left (by k_extra "pj0") | exact And.right (by k_extra "pj0"))) | (refine pX ?_; (first | assumption | exact And.left (by k_extra "pj0") | exact And.right (by k_extra "pj0"))) | exact neT (by assumption) (by (first | assumption | exact And.left (by k_extra "pj0") | exact And.right (by k_extra "pj0")))
  k_with "ne" => (refine neN ?_; (try dsimp only); first | k_extra "ne9" | omega)
  k_with "omega" => first | with_reducible (first | (first | assumption | exact And.left (by k_extra "pj0") | exact And.right (by k_extra "pj0")) | exact oA (by assumption) | exact oB (by assumption) | exact oC (by assumption) | exact oD (by assumption) | exact oE (by assumption) (by assumption) | exact oF (by assumption) (by assumption) | exact oG (by assumption) (by assumption) | exact oH (by assumption) | exact oI (by assumption) | exact oJ (by assumption) | exact oK (by assumption) (by assumption) | exact oL (by assumption) (by assumption) | exact oM | exact oN (by assumption) | exact oO (by assumption) | exact idx1 (by assumption) (by assumption) | exact idx2 (by assumption) (by assumption) | exact oP (by assumption) (by assumption) | exact oQ | exact oR (by assumption) | exact oS (by assumption) | exact oT (by assumption) (by assumption) | exact oU (by assumption) (by assumption) | exact oV (by assumption) (by assumption) | exact oW (by assumption) | exact oX (by assumption) | exact oY (by assumption) | exact oZ (by assumption) (by assumption) | exact pA (by assumption) (by assumption) | exact pC (by assumption) | exact pB (by assumption) (by assumption) | exact pD (by assumption) | exact pE (by assumption) | exact pF (by assumption) | exact pG (by assumption) | exact pH (by assumption) | exact pI (by assumption) | exact pJ (by assumption) (by assumption) | exact pK (by assumption) | exact pL (by assumption) (by assumption) | exact pM | exact pN | exact pO (by assumption) | exact pP (by assumption) (by assumption) | exact pQ (by assumption) | exact pR (by assumption) | exact pS (by assumption) | exact pT (by assumption) | exact pU (by assumption) | exact pV (by assumption) | exact pY (by assumption) | exact oBad (by assumption) (by assumption) | exact oBad1 (by assumption) (by assumption) | exact qA (by assumption) | exact qB (by assumption) | exact qC (by assumption) | exact qD (by assumption) | exact qE (by assumption) | exact qF | exact qG (by assumption) (by assumption) | exact oT1 (by assumption) | exact oD1 (by assumption) | exact oD2 (by assumption)) | decide | ((first | (with_reducible show ¬ (_ = _)) | (with_reducible show @Ne Nat _ _)); k_extra "ne9")
  k_with "fold" => ((with_reducible show wpAny _ _ (eval _ _) _ _ _); (fail_if_success (with_reducible show wpAny _ _ (eval (PySem.Expr.Slice _ _ _ _) _) _ _ _)); (fail_if_success (fail_if_success k_fold)); refine foldQ ?_; intro Q9)
  k_with "fold" => ((with_reducible show wpAny _ _ (execs _ _) _ _ (Shared.mk _ _ _ (_ + _) _)); refine tokfold ?_; intro tk9)
  k_with "call ref" => (k_here; (with_reducible show wpAny _ _ (call (Value.ref 291) _) _ _ _); k_dflt (refine' right_ok (by k_asm) (by k_asm) (by k_asm) (by k_asm) (by k_asm) (by first | assumption | k_asm) (by first | assumption | k_asm) (by first | exact rfl | assumption) (by first | decide | exact Nat.le_of_ble_eq_true rfl) (by first | decide | exact Nat.le_of_ble_eq_true rfl) (by k_mem) (by first | assumption | exact IntsAre.nil | exact IntsAre.cons _ _ (IntsAre.cons _ _ (IntsAre.cons _ _ (IntsAre.cons _ _ IntsAre.nil)))) (by first | decide | assumption | omega | (simp only [List.length_append, List.length_cons, List.length_nil]; omega)) (by first | decide | assumption | exact bnd_app (by assumption) (by assumption) (by omega) (by omega)) ?_; k_whole); intro h9 tk9 F9 N9; (try k_sweep); (try k_fold))
  k_with "call ref" => (k_here; (with_reducible show wpAny _ _ (call (Value.ref 270) _) _ _ _); k_dflt (refine' pool_ok (by k_asm) (by k_asm) (by k_asm) (by k_asm) (by k_asm) (by first | exact rfl | assumption) (by first | decide | exact Nat.le_of_ble_eq_true rfl) (by first | decide | exact Nat.le_of_ble_eq_true rfl) (by assumption) (by assumption) (by omega) ?_; k_whole); intro D9 x9 y9 tx9 ty9 h9 tk9 F9 N9 lt9 hx9 hy9; (have mk9 := stackMark D9); (try k_lt lt9); (try k_sweep); (try k_fold))
  trivial
theorem bnd_app {ns : List Int} {r v len : Int} (hm : ∀ k ∈ ns, k ∈ [0, 1, 2, 9, -5, 2147483647]) (hr : r ∈ [v, v, v, 0, -1, len + 1, 99999]) (hv : 0 ≤ v ∧ v ≤ 100) (hl : 0 ≤ len ∧ len ≤ 100) : ∀ n ∈ ns ++ [r], -2147483648 ≤ n ∧ n ≤ 2147483647 := by
  intro n hn
  have a : ∀ {x : Int}, 0 ≤ x ∧ x ≤ 100 + 1 → -2147483648 ≤ x ∧ x ≤ 2147483647 := fun h => ⟨Int.le_trans (by decide) h.1, Int.le_trans h.2 (by decide)⟩
  rcases List.mem_append.mp hn with hn | hn
  · exact (by decide : ∀ k ∈ ([0, 1, 2, 9, -5, 2147483647] : List Int), -2147483648 ≤ k ∧ k ≤ 2147483647) n (hm n hn)
  · rw [List.mem_singleton.mp hn]
    have b := a ⟨hv.1, Int.le_trans hv.2 (by decide)⟩
    exact (List.forall_mem_cons.mpr ⟨b, List.forall_mem_cons.mpr ⟨b, List.forall_mem_cons.mpr ⟨b, List.forall_mem_cons.mpr ⟨by decide, List.forall_mem_cons.mpr ⟨by decide, List.forall_mem_cons.mpr ⟨a ⟨Int.add_nonneg hl.1 (by decide), Int.add_le_add_right hl.2 1⟩, List.forall_mem_singleton.mpr (by decide)⟩⟩⟩⟩⟩⟩ : ∀ n ∈ [v, v, v, 0, -1, len + 1, 99999], -2147483648 ≤ n ∧ n ≤ 2147483647) r hr
example : True := by
  k_with_none
  k_with "eval Dict" => (k_here; k_dflt ((refine' kdn_str ?_ ?_ ?_ ?_ ?_ ?_ ?_ ?_ ?_); (case refine'_5 => rfl); (case refine'_6 => k_asm); (case refine'_7 => k_asm); (case refine'_8 => exact Top.nolimit (by k_asm)); (case refine'_9 => rfl); (case refine'_10 => rfl); (case refine'_11 => exact List.cons_ne_nil _ _); (case refine'_12 => exact Nat.le_of_ble_eq_true rfl)); intro d' h' o' F' N' l1 lo' hd'; (try k_lt l1))
  k_with "enter" => (refine' code_def (by k_asm) (by k_asm) (by k_asm) (by k_asm) (by k_asm) (by exact rfl) (by exact rfl) (by assumption) (by k_is) (by k_is) (by k_room) (by first | exact BindsTo.of_eq rfl | exact binds_K (by k_in) rfl (by k_is) rfl rfl rfl | fail "k_enter: no rule for these arguments") (by exact locs rfl) ?_ (by exact rfl) (by exact rfl) (by exact rfl) (by decide); k_whole; intro g' L' h' FG' F' N' B' X' T'; (try dsimp only); (try k_lift B'); (try k_fold); (refine foldA ?_); intro A9; (refine foldV ?_); intro V9)
  k_with "room" => first | (refine' room_of (by assumption) (by ((try simp (config := { zetaDelta := true }) only [depth_under_make, depth_under_kw, depth_in1, depth_deeper, depth_caller]); (try dsimp (config := { zetaDelta := true }) only [ktrTop]); simp only [Nat.add_assoc, Nat.reduceAdd, Nat.add_le_add_iff_left, Nat.reduceLeDiff, Nat.le_add_right]))) | ktr_room
  k_with "units" => first | (refine' room_of (by assumption) (by ((try simp (config := { zetaDelta := true }) only [units_under_make, units_in1, units_deeper, Around.mark_units, units_caller]); (try dsimp (config := { zetaDelta := true }) only [ktrTop]); simp only [Nat.add_assoc, Nat.reduceAdd, Nat.add_le_add_iff_left, Nat.reduceLeDiff, Nat.le_add_right]))) | ktr_units
  k_with "pj0" => first | assumption | exact And.right (by k_extra "pj1")
  k_with "pj1" => first | assumption | exact And.right (by k_extra "pj2")
  k_with "pj2" => first | assumption | exact And.right (by k_extra "pj3")
  k_with "pj3" => first | assumption | exact And.right (by k_extra "pj4")
  k_with "pj4" => first | assumption | exact And.right (by k_extra "pj5")
  k_with "pj5" => first | assumption | exact And.right (by k_extra "pj6")
  k_with "pj6" => first | assumption | exact And.right (by k_extra "pj7")
  k_with "pj7" => first | assumption | exact And.right (by k_extra "pj8")
  k_with "pj8" => first | assumption | exact And.right (by k_extra "pj9")
  k_with "pj9" => first | assumption | exact And.right (by k_extra "pj10")
  k_with "pj10" => first | assumption | exact And.right (by k_extra "pj11")
  k_with "pj11" => first | assumption | exact And.right (by k_extra "pj12")
  k_with "pj12" => first | assumption | exact And.right (by k_extra "pj13")
  k_with "pj13" => first | assumption | exact And.right (by k_extra "pj14")
  k_with "pj14" => first | assumption | exact And.right (by k_extra "pj15")
  k_with "pj15" => first | assumption | exact And.right (by k_extra "pj16")
  k_with "pj16" => first | assumption | exact And.right (by k_extra "pj17")
  k_with "pj17" => first | assumption | exact And.right (by k_extra "pj18")
  k_with "pj18" => first | assumption | exact And.right (by k_extra "pj19")
  k_with "pj19" => first | assumption | exact And.right (by k_extra "pj20")
  k_with "pj20" => first | assumption | exact And.right (by k_extra "pj21")
  k_with "pj21" => first | assumption | exact And.right (by k_extra "pj22")
  k_with "pj22" => assumption
  k_with "ne9" => first | (refine Nat.ne_of_lt ?_; (first | assumption | exact And.left (by k_extra "pj0") | exact And.right (by k_extra "pj0"))) | (refine Nat.ne_of_gt ?_; (first | assumption | exact And.left (by k_extra "pj0") | exact And.right (by k_extra "pj0"))) | (first | assumption | exact And.left (by k_extra "pj0") | exact And.right (by k_extra "pj0")) | (refine Ne.symm ?_; (first | assumption | exact And.left (by k_extra "pj0") | exact And.right (by k_extra "pj0"))) | (refine pW ?_; (first | assumption | exact And.left (by k_extra "pj0") | exact And.right (by k_extra "pj0"))) | (refine pX ?_; (first | assumption | exact And.left (by k_extra "pj0") | exact And.right (by k_extra "pj0"))) | exact neT (by assumption) (by (first | assumption | exact And.left (by k_extra "pj0") | exact And.right (by k_extra "pj0")))
  k_with "ne" => (refine neN ?_; (try dsimp only); first | k_extra "ne9" | omega)
  k_with "omega" => first | with_reducible (first | (first | assumption | exact And.left (by k_extra "pj0") | exact And.right (by k_extra "pj0")) | exact oA (by assumption) | exact oB (by assumption) | exact oC (by assumption) | exact oD (by assumption) | exact oE (by assumption) (by assumption) | exact oF (by assumption) (by assumption) | exact oG (by assumption) (by assumption) | exact oH (by assumption) | exact oI (by assumption) | exact oJ (by assumption) | exact oK (by assumption) (by assumption) | exact oL (by assumption) (by assumption) | exact oM | exact oN (by assumption) | exact oO (by assumption) | exact idx1 (by assumption) (by assumption) | exact idx2 (by assumption) (by assumption) | exact oP (by assumption) (by assumption) | exact oQ | exact oR (by assumption) | exact oS (by assumption) | exact oT (by assumption) (by assumption) | exact oU (by assumption) (by assumption) | exact oV (by assumption) (by assumption) | exact oW (by assumption) | exact oX (by assumption) | exact oY (by assumption) | exact oZ (by assumption) (by assumption) | exact pA (by assumption) (by assumption) | exact pC (by assumption) | exact pB (by assumption) (by assumption) | exact pD (by assumption) | exact pE (by assumption) | exact pF (by assumption) | exact pG (by assumption) | exact pH (by assumption) | exact pI (by assumption) | exact pJ (by assumption) (by assumption) | exact pK (by assumption) | exact pL (by assumption) (by assumption) | exact pM | exact pN | exact pO (by assumption) | exact pP (by assumption) (by assumption) | exact pQ (by assumption) | exact pR (by assumption) | exact pS (by assumption) | exact pT (by assumption) | exact pU (by assumption) | exact pV (by assumption) | exact pY (by assumption) | exact oBad (by assumption) (by assumption) | exact oBad1 (by assumption) (by assumption) | exact qA (by assumption) | exact qB (by assumption) | exact qC (by assumption) | exact qD (by assumption) | exact qE (by assumption) | exact qF | exact qG (by assumption) (by assumption) | exact oT1 (by assumption) | exact oD1 (by assumption) | exact oD2 (by assumption)) | decide | ((first | (with_reducible show ¬ (_ = _)) | (with_reducible show @Ne Nat _ _)); k_extra "ne9")
  k_with "fold" => ((with_reducible show wpAny _ _ (eval _ _) _ _ _); (fail_if_success (with_reducible show wpAny _ _ (eval (PySem.Expr.Slice _ _ _ _) _) _ _ _)); (fail_if_success (fail_if_success k_fold)); refine foldQ ?_; intro Q9)
  k_with "fold" => ((with_reducible show wpAny _ _ (execs _ _) _ _ (Shared.mk _ _ _ (_ + _) _)); refine tokfold ?_; intro tk9)
  k_with "call ref" => (k_here; (with_reducible show wpAny _ _ (call (Value.ref 291) _) _ _ _); k_dflt (refine' right_ok (by k_asm) (by k_asm) (by k_asm) (by k_asm) (by k_asm) (by first | assumption | k_asm) (by first | assumption | k_asm) (by first | exact rfl | assumption) (by first | decide | exact Nat.le_of_ble_eq_true rfl) (by first | decide | exact Nat.le_of_ble_eq_true rfl) (by k_mem) (by first | assumption | exact IntsAre.nil | exact IntsAre.cons _ _ (IntsAre.cons _ _ (IntsAre.cons _ _ (IntsAre.cons _ _ IntsAre.nil)))) (by first | decide | assumption | omega | (simp only [List.length_append, List.length_cons, List.length_nil]; omega)) (by first | decide | assumption | exact bnd_app (by assumption) (by assumption) (by omega) (by omega)) ?_; k_whole); intro h9 tk9 F9 N9; (try k_sweep); (try k_fold))
  k_with "call ref" => (k_here; (with_reducible show wpAny _ _ (call (Value.ref 270) _) _ _ _); k_dflt (refine' pool_ok (by k_asm) (by k_asm) (by k_asm) (by k_asm) (by k_asm) (by first | exact rfl | assumption) (by first | decide | exact Nat.le_of_ble_eq_true rfl) (by first | decide | exact Nat.le_of_ble_eq_true rfl) (by assumption) (by assumption) (by omega) ?_; k_whole); intro D9 x9 y9 tx9 ty9 h9 tk9 F9 N9 lt9 hx9 hy9; (have mk9 := stackMark D9); (try k_lt lt9); (try k_sweep); (try k_fold))
  k_with "exec For" => (k_here; (rename Fr _ _ _ _ => lF'); (with_unfolding_all refine' For_invVF lF' (by exact rfl) (by exact rfl) ?_; k_whole))
  k_with "pyIter ref" => (refine of_stop ?_)
  trivial
def StopHere (p : Prop) : Prop := p
theorem of_stop {p : Prop} (h : StopHere p) : p := h
theorem stop_go {p : Prop} (h : p) : StopHere p := h
example : True := by
  k_with_none
  k_with "eval Dict" => (k_here; k_dflt ((refine' kdn_str ?_ ?_ ?_ ?_ ?_ ?_ ?_ ?_ ?_); (case refine'_5 => rfl); (case refine'_6 => k_asm); (case refine'_7 => k_asm); (case refine'_8 => exact Top.nolimit (by k_asm)); (case refine'_9 => rfl); (case refine'_10 => rfl); (case refine'_11 => exact List.cons_ne_nil _ _); (case refine'_12 => exact Nat.le_of_ble_eq_true rfl)); intro d' h' o' F' N' l1 lo' hd'; (try k_lt l1))
  k_with "enter" => (refine' code_def (by k_asm) (by k_asm) (by k_asm) (by k_asm) (by k_asm) (by exact rfl) (by exact rfl) (by assumption) (by k_is) (by k_is) (by k_room) (by first | exact BindsTo.of_eq rfl | exact binds_K (by k_in) rfl (by k_is) rfl rfl rfl | fail "k_enter: no rule for these arguments") (by exact locs rfl) ?_ (by exact rfl) (by exact rfl) (by exact rfl) (by decide); k_whole; intro g' L' h' FG' F' N' B' X' T'; (try dsimp only); (try k_lift B'); (try k_fold); (refine foldA ?_); intro A9; (refine foldV ?_); intro V9)
  k_with "room" => first | (refine' room_of (by assumption) (by ((try simp (config := { zetaDelta := true }) only [depth_under_make, depth_under_kw, depth_in1, depth_deeper, depth_caller]); (try dsimp (config := { zetaDelta := true }) only [ktrTop]); simp only [Nat.add_assoc, Nat.reduceAdd, Nat.add_le_add_iff_left, Nat.reduceLeDiff, Nat.le_add_right]))) | ktr_room
  k_with "units" => first | (refine' room_of (by assumption) (by ((try simp (config := { zetaDelta := true }) only [units_under_make, units_in1, units_deeper, Around.mark_units, units_caller]); (try dsimp (config := { zetaDelta := true }) only [ktrTop]); simp only [Nat.add_assoc, Nat.reduceAdd, Nat.add_le_add_iff_left, Nat.reduceLeDiff, Nat.le_add_right]))) | ktr_units
  k_with "pj0" => first | assumption | exact And.right (by k_extra "pj1")
  k_with "pj1" => first | assumption | exact And.right (by k_extra "pj2")
  k_with "pj2" => first | assumption | exact And.right (by k_extra "pj3")
  k_with "pj3" => first | assumption | exact And.right (by k_extra "pj4")
  k_with "pj4" => first | assumption | exact And.right (by k_extra "pj5")
  k_with "pj5" => first | assumption | exact And.right (by k_extra "pj6")
  k_with "pj6" => first | assumption | exact And.right (by k_extra "pj7")
  k_with "pj7" => first | assumption | exact And.right (by k_extra "pj8")
  k_with "pj8" => first | assumption | exact And.right (by k_extra "pj9")
  k_with "pj9" => first | assumption | exact And.right (by k_extra "pj10")
  k_with "pj10" => first | assumption | exact And.right (by k_extra "pj11")
  k_with "pj11" => first | assumption | exact And.right (by k_extra "pj12")
  k_with "pj12" => first | assumption | exact And.right (by k_extra "pj13")
  k_with "pj13" => first | assumption | exact And.right (by k_extra "pj14")
  k_with "pj14" => first | assumption | exact And.right (by k_extra "pj15")
  k_with "pj15" => first | assumption | exact And.right (by k_extra "pj16")
  k_with "pj16" => first | assumption | exact And.right (by k_extra "pj17")
  k_with "pj17" => first | assumption | exact And.right (by k_extra "pj18")
  k_with "pj18" => first | assumption | exact And.right (by k_extra "pj19")
  k_with "pj19" => first | assumption | exact And.right (by k_extra "pj20")
  k_with "pj20" => first | assumption | exact And.right (by k_extra "pj21")
  k_with "pj21" => first | assumption | exact And.right (by k_extra "pj22")
  k_with "pj22" => assumption
  k_with "ne9" => first | (refine Nat.ne_of_lt ?_; (first | assumption | exact And.left (by k_extra "pj0") | exact And.right (by k_extra "pj0"))) | (refine Nat.ne_of_gt ?_; (first | assumption | exact And.left (by k_extra "pj0") | exact And.right (by k_extra "pj0"))) | (first | assumption | exact And.left (by k_extra "pj0") | exact And.right (by k_extra "pj0")) | (refine Ne.symm ?_; (first | assumption | exact And.left (by k_extra "pj0") | exact And.right (by k_extra "pj0"))) | (refine pW ?_; (first | assumption | exact And.left (by k_extra "pj0") | exact And.right (by k_extra "pj0"))) | (refine pX ?_; (first | assumption | exact And.left (by k_extra "pj0") | exact And.right (by k_extra "pj0"))) | exact neT (by assumption) (by (first | assumption | exact And.left (by k_extra "pj0") | exact And.right (by k_extra "pj0")))
  k_with "ne" => (refine neN ?_; (try dsimp only); first | k_extra "ne9" | omega)
  k_with "omega" => first | with_reducible (first | (first | assumption | exact And.left (by k_extra "pj0") | exact And.right (by k_extra "pj0")) | exact oA (by assumption) | exact oB (by assumption) | exact oC (by assumption) | exact oD (by assumption) | exact oE (by assumption) (by assumption) | exact oF (by assumption) (by assumption) | exact oG (by assumption) (by assumption) | exact oH (by assumption) | exact oI (by assumption) | exact oJ (by assumption) | exact oK (by assumption) (by assumption) | exact oL (by assumption) (by assumption) | exact oM | exact oN (by assumption) | exact oO (by assumption) | exact idx1 (by assumption) (by assumption) | exact idx2 (by assumption) (by assumption) | exact oP (by assumption) (by assumption) | exact oQ | exact oR (by assumption) | exact oS (by assumption) | exact oT (by assumption) (by assumption) | exact oU (by assumption) (by assumption) | exact oV (by assumption) (by assumption) | exact oW (by assumption) | exact oX (by assumption) | exact oY (by assumption) | exact oZ (by assumption) (by assumption) | exact pA (by assumption) (by assumption) | exact pC (by assumption) | exact pB (by assumption) (by assumption) | exact pD (by assumption) | exact pE (by assumption) | exact pF (by assumption) | exact pG (by assumption) | exact pH (by assumption) | exact pI (by assumption) | exact pJ (by assumption) (by assumption) | exact pK (by assumption) | exact pL (by assumption) (by assumption) | exact pM | exact pN | exact pO (by assumption) | exact pP (by assumption) (by assumption) | exact pQ (by assumption) | exact pR (by assumption) | exact pS (by assumption) | exact pT (by assumption) | exact pU (by assumption) | exact pV (by assumption) | exact pY (by assumption) | exact oBad (by assumption) (by assumption) | exact oBad1 (by assumption) (by assumption) | exact qA (by assumption) | exact qB (by assumption) | exact qC (by assumption) | exact qD (by assumption) | exact qE (by assumption) | exact qF | exact qG (by assumption) (by assumption) | exact oT1 (by assumption) | exact oD1 (by assumption) | exact oD2 (by assumption)) | decide | ((first | (with_reducible show ¬ (_ = _)) | (with_reducible show @Ne Nat _ _)); k_extra "ne9")
  k_with "fold" => ((with_reducible show wpAny _ _ (eval _ _) _ _ _); (fail_if_success (with_reducible show wpAny _ _ (eval (PySem.Expr.Slice _ _ _ _) _) _ _ _)); (fail_if_success (fail_if_success k_fold)); refine foldQ ?_; intro Q9)
  k_with "fold" => ((with_reducible show wpAny _ _ (execs _ _) _ _ (Shared.mk _ _ _ (_ + _) _)); refine tokfold ?_; intro tk9)
  k_with "call ref" => (k_here; (with_reducible show wpAny _ _ (call (Value.ref 291) _) _ _ _); k_dflt (refine' right_ok (by k_asm) (by k_asm) (by k_asm) (by k_asm) (by k_asm) (by first | assumption | k_asm) (by first | assumption | k_asm) (by first | exact rfl | assumption) (by first | decide | exact Nat.le_of_ble_eq_true rfl) (by first | decide | exact Nat.le_of_ble_eq_true rfl) (by k_mem) (by first | assumption | exact IntsAre.nil | exact IntsAre.cons _ _ (IntsAre.cons _ _ (IntsAre.cons _ _ (IntsAre.cons _ _ IntsAre.nil)))) (by first | decide | assumption | omega | (simp only [List.length_append, List.length_cons, List.length_nil]; omega)) (by first | decide | assumption | exact bnd_app (by assumption) (by assumption) (by omega) (by omega)) ?_; k_whole); intro h9 tk9 F9 N9; (try k_sweep); (try k_fold))
  k_with "call ref" => (k_here; (with_reducible show wpAny _ _ (call (Value.ref 270) _) _ _ _); k_dflt (refine' pool_ok (by k_asm) (by k_asm) (by k_asm) (by k_asm) (by k_asm) (by first | exact rfl | assumption) (by first | decide | exact Nat.le_of_ble_eq_true rfl) (by first | decide | exact Nat.le_of_ble_eq_true rfl) (by assumption) (by assumption) (by omega) ?_; k_whole); intro D9 x9 y9 tx9 ty9 h9 tk9 F9 N9 lt9 hx9 hy9; (have mk9 := stackMark D9); (try k_lt lt9); (try k_sweep); (try k_fold))
  k_with "exec For" => (k_here; (rename Fr _ _ _ _ => lF'); (with_unfolding_all refine' For_invVF lF' (by exact rfl) (by exact rfl) ?_; k_whole))
  k_with "pyIter ref" => (refine of_stop ?_)
  k_with "call ref" => (k_here; (with_reducible show wpAny _ _ (call (Value.ref 277) _) _ _ _); k_dflt (refine' take_use (by k_asm) (by k_asm) (by k_asm) (by k_asm) (by k_asm) (by first | exact rfl | assumption) (by k_extra "room") (by k_extra "units") (by k_updF) (by assumption) (by assumption) (by first | omega | (dsimp only; omega)) ?_; k_whole); intro x9 y9 r9 tx9 ty9 t9 c9 h9 tk9 F9 N9 hx9 hy9 hr9; (try dsimp only at N9); (try k_sweep); (try k_fold))
  k_with "updF" => assumption
  k_with "call ref" => (k_here; (with_reducible show wpAny _ _ (call (Value.ref 284) _) _ _ _); k_dflt (refine' one_use (by k_asm) (by k_asm) (by k_asm) (by k_asm) (by k_asm) (by first | exact rfl | assumption) (by first | decide | exact Nat.le_of_ble_eq_true rfl) (by first | decide | exact Nat.le_of_ble_eq_true rfl) (by k_mem) (by k_updF) (by first | assumption | exact IntsAre.cons _ _ (IntsAre.cons _ _ (IntsAre.cons _ _ (IntsAre.cons _ _ (IntsAre.cons _ _ (IntsAre.cons _ _ IntsAre.nil))))) | exact IntsAre.cons _ _ (IntsAre.cons _ _ (IntsAre.cons _ _ (IntsAre.cons _ _ (IntsAre.cons _ _ (IntsAre.cons _ _ (IntsAre.cons _ _ IntsAre.nil))))))) (by exact Nat.le_of_ble_eq_true rfl) (by exact Nat.le_of_ble_eq_true rfl) (by assumption) (by assumption) (by omega) ?_; k_whole); intro x9 y9 r9 tx9 ty9 t9 c9 h9 tk9 F9 N9 hx9 hy9 hr9; (try dsimp only at N9); (try k_sweep); (try k_fold))
  k_with "exec Assign cons ListComp" => (k_here; k_dflt (refine LCg.Assign_ListComp_U (F₀ := by k_asm) (by rfl) (by with_unfolding_all rfl) (by with_unfolding_all rfl) (by decide) (by rfl) (by decide) (by rfl) (by rfl) (by rfl) ?_))
  k_with "CompSrc" => (k_here; k_dflt (refine LCg.CompSrc.range (by rfl) (by k_asm) (by k_asm) (by assumption) (small_one (by omega) (by omega) (by omega) (by omega)) (rangeSize_nat _ _) ?_ ?_))
  trivial
theorem law_all : PySem.Challenge.rw_xm0720_01.Holds := hd (by
  w_strict (
    k_go0
    (all_goals try k_fold)
    have hMk := kstMark
    k_steps
    refine stop_go ?_
    rename StackMark _ => hM
    rename Fr _ _ _ _ => fS
    rename News _ _ _ _ => nS
    rename IsRange _ _ _ _ _ _ _ _ => rS
    dsimp only at nS fS rS ⊢
    have U := updF_in (o := listOf #[Value.int _ _, Value.int _ _] 0) hM nS (by k_updF)
    refine turns_loop (by rfl) rS (by decide) rfl U (by assumption) (by assumption) fS nS ?_ ?_
    · intro k tk1 x y tx ty c m1 h1 tk2 own hx hy hoff f1 n1 u1
      clear fS nS rS U
      try dsimp only at n1
      try dsimp only at u1
      try dsimp only at f1
      simp only [List.cons_append, List.nil_append, List.map_cons, List.map_nil] at n1 u1 hoff
      k_steps
      all_goals first | (show _ ≤ PySem.sizeLine; rw [PySem.sizeLine_eq]; omega) | skip
      refine draws_rest [0, 1, 2, 9, -5, 2147483647] (by k_updF) (by assumption) (by assumption) ?_ ?_
      · intro a b ta tb c ys I oI C oC D h9 tk9 E9 ha hb F9 N9 U9
        k_steps
        rename News _ _ _ _ => nE
        exact ⟨_, _, _, _, _, _, _, _, _, rfl, rfl, by assumption, kst_newsOf nE fun p hp => List.mem_cons_of_mem _ hp, by assumption, by assumption, by assumption⟩
      · intro a b ta tb c ys ns ha hb hys hl hm
        have hnl : ns.length < 8 := by omega
        k_steps
        rename News _ _ _ _ => nE
        exact ⟨_, _, _, _, _, _, _, _, rfl, rfl, by assumption, kst_newsOf nE (fun p hp => by repeat (first | exact hp | refine List.mem_cons_of_mem _ ?_)), by assumption, by assumption⟩
    · intro x y tx ty c m1 h1 tk1 f1 n1
      k_steps))
end
end
end Mine
theorem PySem.Challenge.cw_xm0720_01_holds : PySem.Challenge.rw_xm0720_01.Holds := by
  exact Mine.law_all
