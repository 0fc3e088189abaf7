import PyProof.Rows.All
import Wide.All
import OpenK.AllK
import Wide.FinOn
import Lean
import PySem.Challenge.RW_sj0100_01
set_option Elab.async false
set_option rowWalk.seconds 0
set_option compiler.extract_closed false
set_option linter.all false
section
open PySem PySem.W PyProof.Rows
namespace Mine
theorem lt_use {x D a : Nat} {q : Prop} (h : a < D ∧ q) (f : a < D ∧ q → x < D) : x < D := f h
theorem ne_use {x D a : Nat} {q : Prop} (h : a ≠ D ∧ q) (f : a ≠ D ∧ q → x ≠ D) : x ≠ D := f h
theorem two_use {x D a b : Nat} {q r : Prop} (h : (a ≠ b ∧ r) ∧ q) (f : (a ≠ b ∧ r) ∧ q → x ≠ D) : x ≠ D := f h
theorem and_tl {p q r : Prop} (f : q → r) (h : p ∧ q) : r := f h.2
theorem and_hd {p q r : Prop} (f : p → r) (h : p ∧ q) : r := f h.1
section
variable {dp a b c e d n : Nat}
theorem room0 (h : dp + d < n) : dp < n := Nat.lt_of_le_of_lt (Nat.le_add_right _ _) h
theorem room1 (h : dp + d < n) (q : a ≤ d) : dp + a < n := Nat.lt_of_le_of_lt (Nat.add_le_add_left q dp) h
theorem room2 (h : dp + d < n) (q : a + b ≤ d) : dp + a + b < n := by rw [Nat.add_assoc]; exact room1 h q
theorem room3 (h : dp + d < n) (q : a + b + c ≤ d) : dp + a + b + c < n := by rw [Nat.add_assoc, Nat.add_assoc, ← Nat.add_assoc a]; exact room1 h q
theorem room4 (h : dp + d < n) (q : a + b + c + e ≤ d) : dp + a + b + c + e < n := by rw [Nat.add_assoc, Nat.add_assoc, Nat.add_assoc, ← Nat.add_assoc b, ← Nat.add_assoc a, ← Nat.add_assoc a]; exact room1 h q
end
theorem ne_succ {x a : Nat} (h : x < a) : a + 1 ≠ x := Nat.ne_of_gt (Nat.lt_succ_of_lt h)
theorem both_of {P S Q R : Prop} (h : P ∧ S ∧ Q) (f : P → S → Q → R) : R := f h.1 h.2.1 h.2.2
def view0 : Program := { PySem.Challenge.pw_sj0100_01 with main := { PySem.Challenge.pw_sj0100_01.main with body := ([0, 2, 3, 4, 5, 6, 8, 9, 10, 11, 12, 13, 14, 15, 16, 17, 19, 20, 21, 22, 23, 24, 25, 26, 27, 28, 30, 31, 32, 33, 34, 35, 36, 37, 38, 39, 40, 41, 42, 43, 44, 45, 46, 47, 48, 49, 51, 52, 53, 54, 55, 56, 57, 58] : List Nat).filterMap fun i => PySem.Challenge.pw_sj0100_01.main.body[i]? } }
def loose0 : List PySem.Str := [Str.ofString "ROUND", Str.ofString "MOST_BITS", Str.ofString "SIMPLE"]
def lv0 : List (PySem.Str × WData) := [(Str.ofString "ROUND", WData.int 10000000000000000000000000000000000000000000000000000000000000000000000000000000000000000000000000000000000000000000000000000000000000000000000000000000000000000000000000000000000000000000000000000000000000000000000000000000000000000000000000000000000000000000000000000000000000000000000000000000000000000000000000000000000000000000000000000000000000000000000000000000000000000000000000000000000000000000000000000000000000000000000000000000000000000000000000000000000000000000000000000000000000000000000000000000000000000000000000000000000000000000000000000000000000000000000000000000000000000000000000000000000000000000000000000000000000000000000000000000000000000000000000000000000000000000000000000000000000000000000000000000000000000000000000000000000000000000000000000000000000000000000000000000000000000000000000000000000000000000000000000000000000000000000000000000000000000000000000000000000000000000000000000000000000000000000000000000000000000000000000000000000000000000000000000000000000000), (Str.ofString "MOST_BITS", WData.int 65536), (Str.ofString "SIMPLE", WData.str { cps := #[97, 98, 99, 100, 101, 102, 103, 104, 105, 106, 107, 108, 109, 110, 111, 112, 113, 114, 115, 116, 117, 118, 119, 120, 121, 122, 65, 66, 67, 68, 69, 70, 71, 72, 73, 74, 75, 76, 77, 78, 79, 80, 81, 82, 83, 84, 85, 86, 87, 88, 89, 90, 48, 49, 50, 51, 52, 53, 54, 55, 56, 57, 126, 33, 64, 36, 37, 94, 38, 42, 95, 45, 43, 61, 60, 62, 46, 63, 47] })]
local macro_rules | `(tactic| o_head $H) => `(tactic| (refine both_of ?hb (fun hl9 hs9 hc9 => holds_open (r := PySem.Challenge.rw_sj0100_01.row) (q := Mine.view0) (loose := Mine.loose0) (Xt := fun s => xlAt Mine.view0 Mine.lv0 s && recOk (RowW.records PySem.Challenge.rw_sj0100_01.row.toRowW) s) (XP := XL Mine.view0 Mine.lv0) (Yf := Hook.obs $H) (Ya := Hook.val $H) (YP := Hook.says $H) (N := 11358) hl9 (Hook.of $H) (Hook.keeps $H) (fun s e => xl_of s (Bool.and_eq_true_iff.mp e).1) XL.keeps (by rfl) (by rfl) (by rfl) (fun s e => recFacts_of (Bool.and_eq_true_iff.mp e).2) (by rfl) hs9 (by decide +kernel) ⟨rfl, rfl, rfl, rfl, rfl, by decide +kernel⟩ ?hw hc9)))
set_option maxRecDepth 100000 in
set_option maxHeartbeats 8000000 in
open_top hd for PySem.Challenge.rw_sj0100_01.row

end Mine
end
local macro_rules | `(tactic| k_room) => `(tactic| ktr_room)
local macro_rules | `(tactic| k_units) => `(tactic| ktr_units)
local macro_rules | `(tactic| ktr_room) => `(tactic| first | exact Mine.room2 (by assumption) (by decide) | exact Mine.room1 (by assumption) (by decide) | exact Mine.room0 (by assumption) | exact Mine.room3 (by assumption) (by decide) | exact Mine.room4 (by assumption) (by decide))
local macro_rules | `(tactic| ktr_units) => `(tactic| ktr_room)
local macro_rules | `(tactic| fenf_go) => `(tactic| first | exact And.left | exact id | (refine Mine.and_tl ?_; fenf_go))
local macro_rules | `(tactic| fenf_has) => `(tactic| first | (refine Mine.and_hd ?_; fenf_go) | (refine Mine.and_tl ?_; fenf_has) | fenf_go)
local macro_rules | `(tactic| cell_ties) => `(tactic| with_reducible first | assumption | (refine Mine.lt_use (by assumption) ?_; fenf_go))
local macro_rules | `(tactic| fold_ind_close) => `(tactic| with_reducible first | assumption | (refine Mine.ne_use (by assumption) ?_; fenf_go) | (refine Mine.two_use (by assumption) ?_; fenf_has))
local macro_rules | `(tactic| k_ne) => `(tactic| (refine PySem.W.neN ?_; (try dsimp only); first | (refine Nat.ne_of_lt ?_; cell_ties) | (refine Nat.ne_of_gt ?_; cell_ties) | fold_ind_close | (refine Ne.symm ?_; fold_ind_close) | (refine Mine.ne_succ ?_; cell_ties) | (refine Ne.symm (Mine.ne_succ ?_); cell_ties) | omega))
local macro_rules | `(tactic| walk_at "execs cons") => `(tactic| first | (k_here; k_gentoks) | ((with_reducible refine PySem.wpAny_execs_cons ?_); (try dsimp only); (try k_fold)))
local macro_rules | `(tactic| walk_at $s:str) => `(tactic| k_extra $s)
section
open PySem PySem.W PyProof.Rows PySem.NumText
namespace Mine
def T (l : List Nat) : PySem.Str := ⟨l.toArray⟩
theorem T_list (l : List Nat) : (T l).cps.toList = l := by simp [T]
theorem T_len (l : List Nat) : (T l).length = l.length := by simp [T, PySem.Str.length]
theorem T_app (a b : List Nat) : T a ++ T b = T (a ++ b) := PySem.Str.ext' (by rw [PySem.Str.cps_append]; simp [T])
theorem T_inj {a b : List Nat} (h : T a = T b) : a = b := by rw [← T_list a, ← T_list b, h]
theorem T_eta (x : PySem.Str) : T x.cps.toList = x := PySem.Str.ext' (by simp [T])
def dg (m : Nat) : List Nat := (Nat.toDigits 10 m).map Char.toNat
theorem D_nat (m : Nat) : PySem.Str.ofString (toString (m : Int)) = T (dg m) := text_ofNat m
theorem dchar (d : Nat) (h : d < 10) : (Nat.digitChar d).toNat = 48 + d := by
  have : ∀ d, d < 10 → (Nat.digitChar d).toNat = 48 + d := by decide
  exact this d h
theorem dg_lt {m : Nat} (h : m < 10) : dg m = [48 + m] := by
  unfold dg
  rw [Nat.toDigits_of_lt_base h]
  simp [dchar m h]
theorem dg_step {m : Nat} (h : 10 ≤ m) : dg m = dg (m / 10) ++ [48 + m % 10] := by
  have hm : m % 10 < 10 := Nat.mod_lt m (by decide)
  have t : Nat.toDigits 10 (m / 10) ++ Nat.toDigits 10 (m % 10) = Nat.toDigits 10 (10 * (m / 10) + m % 10) := Nat.toDigits_append_toDigits (by decide) (by omega) hm
  rw [Nat.div_add_mod] at t
  show (Nat.toDigits 10 m).map Char.toNat = _
  rw [← t, List.map_append]
  congr 1
  exact dg_lt hm
theorem dg_digits (m : Nat) : AllDigits (dg m) := by
  induction m using Nat.strongRecOn with
  | _ m ih =>
    by_cases h : m < 10
    · rw [dg_lt h]
      intro c hc
      have := List.mem_singleton.mp hc
      omega
    · rw [dg_step (by omega)]
      intro c hc
      rcases List.mem_append.mp hc with hc | hc
      · exact ih (m / 10) (by omega) c hc
      · have := List.mem_singleton.mp hc
        omega
theorem dg_ne (m : Nat) : dg m ≠ [] := by
  by_cases h : m < 10
  · rw [dg_lt h]; exact List.cons_ne_nil _ _
  · rw [dg_step (by omega)]; simp
theorem dg_pos (m : Nat) : 1 ≤ (dg m).length := by
  have := dg_ne m
  cases h : dg m with
  | nil => exact absurd h this
  | cons a r => simp
theorem dg_val (m : Nat) : digitsVal (dg m) = m := KIN.val_back m
theorem dg_head (m : Nat) (h : (dg m).head? = some 48) : m = 0 := by
  induction m using Nat.strongRecOn with
  | _ m ih =>
    by_cases hm : m < 10
    · rw [dg_lt hm] at h
      simp at h
      exact h
    · rw [dg_step (by omega)] at h
      have hne := dg_ne (m / 10)
      have h' : (dg (m / 10)).head? = some 48 := by
        cases hq : dg (m / 10) with
        | nil => exact absurd hq hne
        | cons a r => rw [hq] at h; simpa using h
      have := ih (m / 10) (by omega) h'
      omega
theorem dg_len_le {k m : Nat} (hk : 1 ≤ k) (h : m < 10 ^ k) : (dg m).length ≤ k := by
  unfold dg
  rw [List.length_map]
  exact digits10_le hk h
theorem dg_len_ge {k m : Nat} (h : 10 ^ k ≤ m) : k + 1 ≤ (dg m).length := by
  unfold dg
  rw [List.length_map]
  exact digits10_ge h
def pad (k r : Nat) : List Nat := List.replicate (k - (dg r).length) 48 ++ dg r
theorem pad_step {k r : Nat} (hk : 1 ≤ k) : pad (k + 1) r = pad k (r / 10) ++ [48 + r % 10] := by
  unfold pad
  by_cases h : r < 10
  · have e : r / 10 = 0 := by omega
    have e2 : r % 10 = r := by omega
    rw [e, e2, dg_lt h, dg_lt (show 0 < 10 by decide)]
    simp only [List.length_cons, List.length_nil]
    have : k + 1 - 1 = (k - 1) + 1 := by omega
    rw [show k + 1 - (0 + 1) = (k - (0 + 1)) + 1 by omega, List.replicate_succ']
  · rw [dg_step (show 10 ≤ r by omega)]
    simp only [List.length_append, List.length_cons, List.length_nil]
    rw [show k + 1 - ((dg (r / 10)).length + (0 + 1)) = k - (dg (r / 10)).length by omega, List.append_assoc]
theorem dg_block : ∀ {k q r : Nat}, 1 ≤ k → 0 < q → r < 10 ^ k → dg (q * 10 ^ k + r) = dg q ++ pad k r
  | 0, _, _, hk, _, _ => absurd hk (by decide)
  | 1, q, r, _, hq, hr => by
    have hr' : r < 10 := by simpa using hr
    rw [Nat.pow_one, dg_step (by omega)]
    have e1 : (q * 10 + r) / 10 = q := by omega
    have e2 : (q * 10 + r) % 10 = r := by omega
    rw [e1, e2]
    unfold pad
    rw [dg_lt hr']
    rfl
  | k + 2, q, r, _, hq, hr => by
    have hp : 10 ^ (k + 2) = 10 ^ (k + 1) * 10 := Nat.pow_succ 10 (k + 1)
    rw [hp] at hr ⊢
    generalize hP : 10 ^ (k + 1) = P at hr ⊢
    have hP1 : 1 ≤ P := hP ▸ Nat.pow_pos (by decide)
    have e0 : q * (P * 10) = 10 * (q * P) := by rw [Nat.mul_comm P 10, ← Nat.mul_assoc, Nat.mul_comm q 10, Nat.mul_assoc]
    have hqP : 1 ≤ q * P := Nat.mul_pos hq hP1
    rw [e0, dg_step (by omega)]
    have e1 : (10 * (q * P) + r) / 10 = q * P + r / 10 := by omega
    have e2 : (10 * (q * P) + r) % 10 = r % 10 := by omega
    have hr2 : r / 10 < 10 ^ (k + 1) := by rw [hP]; omega
    rw [e1, e2, ← hP, dg_block (k := k + 1) (by omega) hq hr2, pad_step (k := k + 1) (r := r) (by omega), List.append_assoc]
theorem pad_len {k r : Nat} (hk : 1 ≤ k) (hr : r < 10 ^ k) : (pad k r).length = k := by
  have := dg_len_le hk hr
  unfold pad
  rw [List.length_append, List.length_replicate]
  omega
theorem foldl_val (cs : List Nat) : ∀ a : Nat, cs.foldl (fun acc c => acc * 10 + (c - 48)) a = a * 10 ^ cs.length + digitsVal cs := by
  unfold digitsVal
  induction cs with
  | nil => intro a; simp
  | cons c r ih =>
    intro a
    rw [List.foldl_cons, ih, List.foldl_cons, ih (0 * 10 + (c - 48)), List.length_cons, Nat.pow_succ, Nat.zero_mul, Nat.zero_add, Nat.add_mul, Nat.add_assoc, Nat.mul_assoc, Nat.mul_comm 10]
theorem val_app (a b : List Nat) : digitsVal (a ++ b) = digitsVal a * 10 ^ b.length + digitsVal b := by
  show (a ++ b).foldl _ 0 = _
  rw [List.foldl_append]
  exact foldl_val b _
/-- the counts of the ten signs sum to the length -/
theorem cnt_sum : ∀ l : List Nat, AllDigits l → cnt 48 l + (cnt 49 l + (cnt 50 l + (cnt 51 l + (cnt 52 l + (cnt 53 l + (cnt 54 l + (cnt 55 l + (cnt 56 l + cnt 57 l)))))))) = (l.length : Int)
  | [], _ => rfl
  | c :: r, h => by
    have ih := cnt_sum r h.tail
    have hc := h.head
    simp only [cnt_cons, List.length_cons]
    have hs : (if c = 48 then (1 : Int) else 0) + (if c = 49 then (1 : Int) else 0) + (if c = 50 then (1 : Int) else 0) + (if c = 51 then (1 : Int) else 0) + (if c = 52 then (1 : Int) else 0) + (if c = 53 then (1 : Int) else 0) + (if c = 54 then (1 : Int) else 0) + (if c = 55 then (1 : Int) else 0) + (if c = 56 then (1 : Int) else 0) + (if c = 57 then (1 : Int) else 0) = 1 := by
      obtain ⟨k, hk, rfl⟩ : ∃ k, k < 10 ∧ c = 48 + k := ⟨c - 48, by omega, by omega⟩
      clear hc h ih
      revert k
      decide
    generalize (if c = 48 then (1 : Int) else 0) = e48 at hs ⊢
    generalize (if c = 49 then (1 : Int) else 0) = e49 at hs ⊢
    generalize (if c = 50 then (1 : Int) else 0) = e50 at hs ⊢
    generalize (if c = 51 then (1 : Int) else 0) = e51 at hs ⊢
    generalize (if c = 52 then (1 : Int) else 0) = e52 at hs ⊢
    generalize (if c = 53 then (1 : Int) else 0) = e53 at hs ⊢
    generalize (if c = 54 then (1 : Int) else 0) = e54 at hs ⊢
    generalize (if c = 55 then (1 : Int) else 0) = e55 at hs ⊢
    generalize (if c = 56 then (1 : Int) else 0) = e56 at hs ⊢
    generalize (if c = 57 then (1 : Int) else 0) = e57 at hs ⊢
    omega
theorem count_cnt (l : List Nat) (c : Nat) : Txt.count (T l) ⟨#[c]⟩ = cnt c l := by rw [count_is, T_list]; rfl
end Mine
end
section
open PySem PySem.W PyProof.Rows PySem.Spec PySem.Calls PySem.NumText
set_option maxRecDepth 100000
namespace Mine
theorem pow1000_le : (10 : Nat) ^ 1000 ≤ 10 ^ 4300 := by decide +kernel
def clipI (v : Option Int) (d : Int) (n : Nat) : Int := match v with
  | none => d
  | some i => max 0 (min (if i < 0 then i + n else i) n)
theorem clip_nat {b n : Nat} {d : Int} (h : b ≤ n) : clipI (some (b : Int)) d n = (b : Int) := by
  show max 0 (min (if (b : Int) < 0 then (b : Int) + n else (b : Int)) n) = b
  rw [if_neg (Int.not_lt.mpr (Int.natCast_nonneg b)), Int.min_eq_left (Int.ofNat_le.mpr h), Int.max_eq_right (Int.natCast_nonneg b)]
theorem clip_top {b n : Nat} {d : Int} (h : n ≤ b) : clipI (some (b : Int)) d n = (n : Int) := by
  show max 0 (min (if (b : Int) < 0 then (b : Int) + n else (b : Int)) n) = n
  rw [if_neg (Int.not_lt.mpr (Int.natCast_nonneg b)), Int.min_eq_right (Int.ofNat_le.mpr h), Int.max_eq_right (Int.natCast_nonneg n)]
theorem clip_add {b z n : Nat} {d : Int} : clipI (some ((b : Int) + (z : Int))) d n = ((min (b + z) n : Nat) : Int) := by
  rw [← Int.natCast_add]
  rcases Nat.le_total (b + z) n with h | h
  · rw [Nat.min_eq_left h]; exact clip_nat h
  · rw [Nat.min_eq_right h]; exact clip_top h
theorem slice_TT {l : List Nat} {lo hi : Option Int} {a b : Nat} (ha : clipI lo 0 l.length = a) (hb : clipI hi l.length l.length = b) (hab : a ≤ b) (hbl : b ≤ l.length) :
    Txt.slice (Mine.T l) lo hi = Mine.T ((l.drop a).take (b - a)) := by
  have e : Builtin.Str.strSliceIndices lo hi 1 (Mine.T l).length = Builtin.Str.strSliceIndices (some (a : Int)) (some (b : Int)) 1 (Mine.T l).length := by
    have c1 : clipI (some (a : Int)) 0 l.length = a := clip_nat (Nat.le_trans hab hbl)
    have c2 : clipI (some (b : Int)) l.length l.length = b := clip_nat hbl
    have d : ∀ v w : Option Int, Builtin.Str.strSliceIndices v w 1 (Mine.T l).length = sliceRange (clipI v 0 l.length) (clipI w l.length l.length) 1 := by
      intro v w
      rw [T_len]
      unfold Builtin.Str.strSliceIndices clipI
      cases v <;> cases w <;> simp
    rw [d, d, ha, hb, c1, c2]
  have e2 : Txt.slice (Mine.T l) lo hi = Txt.slice (Mine.T l) (some (a : Int)) (some (b : Int)) := by
    unfold Txt.slice
    rw [e]
  rw [e2]
  have := StrLaws.sliceText_nat (Mine.T l) hab (by rw [T_len]; exact hbl)
  rw [T_list] at this
  exact this
theorem bits10 {x k : Nat} (h : x < 10 ^ k) : Builtin.Int.intBits (x : Int) ≤ 4 * k + 1 := by
  unfold Builtin.Int.intBits
  split
  · omega
  · rename_i hx
    have hx0 : x ≠ 0 := by
      rintro rfl
      exact hx (by decide)
    rw [Int.natAbs_natCast]
    have h2 : x < 2 ^ (4 * k) := by
      refine Nat.lt_of_lt_of_le h ?_
      rw [Nat.pow_mul]
      exact Nat.pow_le_pow_left (by decide) k
    have := (Nat.log2_lt hx0).mpr h2
    omega
theorem val_lt : ∀ {l : List Nat}, AllDigits l → digitsVal l < 10 ^ l.length := by
  intro l
  induction l with
  | nil => intro _; decide
  | cons c r ih =>
    intro h
    have e := val_app [c] r
    rw [List.singleton_append] at e
    have e1 : digitsVal [c] = c - 48 := by simp [digitsVal]
    rw [e, e1, List.length_cons, Nat.pow_succ]
    have hc := h.head
    have hr := ih h.tail
    have h9 : (c - 48) * 10 ^ r.length ≤ 9 * 10 ^ r.length := Nat.mul_le_mul_right _ (by omega)
    omega
section
variable {prog : Program} {w : World} {A : Around} {E : Value → Shared → Prop} {s : Shared} {h₀ : Heap} {L : Addr} {m : Str → Option Value} {Q : Value → Shared → Prop} {t u : Tok}
  {p : Program} {loose : List Str} {mean : ExcName → Option Value} {mg mb : Str → Option Value}
theorem str_nat {n : Nat} {i : Int} (e : i = n) (hn : n < 10 ^ 1000) (hh : A.handled = none) (T : Top p loose mean mg mb h₀) (F : Fr h₀ L s.heap m)
    (h : ∀ t', Q (.str (Mine.T (dg n)) t') { s with toks := s.toks + 1 }) : wpAny (model prog w) A (call (.type "str") [.int i t]) Q E s := by
  subst e
  have hlt : n < 10 ^ 4300 := Nat.lt_of_lt_of_le hn pow1000_le
  refine str_of_int_or hh (Heap.NoDigits.keeps T.nodigits F.keep) (fun _ => ?_) (fun hge => ?_)
  · have := h s.toks
    rw [← D_nat n] at this
    exact this
  · rw [Int.natAbs_natCast] at hge
    exact absurd hlt (Nat.not_lt.mpr hge)
theorem len_T {l : List Nat} (hl : l.length ≤ 1000000) (h : ∀ t' k, Q (.int (l.length : Int) t') { s with toks := k }) : wpAny (model prog w) A (call (.builtin "len") [.str (Mine.T l) t]) Q E s := by
  refine P.len_str ?_ ?_
  · rw [T_len]; omega
  · rw [T_len]; exact h _ _
theorem add_T {a b : List Nat} (hl : a.length + b.length ≤ 1000000) (h : ∀ t' k, Q (.str (Mine.T (a ++ b)) t') { s with toks := k }) : wpAny (model prog w) A (binaryOp .Add (.str (Mine.T a) t) (.str (Mine.T b) u)) Q E s := by
  refine add_str (fun t' k => ?_) ?_
  · rw [T_app]; exact h t' k
  · rw [T_len, T_len, sizeLine_eq]; omega
theorem mul_T {c : Nat} {i : Int} {n : Nat} (e : i = n) (hn : n ≤ 1000000) (h : ∀ t' k, Q (.str (Mine.T (List.replicate n c)) t') { s with toks := k }) : wpAny (model prog w) A (binaryOp .Mult (.str (Mine.T [c]) t) (.int i u)) Q E s := by
  subst e
  refine SB.mul (mulOk_of 1 1000000 (by rw [T_len]; exact Nat.le_refl _) (by omega) (by omega) (by decide) (by decide)) fun t' k => ?_
  have e2 : Txt.mul (Mine.T [c]) (n : Int) = Mine.T (List.replicate n c) := by
    unfold Txt.mul
    have hx : (Mine.T [c]).length = 1 := T_len _
    by_cases h1 : n = 0
    · subst h1
      rfl
    · rw [if_neg (by omega)]
      by_cases h2 : n = 1
      · subst h2
        rfl
      · rw [hx]
        have e3 : ((n : Int) == 1 || (1 : Nat) == 0) = false := by
          simp
          omega
        rw [e3]
        simp only [Bool.false_eq_true, if_false, Int.toNat_natCast]
        refine PySem.Str.ext' ?_
        show (List.replicate n (Mine.T [c]).cps).foldl (· ++ ·) #[] = _
        have gen : ∀ (k : Nat) (acc : Array Nat), (List.replicate k (Mine.T [c]).cps).foldl (· ++ ·) acc = acc ++ (List.replicate k c).toArray := by
          intro k
          induction k with
          | zero => intro acc; simp
          | succ k ih =>
            intro acc
            rw [List.replicate_succ, List.foldl_cons, ih, List.replicate_succ]
            apply Array.ext'
            simp [Mine.T]
        rw [gen]
        simp [Mine.T]
  rw [e2]
  exact h t' k
theorem mul_X {x : PySem.Str} {c : Nat} {i : Int} {n : Nat} (hx : x = Mine.T [c]) (e : i = n) (hn : n ≤ 1000000) (h : ∀ t' k, Q (.str (Mine.T (List.replicate n c)) t') { s with toks := k }) : wpAny (model prog w) A (binaryOp .Mult (.str x t) (.int i u)) Q E s := by
  subst hx
  exact mul_T e hn h
theorem slice_ss {value slice : PySem.Expr} {news : List (Addr × Obj)} {l : List Nat} {i j : Int} {ui uj : Tok} {a b : Nat} (hF : Fr h₀ L s.heap m) (hN : News h₀ L s.heap news) (hl : l.length ≤ 1000000) (ha : clipI (some i) 0 l.length = a) (hb : clipI (some j) l.length l.length = b) (hab : a ≤ b) (hbl : b ≤ l.length)
    (h : ∀ h' t' k, Fr h₀ L h' m → News h₀ L h' news → Q (.str (Mine.T ((l.drop a).take (b - a))) t') { s with heap := h', toks := k })
    (hs : subscripted slice false (.str (Mine.T l) t) (.ref s.heap.objs.size) = operate [.ref s.heap.objs.size, .str (Mine.T l) t] (getItem (.str (Mine.T l) t) (.ref s.heap.objs.size)) := by with_unfolding_all rfl)
    (ht : ∀ r, letTemporaryGo value (.str (Mine.T l) t) r = pure () := by intro _; with_unfolding_all rfl) :
    wpAny (model prog w) A (subscriptTail value slice (.str (Mine.T l) t) (.ref s.heap.objs.size)) Q E { s with heap := s.heap.push { cls := .type "slice", data := .fields #[.int i ui, .int j uj, .none] } } :=
  slice_strN_ss hF hN (fun h' t' k F' N' => by rw [slice_TT ha hb hab hbl]; exact h h' t' k F' N') hs ht (by rw [T_len, sizeLine_eq]; omega)
theorem int_T {l : List Nat} (hd : AllDigits l) (hne : l ≠ []) (hl : l.length ≤ 640) (h : Q (.int ((digitsVal l : Nat) : Int) s.toks) { s with toks := s.toks + 1 }) : wpAny (model prog w) A (call (.type "int") [.str (Mine.T l) t]) Q E s :=
  KIN.call_text (by rw [intText_digits (by rw [T_list]; exact hd) (by rw [T_list]; exact hne) (by rw [T_len]; omega), T_list]) (by rw [T_len]; exact hl) h
theorem pow_N {k : Nat} (hk : k ≤ 1000000) (h : Q (.int ((10 ^ k : Nat) : Int) s.toks) { s with toks := s.toks + 1 }) : wpAny (model prog w) A (binaryOp .Pow (.int 10 t) (.int (k : Int) u)) Q E s := by
  refine pow_int_small (by omega) (by omega) (by decide) ?_
  rw [Int.toNat_natCast]
  have e : (10 : Int) ^ k = ((10 ^ k : Nat) : Int) := by rw [Int.natCast_pow]; rfl
  rw [e]
  exact h
theorem mul_N {a b : Nat} (i j : Nat) (ha : a < 10 ^ i) (hb : b < 10 ^ j) (hij : i + j ≤ 10000000) (h : Q (.int ((a * b : Nat) : Int) s.toks) { s with toks := s.toks + 1 }) : wpAny (model prog w) A (binaryOp .Mult (.int (a : Int) t) (.int (b : Int) u)) Q E s := by
  refine PyProof.Rows.mul_int ?_ (mulOk_of_bits (bits10 ha) (bits10 hb) (by omega))
  rw [← Int.natCast_mul]
  exact h
theorem join_flat : ∀ ys : List PySem.Str, PySem.Str.join (Str.ofString "") ys = Mine.T ((ys.map (·.cps.toList)).flatten)
  | [] => rfl
  | [a] => by
    show a = _
    simp [T_eta]
  | a :: b :: r => by
    show a ++ Str.ofString "" ++ PySem.Str.join (Str.ofString "") (b :: r) = _
    rw [join_flat (b :: r), show Str.ofString "" = Str.empty from by decide +kernel, PySem.Str.append_empty]
    conv => lhs; rw [← T_eta a]
    rw [T_app]
    rfl
theorem join_T {D : Addr} {vs : List Value} {ys : List PySem.Str} (hl : s.heap.IsList D vs.toArray) (hi : StrsAre vs ys) (hok : ((ys.map (·.cps.toList)).flatten).length ≤ 1000000) (hn : ys.length ≤ 1000000)
    (h : ∀ t' k, Q (.str (Mine.T ((ys.map (·.cps.toList)).flatten)) t') { s with toks := k }) : wpAny (model prog w) A (call (.builtin "str.join") [.str (Str.ofString "") t, .ref D]) Q E s := by
  have e0 : (Str.ofString "").length = 0 := by decide +kernel
  have e1 : (ys.map (·.length)).sum = ((ys.map (·.cps.toList)).flatten).length := by
    rw [List.length_flatten, List.map_map]
    rfl
  refine join_list hl (by simpa using hi) (by rw [e0, e1]; omega) fun t' k => ?_
  have e2 : Txt.join (Str.ofString "") ys = Mine.T ((ys.map (·.cps.toList)).flatten) := by
    show (Builtin.Str.glued _ ys) = _
    rw [StrLaws.glued_eq_join]
    exact join_flat ys
  rw [e2]
  exact h t' k
end
end Mine
end
section
open PySem PySem.W PyProof.Rows PySem.Spec PySem.Calls PySem.NumText
set_option maxRecDepth 100000
namespace Mine
section
variable {prog : Program} {w : World} {A : Around} {E : Value → Shared → Prop} {s : Shared} {h₀ : Heap} {L : Addr} {m : Str → Option Value} {env : Env}
def TestEnd (h₀ : Heap) (L : Addr) (m : Str → Option Value) (news : List (Addr × Obj)) (s : Shared) (c : Bool) (b : Bool) (s' : Shared) : Prop :=
  b = c ∧ ∃ h' tk' m' news', s' = { s with heap := h', toks := tk' } ∧ (m' = m ∧ ∀ p ∈ news, p ∈ news') ∧ Fr h₀ L h' m' ∧ News h₀ L h' news'
theorem test_is {t : Sem Bool} {c : Bool} {news : List (Addr × Obj)} {Q : Bool → Shared → Prop} (F : Fr h₀ L s.heap m) (N : News h₀ L s.heap news)
    (h1 : wpAny (model prog w) A t (TestEnd h₀ L m news s c) E s) (h2 : ∀ h' tk', Fr h₀ L h' m → News h₀ L h' news → Q c { s with heap := h', toks := tk' }) : wpAny (model prog w) A t Q E s := by
  refine wpAny_mono h1 (fun b s' x => ?_) fun _ _ e => e
  obtain ⟨rfl, h', tk', m', news', rfl, ⟨rfl, hs⟩, F', N'⟩ := x
  exact h2 h' tk' F' fun p hp => N' p (hs p hp)
theorem test_end {c b : Bool} {news news' : List (Addr × Obj)} {h' : Heap} {tk' : Nat} (e : b = c) (F : Fr h₀ L h' m) (N : News h₀ L h' news') (hs : ∀ p ∈ news, p ∈ news') : TestEnd h₀ L m news s c b { s with heap := h', toks := tk' } :=
  ⟨e, h', tk', m, news', rfl, ⟨rfl, hs⟩, F, N⟩

theorem ListComp_S {elt iter : Expr} {x : Str} {px : Pos} {scope : Scope} {cl : List (Str × Addr)} {pos : Pos} {Q : Value → Shared → Prop} (F₀ : Fr h₀ L s.heap m)
    (hclos : closureFor scope env = pure cl) (hcell : ∀ y ∈ scope.names, y.2 ≠ .cell) (hkind : scope.kind = .function)
    (hnames : ∀ y ∈ scope.names, y.2 = .local → scope.names.lookup y.1 = some .local) (hx : scope.names.lookup x = some .local)
    (h : wpAny (model prog w) A (eval iter env) (fun xv s₁ => ∃ z t news, xv = .str z t ∧ z.cps.all (· < 128) = true ∧ A.handled = none ∧ Fr h₀ L s₁.heap m ∧ News h₀ L s₁.heap news ∧ z.cps.size ≤ sizeLine ∧
      ∀ s₂ : Shared, (∃ h, s₂ = { s₁ with heap := h }) → LCg.CompRest prog w A h₀ L m env elt x scope cl s₂ (fun _ => True) (SignAt z) (LCg.FinE h₀ L m s₂ Q) z.cps.size 0 [] news) E s)
    (hs : ∀ x, foldedSetIterable iter env x = pure x := by intro _; rfl) :
    wpAny (model prog w) A (eval (.ListComp elt [⟨.Name x px, iter, [], 0⟩] scope pos) env) Q E s := by
  rw [eval_ListComp]
  refine wpAny_comprehension_free (use := none) rfl hs hclos hkind hnames (wpAny_mono h (fun xv s₁ h₁ => ?_) fun _ _ e => e)
  obtain ⟨z, t, news, rfl, ha, hh, F, N, hsz, R⟩ := h₁
  refine wpAny_pyIter_ascii ha ?_
  refine LCg.block_U (Walks.strAscii hh _ z t) hsz (fun i h st => by obtain ⟨o, e, _⟩ := st; exact ⟨o, e⟩) (fun i h h' o nw st e e' _ _ _ => by obtain ⟨o', q, r⟩ := st; rw [e] at q; cases q; exact ⟨o, e', r⟩) hcell hkind hx ⟨_, Heap.get?_push_size _ rfl, rfl, rfl⟩ (fun b hb => ?_)
      (F.keeps fun _ _ e => Heap.get?_push_of_some _ e) (N.grown fun _ _ e => Heap.get?_push_of_some _ e) (Nat.ne_of_lt F.ns.lt) (next_is_new F) (fun p hp => Nat.ne_of_lt (Heap.lt_size (N p hp).1)) trivial (R _ ⟨_, rfl⟩) ?_
  · rw [List.mem_singleton.mp hb]
    show s₁.heap.objs.size < (s₁.heap.push _).objs.size
    rw [Heap.size_push]; exact Nat.lt_succ_self _
  · intro D C h tk m' ys news' F' N' o1 hn hC₀ hD₀ hCL hDL hCD offC fin
    refine ⟨m', hn, fun h'' hs'' => fin D h'' tk (F'.change hs'' hCL hC₀) (fun p hp => ?_) o1⟩
    refine ⟨hs''.extBut _ _ ?_ (N' p hp).1, (N' p hp).2⟩
    rcases List.mem_cons.mp hp with rfl | hp
    · exact Ne.symm hCD
    · exact offC p hp
def DigSrc (prog : Program) (w : World) (A : Around) (h₀ : Heap) (L : Addr) (m : Str → Option Value) (env : Env) (elt : Expr) (x : Str) (scope : Scope) (cl : List (Str × Addr)) (Q : Value → Shared → Prop) (xv : Value) (s₁ : Shared) : Prop :=
  ∃ t news, xv = .str (Str.ofString "0123456789") t ∧ A.handled = none ∧ Fr h₀ L s₁.heap m ∧ News h₀ L s₁.heap news ∧
      ∀ h : Heap, LCg.CompRest prog w A h₀ L m env elt x scope cl { s₁ with heap := h } (fun _ => True) (SignAt (Str.ofString "0123456789")) (LCg.FinE h₀ L m { s₁ with heap := h } Q) 10 0 [] news
theorem DigSrc.intro {elt : Expr} {x : Str} {scope : Scope} {cl : List (Str × Addr)} {Q : Value → Shared → Prop} {t : Tok} {news : List (Addr × Obj)} {s₁ : Shared} (hh : A.handled = none) (F : Fr h₀ L s₁.heap m) (N : News h₀ L s₁.heap news)
    (R : ∀ h : Heap, LCg.CompRest prog w A h₀ L m env elt x scope cl { s₁ with heap := h } (fun _ => True) (SignAt (Str.ofString "0123456789")) (LCg.FinE h₀ L m { s₁ with heap := h } Q) 10 0 [] news) :
    DigSrc prog w A h₀ L m env elt x scope cl Q (.str (Str.ofString "0123456789") t) s₁ := ⟨t, news, rfl, hh, F, N, R⟩
theorem ListComp_dig {elt iter : Expr} {x : Str} {px : Pos} {scope : Scope} {cl : List (Str × Addr)} {pos : Pos} {Q : Value → Shared → Prop} (F₀ : Fr h₀ L s.heap m)
    (hclos : closureFor scope env = pure cl) (hcell : ∀ y ∈ scope.names, y.2 ≠ .cell) (hkind : scope.kind = .function)
    (hnames : ∀ y ∈ scope.names, y.2 = .local → scope.names.lookup y.1 = some .local) (hx : scope.names.lookup x = some .local)
    (h : wpAny (model prog w) A (eval iter env) (DigSrc prog w A h₀ L m env elt x scope cl Q) E s)
    (hs : ∀ x, foldedSetIterable iter env x = pure x := by intro _; rfl) :
    wpAny (model prog w) A (eval (.ListComp elt [⟨.Name x px, iter, [], 0⟩] scope pos) env) Q E s := by
  refine ListComp_S F₀ hclos hcell hkind hnames hx (wpAny_mono h (fun xv s₁ h₁ => ?_) fun _ _ e => e) hs
  obtain ⟨t, news, rfl, hh, F, N, R⟩ := h₁
  have e10 : (Str.ofString "0123456789").cps.size = 10 := by decide +kernel
  refine ⟨_, t, news, rfl, by decide +kernel, hh, F, N, by rw [e10]; decide, ?_⟩
  rintro _ ⟨h, rfl⟩
  rw [e10]
  exact R h

theorem cr_ints {elt : Expr} {x : Str} {scope : Scope} {cl : List (Str × Addr)} {S : List (Addr × Obj) → Prop} {P : Nat → Value → Prop} {Fin : List Value → List (Addr × Obj) → Prop} {news : List (Addr × Obj)} {n : Nat} (g : Nat → Int)
    (turn : ∀ i v I oI C oC D m₂ ys h tk (E' : Value → Shared → Prop), i < n → P i v → LCg.NsObj oC m₂ → m₂ x = some v → Fr h₀ L h m → News h₀ L h ((I, oI) :: (C, oC) :: (D, LCg.lst ys) :: news) → LCg.Off3 I C D news → ((@Ne Nat I C) ∧ (@Ne Nat I D) ∧ (@Ne Nat C D)) →
      wpAny (model prog w) A (eval elt (compEnvC scope cl C env)) (LCg.CompEnd h₀ L m { s with heap := h, toks := tk } I oI C oC D (LCg.lst ys) S (fun y news' => news' = news ∧ ∃ t : Tok, y = .int (g i) t)) E' { s with heap := h, toks := tk })
    (fin : ∀ ys, IntsAre ys ((List.range n).map g) → Fin ys news) : LCg.CompRest prog w A h₀ L m env elt x scope cl s S P Fin n 0 [] news := by
  have key : ∀ (j i : Nat) (ys : List Value), i + j = n → IntsAre ys ((List.range i).map g) → LCg.CompRest prog w A h₀ L m env elt x scope cl s S P Fin j i ys news := by
    intro j
    induction j with
    | zero =>
      intro i ys hi hy
      have e : i = n := by omega
      subst e
      exact LCg.CompRest.zero (fin ys hy)
    | succ j ih =>
      intro i ys hi hy
      refine LCg.CompRest.succ ?_
      intro v I oI C oC D m₂ h tk E' hv hC hx F N off ne
      refine wpAny_mono (turn i v I oI C oC D m₂ ys h tk E' (by omega) hv hC hx F N off ne) (fun y s₂ hq => ?_) fun _ _ e => e
      obtain ⟨h', tk', nw, e, F', N', off', hS, hn, t', hy'⟩ := hq
      rw [hn] at N' off' hS
      refine ⟨h', tk', news, e, F', N', off', hS, ?_⟩
      rw [hy']
      refine ih (i + 1) _ (by omega) ?_
      rw [List.range_succ, List.map_append, List.map_singleton]
      exact IntsAre.append hy (.cons _ _ .nil)
  exact key n 0 [] (by omega) .nil

/-- a loop over range(0, n, z): one int name y turns, the other stored names are forgotten -/
def RngEnd (h₀ : Heap) (L : Addr) (x y : Str) (stored : List Str) (m₀ : Str → Option Value) (P : Int → Prop) (need : List (Addr × Obj)) (s : Shared) (f : Flow) (s' : Shared) : Prop :=
  f = .next ∧ ∃ h' tk' m' news' v' t', s' = { s with heap := h', toks := tk' } ∧ Fr h₀ L h' m' ∧ News h₀ L h' news' ∧ (∀ p ∈ need, p ∈ news') ∧ m' y = some (.int v' t') ∧ (∀ z, z ≠ x → z ≠ y → stored.contains z = false → m' z = m₀ z) ∧ P v'
theorem rng_end {x y : Str} {stored : List Str} {m₀ m' : Str → Option Value} {P : Int → Prop} {need news' : List (Addr × Obj)} {h' : Heap} {tk' : Nat} {v' : Int} {t' : Tok} (F : Fr h₀ L h' m') (N : News h₀ L h' news') (hn : ∀ p ∈ need, p ∈ news') (hy : m' y = some (.int v' t'))
    (hr : ∀ z, z ≠ x → z ≠ y → stored.contains z = false → m' z = m₀ z) (hp : P v') : RngEnd h₀ L x y stored m₀ P need s .next { s with heap := h', toks := tk' } := ⟨rfl, h', tk', m', news', v', t', rfl, F, N, hn, hy, hr, hp⟩
theorem rng_acc {r : Addr} {b₀ : Int} {z k : Nat} {t₀ u₀ v₀ : Tok} {x y : Str} {body : List Stmt} {Q : Flow → Shared → Prop} {m₀ : Str → Option Value} {news : List (Addr × Obj)} {x₀ : Int} {tx : Tok} (stored : List Str) (P : Nat → Int → Prop)
    (hh : A.handled = none) (hr : IsRange s.heap r 0 b₀ (z : Int) t₀ u₀ v₀) (hsmall : Builtin.Range.small 0 b₀ (z : Int) = true) (hn : Builtin.Range.rangeSize 0 b₀ (z : Int) = (k : Int)) (F : Fr h₀ env.locals s.heap m₀) (N : News h₀ env.locals s.heap news) (hy : m₀ y = some (.int x₀ tx)) (hp : P 0 x₀)
    (turn : ∀ i v tv t (u : Str → Option Value) h tk own, i < k → P i v → OwnOff own (news.map (·.1)) → Fr h₀ env.locals h (fun q => if q = x then some (.int ((i * z : Nat) : Int) t) else kstB (fun q => if stored.contains q then u q else m₀ q) [(y, .int v tv)] q) → News h₀ env.locals h (news ++ own) →
      wpAny (model prog w) A (execs body env) (RngEnd h₀ env.locals x y stored m₀ (P (i + 1)) (news ++ own) { s with heap := h, toks := tk }) E { s with heap := h, toks := tk })
    (done : ∀ v tv (u : Str → Option Value) h tk, P k v → Fr h₀ env.locals h (fun q => if q = x then u q else kstB (fun q => if stored.contains q then u q else m₀ q) [(y, .int v tv)] q) → News h₀ env.locals h news → Q .next { s with heap := h, toks := tk }) :
    wpAny (model prog w) A (pyIter (.ref r)) (fun it s₂ => LoopAtV prog w A h₀ env x body Q E it s₂) E s := by
  refine wpAny_pyIter_range hr hsmall ?_
  have W : Walks prog w A s.heap.objs.size [s.heap.objs.size] [s.heap.objs.size] k (fun i v => i < k ∧ ∃ t, v = .int (0 + i * (z : Int)) t)
      (fun i h => IsRangeIter h s.heap.objs.size (0 + (i : Nat) * (z : Int)) ((k : Int) - (i : Nat)) (z : Int)) := (Walks.range hh _ 0 (z : Int) k).bound
  refine loop_invN (fun i m nx => nx = news ∧ ∃ v tv, m y = some (.int v tv) ∧ (∀ q, q ≠ x → q ≠ y → stored.contains q = false → m q = m₀ q) ∧ P i v) W ?_ ?_ ?_ ?_ (by show IsRangeIter _ _ _ _ _; rw [hn]; simpa using Heap.get?_push_size _ rfl) (F.push _) (fun p hp => ⟨Heap.get?_push_of_some _ (N p hp).1, (N p hp).2⟩) ⟨rfl, x₀, tx, hy, fun _ _ _ _ => rfl, hp⟩ ?_ ?_
  · intro hm
    exact absurd F.ns.lt ((List.mem_singleton.mp hm) ▸ Nat.lt_irrefl _)
  · intro b hb
    rw [List.mem_singleton.mp hb]
    exact next_is_new F
  · intro p hp hI
    exact absurd (Heap.lt_size (N p hp).1) ((List.mem_singleton.mp hI) ▸ Nat.lt_irrefl _)
  · intro p hp hI
    exact absurd (Heap.lt_size (N p hp).1) ((List.mem_singleton.mp hI) ▸ Nat.lt_irrefl _)
  · rintro i v m₁ nx h tk own hi ⟨_, t, rfl⟩ _ hoff ⟨rfl, a, ta, ha, hm, hp'⟩ F₁ N₁
    have e1 : (0 : Int) + (i : Int) * (z : Int) = ((i * z : Nat) : Int) := by rw [Int.natCast_mul]; omega
    rw [e1] at F₁
    have h1 : ∀ p ∈ [(y, Value.int a ta)], m₁ p.1 = some p.2 := fun p hp => by rw [List.mem_singleton.mp hp]; exact ha
    have h2 : ∀ q, q ≠ x → (∀ p ∈ [(y, Value.int a ta)], q ≠ p.1) → stored.contains q = false → m₁ q = m₀ q := fun q q1 q2 q3 => hm q q1 (q2 _ (List.mem_singleton.mpr rfl)) q3
    refine wpAny_mono (turn i a ta t m₁ h tk own hi hp' hoff (kst_fr h1 h2 F₁) N₁) (fun f s₂ e => ?_) fun _ _ e => e
    obtain ⟨rfl, h', tk', m', news', v', t', rfl, F', N', hneed, hy', hr', hp2⟩ := e
    exact InvEndN.intro F' N' ⟨rfl, v', t', hy', hr', hp2⟩ rfl (fun p hp => hneed p (List.mem_append_left _ hp)) (fun p hp => hneed p (List.mem_append_right _ hp))
  · rintro m₁ nx h tk ⟨rfl, a, ta, ha, hm, hp'⟩ F₁ N₁
    have h1 : ∀ p ∈ [(y, Value.int a ta)], m₁ p.1 = some p.2 := fun p hp => by rw [List.mem_singleton.mp hp]; exact ha
    have h2 : ∀ q, q ≠ x → (∀ p ∈ [(y, Value.int a ta)], q ≠ p.1) → stored.contains q = false → m₁ q = m₀ q := fun q q1 q2 q3 => hm q q1 (q2 _ (List.mem_singleton.mpr rfl)) q3
    exact done a ta m₁ h tk hp' (kst_frOut h1 h2 F₁) N₁
end
end Mine
end
section
open PySem PySem.W PyProof.Rows PySem.Spec PySem.Calls PySem.NumText
set_option autoImplicit false
set_option maxRecDepth 100000
namespace Mine
theorem sign_at {i : Nat} {v : Value} (h : SignAt (Str.ofString "0123456789") i v) (hi : i < 10) : ∃ u, v = .str ⟨#[48 + i]⟩ u := by
  obtain ⟨c, u, hc, rfl⟩ := h
  have all : ∀ i, i < 10 → (Str.ofString "0123456789").cps[i]? = some (48 + i) := by decide +kernel
  rw [all i hi] at hc
  cases hc
  exact ⟨u, rfl⟩
theorem lit0 : Str.ofString "" = T [] := by decide +kernel
theorem lit48 : Str.ofString "0" = T [48] := by decide +kernel
theorem worth_a (n : Nat) : ¬ (T (dg n) == Str.ofString "") = true := by
  intro h
  rw [lit0] at h
  exact dg_ne n (T_inj (eq_of_beq h))
theorem worth_b {n : Nat} (h1 : (Txt.item (T (dg n)) 0 == Str.ofString "0") = true) (h2 : (T (dg n) != Str.ofString "0") = true) : False := by
  rw [lit48] at h1 h2
  have e := eq_of_beq h1
  have e2 : (dg n).head? = some 48 := by
    cases hd : dg n with
    | nil => exact absurd hd (dg_ne n)
    | cons c r =>
      rw [hd] at e
      have e3 : Txt.item (T (c :: r)) 0 = T [c] := by
        unfold Txt.item Txt.charAt
        rw [StrLaws.seqIndex_nonneg (by decide) (by rw [T_len]; simp)]
        rfl
      rw [e3] at e
      have := T_inj e
      simpa using this
  have e4 := dg_head n e2
  subst e4
  rw [dg_lt (by decide)] at h2
  simp at h2
theorem worth_c {l : List Nat} (hl : NumText.AllDigits l) : ((List.range 10).map fun i => cnt (48 + i) l).sum = (l.length : Int) := by
  have e : List.range 10 = [0, 1, 2, 3, 4, 5, 6, 7, 8, 9] := by decide
  rw [← cnt_sum l hl, e]
  simp only [List.map, List.sum_cons, List.sum_nil, Nat.reduceAdd, Int.add_zero]
theorem sum_absurd {n : Nat} (h : ((List.range 10).map fun i => cnt (48 + i) (dg n)).sum ≠ ((dg n).length : Int)) : False := h (worth_c (dg_digits n))
/-- the loop's laws: l the figures, z the step -/
def Wk (l : List Nat) (z : Nat) : Nat := (l.length - 1) / z + 1
theorem wk_size {l : List Nat} {z : Nat} (hl : 1 ≤ l.length) (hz : 1 ≤ z) : Builtin.Range.rangeSize 0 (l.length : Int) (z : Int) = ((Wk l z : Nat) : Int) := by
  unfold Builtin.Range.rangeSize Wk
  rw [if_pos (by omega), if_pos (by omega)]
  have e : ((l.length : Int) - 0 - 1) = ((l.length - 1 : Nat) : Int) := by omega
  rw [e]
  rfl
theorem wk_lt {l : List Nat} {z i : Nat} (hl : 1 ≤ l.length) (hi : i < Wk l z) : i * z < l.length := by
  unfold Wk at hi
  have h1 : i ≤ (l.length - 1) / z := by omega
  have h2 : i * z ≤ (l.length - 1) / z * z := Nat.mul_le_mul_right _ h1
  have h3 := Nat.div_mul_le_self (l.length - 1) z
  omega
theorem wk_ge {l : List Nat} {z : Nat} (hz : 1 ≤ z) : l.length ≤ Wk l z * z := by
  unfold Wk
  have h := Nat.div_add_mod (l.length - 1) z
  have h2 := Nat.mod_lt (l.length - 1) hz
  rw [Nat.add_mul, Nat.mul_comm]
  omega
theorem wk_small {l : List Nat} {z : Nat} (hl : l.length ≤ 100000) (hz : 1 ≤ z) (hz2 : z ≤ 100) (hl1 : 1 ≤ l.length) : Builtin.Range.small 0 (l.length : Int) (z : Int) = true := by
  have hk := wk_size hl1 hz
  have hw : Wk l z ≤ 100001 := by
    unfold Wk
    have := Nat.div_le_self (l.length - 1) z
    omega
  have h1 : ((l.length : Nat) : Int) ≤ 100000 := by omega
  have h2 : ((Wk l z : Nat) : Int) ≤ 100001 := by omega
  have h3 : (0 : Int) ≤ ((Wk l z : Nat) : Int) := by omega
  have h4 : (0 : Int) ≤ ((l.length : Nat) : Int) := by omega
  unfold Builtin.Range.small
  rw [hk]
  generalize ((Wk l z : Nat) : Int) = K at h2 h3
  generalize ((l.length : Nat) : Int) = N at h1 h4
  have fl : ∀ i : Int, -1000000 ≤ i → i ≤ 1000000 → Builtin.Range.rangeFitsLong i = true := by
    intro i a b
    unfold Builtin.Range.rangeFitsLong
    rw [decide_eq_true (show -(2 ^ 63 : Int) ≤ i by omega), decide_eq_true (show i < 2 ^ 63 by omega)]
    rfl
  rw [fl 0 (by omega) (by omega), fl N (by omega) (by omega), fl z (by omega) (by omega), fl K (by omega) (by omega), if_pos (by omega), fl (N + ((z : Int) - 1)) (by omega) (by omega)]
  simp
def WP (l : List Nat) (z i : Nat) (v : Int) : Prop := v = ((digitsVal (l.take (i * z)) : Nat) : Int)
def Pc (l : List Nat) (z b : Nat) : List Nat := (l.drop b).take (min (b + z) l.length - b)
theorem pc_app (l : List Nat) (z b : Nat) : l.take (b + z) = l.take b ++ Pc l z b := by
  unfold Pc
  rw [List.take_add]
  congr 1
  by_cases h : b + z ≤ l.length
  · rw [Nat.min_eq_left h, Nat.add_sub_cancel_left]
  · rw [Nat.min_eq_right (by omega), List.take_of_length_le (by rw [List.length_drop]; omega), List.take_of_length_le (by rw [List.length_drop]; exact Nat.le_refl _)]
theorem pc_len {l : List Nat} {z b : Nat} (hb : b < l.length) (hz : 1 ≤ z) (hz2 : z ≤ 100) : 1 ≤ (Pc l z b).length ∧ (Pc l z b).length ≤ 100 := by
  unfold Pc
  rw [List.length_take, List.length_drop]
  omega
theorem AllDigits.take {l : List Nat} (h : NumText.AllDigits l) (k : Nat) : NumText.AllDigits (l.take k) := fun c hc => h c (List.mem_of_mem_take hc)
theorem AllDigits.pc {l : List Nat} (h : NumText.AllDigits l) (z b : Nat) : NumText.AllDigits (Pc l z b) := fun c hc => h c (List.mem_of_mem_drop (List.mem_of_mem_take hc))
theorem wp_step {l : List Nat} {z i : Nat} {v : Int} (hv : WP l z i v) : ∃ a : Nat, v = a ∧ a = digitsVal (l.take (i * z)) ∧ WP l z (i + 1) (((a * 10 ^ (Pc l z (i * z)).length : Nat) : Int) + ((digitsVal (Pc l z (i * z)) : Nat) : Int)) := by
  refine ⟨_, hv, rfl, ?_⟩
  unfold WP
  rw [Nat.add_mul, Nat.one_mul, pc_app, val_app]
  omega
theorem wp_zero (l : List Nat) (z : Nat) : WP l z 0 0 := by
  unfold WP
  rw [Nat.zero_mul]
  rfl
theorem wp_done {n z : Nat} {v : Int} (hz : 1 ≤ z) (h : WP (dg n) z (Wk (dg n) z) v) : v = n := by
  unfold WP at h
  rw [List.take_of_length_le (wk_ge hz), dg_val] at h
  exact h
theorem val_take_lt {l : List Nat} (h : NumText.AllDigits l) (k : Nat) : digitsVal (l.take k) < 10 ^ l.length :=
  Nat.lt_of_lt_of_le (val_lt (AllDigits.take h k)) (Nat.pow_le_pow_right (by decide) (by rw [List.length_take]; omega))
theorem pow_lt_succ (k : Nat) : 10 ^ k < 10 ^ (k + 1) := Nat.pow_lt_pow_right (by decide) (Nat.lt_succ_self k)
end Mine
end
section
open PySem PySem.W PyProof.Rows PySem.Spec PySem.Calls PySem.NumText
set_option autoImplicit false
set_option maxRecDepth 100000
namespace Mine
def joinSp : List (List Nat) → List Nat
  | [] => []
  | [a] => a
  | a :: r => a ++ 32 :: joinSp r
theorem join_sp : ∀ ps : List (List Nat), PySem.Str.join (T [32]) (ps.map T) = T (joinSp ps)
  | [] => rfl
  | [a] => rfl
  | a :: b :: r => by
    show T a ++ T [32] ++ PySem.Str.join (T [32]) ((b :: r).map T) = _
    rw [join_sp (b :: r), T_app, T_app, List.append_assoc]
    rfl
theorem app_inj {X Y : List Nat} : ∀ {a b : List Nat}, 32 ∉ a → 32 ∉ b → a ++ 32 :: X = b ++ 32 :: Y → a = b ∧ X = Y
  | [], [], _, _, h => by simpa using h
  | [], c :: b, _, hb, h => by
    injection h with h1 h2
    exact absurd (h1 ▸ List.mem_cons_self) hb
  | c :: a, [], ha, _, h => by
    injection h with h1 h2
    exact absurd (h1 ▸ List.mem_cons_self) ha
  | c :: a, d :: b, ha, hb, h => by
    injection h with h1 h2
    obtain ⟨e1, e2⟩ := app_inj (fun q => ha (List.mem_cons_of_mem _ q)) (fun q => hb (List.mem_cons_of_mem _ q)) h2
    exact ⟨by rw [h1, e1], e2⟩
theorem join_inj : ∀ {ps qs : List (List Nat)}, ps ≠ [] → qs ≠ [] → (∀ p ∈ ps, 32 ∉ p) → (∀ p ∈ qs, 32 ∉ p) → joinSp ps = joinSp qs → ps = qs
  | [], _, h, _, _, _, _ => absurd rfl h
  | _ :: _, [], _, h, _, _, _ => absurd rfl h
  | [a], [b], _, _, _, _, h => by rw [show a = b from h]
  | [a], b :: c :: r, _, _, h1, _, h => by
    have e : a = b ++ 32 :: joinSp (c :: r) := h
    exact absurd (by rw [e]; simp) (h1 a List.mem_cons_self)
  | a :: c :: r, [b], _, _, _, h2, h => by
    have e : a ++ 32 :: joinSp (c :: r) = b := h
    exact absurd (by rw [← e]; simp) (h2 b List.mem_cons_self)
  | a :: c :: r, b :: d :: q, _, _, h1, h2, h => by
    have e : a ++ 32 :: joinSp (c :: r) = b ++ 32 :: joinSp (d :: q) := h
    obtain ⟨e1, e2⟩ := app_inj (h1 a List.mem_cons_self) (h2 b List.mem_cons_self) e
    rw [e1, join_inj (List.cons_ne_nil _ _) (List.cons_ne_nil _ _) (fun p hp => h1 p (List.mem_cons_of_mem _ hp)) (fun p hp => h2 p (List.mem_cons_of_mem _ hp)) e2]
theorem split_is {l : List Nat} {ps : List (List Nat)} (hl : l ≠ []) (hne : ps ≠ []) (hf : ∀ p ∈ ps, 32 ∉ p) (hj : joinSp ps = l) : Txt.split (T l) (T [32]) = ps.map T := by
  have h1 := StrLaws.join_split (T l) (T [32])
  have h2 := StrLaws.split_free (T l) 32
  change ∀ p ∈ Txt.split (T l) (T [32]), 32 ∉ p.cps.toList at h2
  have e : Txt.split (T l) (T [32]) = ((Txt.split (T l) (T [32])).map (·.cps.toList)).map T := by
    rw [List.map_map]
    have : (T ∘ fun x : PySem.Str => x.cps.toList) = id := funext fun x => T_eta x
    rw [this, List.map_id]
  generalize hq : (Txt.split (T l) (T [32])).map (·.cps.toList) = qs at e
  rw [e, join_sp] at h1
  have h3 := T_inj h1
  have hqf : ∀ p ∈ qs, 32 ∉ p := by
    intro p hp
    rw [← hq] at hp
    obtain ⟨x, hx, rfl⟩ := List.mem_map.mp hp
    exact h2 x hx
  have hqn : qs ≠ [] := by
    rintro rfl
    exact hl h3.symm
  rw [e, join_inj hqn hne hqf hf (h3.trans hj.symm)]
theorem free_dg (m : Nat) : 32 ∉ dg m := fun h => by have := dg_digits m 32 h; omega
theorem free_app {a b : List Nat} (ha : 32 ∉ a) (hb : 32 ∉ b) : 32 ∉ a ++ b := fun h => (List.mem_append.mp h).elim ha hb
/-- one piece -/
theorem split_one {a : List Nat} (hn : a ≠ []) (hf : 32 ∉ a) : Txt.split (T a) (T [32]) = [T a] := split_is (ps := [a]) hn (List.cons_ne_nil _ _) (fun p hp => by rw [List.mem_singleton.mp hp]; exact hf) rfl
theorem split_two {a b : List Nat} (ha : 32 ∉ a) (hb : 32 ∉ b) : Txt.split (T ([40, 47, 32] ++ a ++ [32] ++ b ++ [41])) (T [32]) = [T [40, 47], T a, T (b ++ [41])] := by
  refine split_is (ps := [[40, 47], a, b ++ [41]]) (by simp) (List.cons_ne_nil _ _) (fun p hp => ?_) ?_
  · rcases List.mem_cons.mp hp with rfl | hp
    · decide
    · rcases List.mem_cons.mp hp with rfl | hp
      · exact ha
      · rw [List.mem_singleton.mp hp]
        exact free_app hb (by decide)
  · simp [joinSp]
-- slices
theorem sl_head (a c : List Nat) : Txt.slice (T (a ++ c)) none (some (a.length : Int)) = T a := by
  rw [slice_TT (a := 0) (b := a.length) rfl (clip_nat (by rw [List.length_append]; omega)) (by omega) (by rw [List.length_append]; omega)]
  simp
theorem clip_sub {b n : Nat} {d i : Int} (h : b ≤ n) (e : i = (n : Int) - (b : Int)) : clipI (some i) d n = ((n - b : Nat) : Int) := by
  rw [e, ← Int.ofNat_sub h]
  exact clip_nat (Nat.sub_le n b)
theorem clip_neg {b n : Nat} {d : Int} {i : Int} (hb : i = -(b : Int)) (h0 : 0 < b) (h : b ≤ n) : clipI (some i) d n = ((n - b : Nat) : Int) := by
  subst hb
  show max 0 (min (if -(b : Int) < 0 then -(b : Int) + n else -(b : Int)) n) = _
  rw [if_pos (Int.neg_neg_of_pos (Int.ofNat_lt.mpr h0)), show -(b : Int) + n = ((n - b : Nat) : Int) by rw [Int.ofNat_sub h, Int.add_comm]; rfl, Int.min_eq_left (Int.ofNat_le.mpr (Nat.sub_le n b)), Int.max_eq_right (Int.natCast_nonneg _)]
theorem sl_tail (c b : List Nat) (i : Int) (e : i = ((c ++ b).length : Int) - (b.length : Int)) : Txt.slice (T (c ++ b)) (some i) none = T b := by
  have hle : b.length ≤ (c ++ b).length := by rw [List.length_append]; omega
  rw [slice_TT (a := (c ++ b).length - b.length) (b := (c ++ b).length) (clip_sub hle e) rfl (by omega) (Nat.le_refl _)]
  rw [List.length_append, Nat.add_sub_cancel, List.drop_left, Nat.add_sub_cancel_left, List.take_length]
theorem sl_mid (a c b : List Nat) (i : Int) (e : i = ((a ++ c ++ b).length : Int) - (b.length : Int)) : Txt.slice (T (a ++ c ++ b)) (some (a.length : Int)) (some i) = T c := by
  have hle : b.length ≤ (a ++ c ++ b).length := by rw [List.length_append]; omega
  rw [slice_TT (a := a.length) (b := (a ++ c ++ b).length - b.length) (clip_nat (by simp)) (clip_sub hle e) (by simp; omega) (by omega)]
  have e2 : (a ++ c ++ b).length - b.length = a.length + c.length := by simp; omega
  rw [e2, Nat.add_sub_cancel_left, List.append_assoc, List.drop_left, List.take_left]
theorem sl_last (c b : List Nat) (k : Nat) (hk : b.length = k) (h0 : 0 < k) (i : Int) (e : i = -(k : Int)) : Txt.slice (T (c ++ b)) (some i) none = T b := by
  subst hk
  have hle : b.length ≤ (c ++ b).length := by rw [List.length_append]; omega
  rw [slice_TT (a := (c ++ b).length - b.length) (b := (c ++ b).length) (clip_neg e h0 hle) rfl (by omega) (Nat.le_refl _)]
  rw [List.length_append, Nat.add_sub_cancel, List.drop_left, Nat.add_sub_cancel_left, List.take_length]
theorem sl_init (c b : List Nat) (k : Nat) (hk : b.length = k) (h0 : 0 < k) (i : Int) (e : i = -(k : Int)) : Txt.slice (T (c ++ b)) none (some i) = T c := by
  subst hk
  have hle : b.length ≤ (c ++ b).length := by rw [List.length_append]; omega
  rw [slice_TT (a := 0) (b := (c ++ b).length - b.length) rfl (clip_neg e h0 hle) (by omega) (by omega)]
  rw [List.length_append, Nat.add_sub_cancel, List.drop_zero, Nat.sub_zero, List.take_left]
section
variable {prog : Program} {w : World} {A : Around} {E : Value → Shared → Prop} {hp : Heap} {gn : Array GenState} {dr : Drawn} {tk0 : Nat} {os0 : OsState} {s : Shared} {h₀ : Heap} {L : Addr} {m : Str → Option Value} {Q : Value → Shared → Prop} {t u : Tok} {news : List (Addr × Obj)} {value slice : PySem.Expr} {l r : List Nat}
theorem slice_sse {i j : Int} {ui uj : Tok} (hF : Fr h₀ L hp m) (hN : News h₀ L hp news) (hl : l.length ≤ 1000000) (e : Txt.slice (T l) (some i) (some j) = T r)
    (h : ∀ h' t' k, Fr h₀ L h' m → News h₀ L h' news → Q (.str (T r) t') ⟨h', gn, dr, k, os0⟩)
    (hs : subscripted slice false (.str (T l) t) (.ref hp.objs.size) = operate [.ref hp.objs.size, .str (T l) t] (getItem (.str (T l) t) (.ref hp.objs.size)) := by with_unfolding_all rfl)
    (ht : ∀ r, letTemporaryGo value (.str (T l) t) r = pure () := by intro _; with_unfolding_all rfl) :
    wpAny (model prog w) A (subscriptTail value slice (.str (T l) t) (.ref hp.objs.size)) Q E ⟨hp.push { cls := .type "slice", data := .fields #[.int i ui, .int j uj, .none] }, gn, dr, tk0, os0⟩ :=
  slice_strN_ss (s := ⟨hp, gn, dr, tk0, os0⟩) hF hN (fun h' t' k F' N' => by rw [e]; exact h h' t' k F' N') hs ht (by rw [T_len, sizeLine_eq]; omega)
theorem slice_nse {j : Int} {uj : Tok} (hF : Fr h₀ L hp m) (hN : News h₀ L hp news) (hl : l.length ≤ 1000000) (e : Txt.slice (T l) none (some j) = T r)
    (h : ∀ h' t' k, Fr h₀ L h' m → News h₀ L h' news → Q (.str (T r) t') ⟨h', gn, dr, k, os0⟩)
    (hs : subscripted slice false (.str (T l) t) (.ref hp.objs.size) = operate [.ref hp.objs.size, .str (T l) t] (getItem (.str (T l) t) (.ref hp.objs.size)) := by with_unfolding_all rfl)
    (ht : ∀ r, letTemporaryGo value (.str (T l) t) r = pure () := by intro _; with_unfolding_all rfl) :
    wpAny (model prog w) A (subscriptTail value slice (.str (T l) t) (.ref hp.objs.size)) Q E ⟨hp.push { cls := .type "slice", data := .fields #[.none, .int j uj, .none] }, gn, dr, tk0, os0⟩ :=
  slice_strN_ns (s := ⟨hp, gn, dr, tk0, os0⟩) hF hN (fun h' t' k F' N' => by rw [e]; exact h h' t' k F' N') hs ht (by rw [T_len, sizeLine_eq]; omega)
theorem slice_sne {i : Int} {ui : Tok} (hF : Fr h₀ L hp m) (hN : News h₀ L hp news) (hl : l.length ≤ 1000000) (e : Txt.slice (T l) (some i) none = T r)
    (h : ∀ h' t' k, Fr h₀ L h' m → News h₀ L h' news → Q (.str (T r) t') ⟨h', gn, dr, k, os0⟩)
    (hs : subscripted slice false (.str (T l) t) (.ref hp.objs.size) = operate [.ref hp.objs.size, .str (T l) t] (getItem (.str (T l) t) (.ref hp.objs.size)) := by with_unfolding_all rfl)
    (ht : ∀ r, letTemporaryGo value (.str (T l) t) r = pure () := by intro _; with_unfolding_all rfl) :
    wpAny (model prog w) A (subscriptTail value slice (.str (T l) t) (.ref hp.objs.size)) Q E ⟨hp.push { cls := .type "slice", data := .fields #[.int i ui, .none, .none] }, gn, dr, tk0, os0⟩ :=
  slice_strN_sn (s := ⟨hp, gn, dr, tk0, os0⟩) hF hN (fun h' t' k F' N' => by rw [e]; exact h h' t' k F' N') hs ht (by rw [T_len, sizeLine_eq]; omega)
theorem eq_same {x y : PySem.Str} (e : x = y) (h : Q (.bool true) s) : wpAny (model prog w) A (compareOp .Eq (.str x t) (.str y u)) Q E s := by
  subst e
  refine PyProof.Rows.eq_str ?_
  rw [show (x == x) = true from beq_self_eq_true x]
  exact h
theorem ne_same {x y : PySem.Str} (e : x = y) (h : Q (.bool false) s) : wpAny (model prog w) A (compareOp .NotEq (.str x t) (.str y u)) Q E s := by
  subst e
  refine PyProof.Rows.ne_str ?_
  rw [show (x != x) = false from bne_self_eq_false x]
  exact h
theorem split_r1 {y : PySem.Str} {a : PySem.Str} (hF : Fr h₀ L hp m) (hN : News h₀ L hp news) (hl : l.length ≤ 1000000) (hy : y = T [32]) (e : Txt.split (T l) (T [32]) = [a])
    (h : ∀ D t1 h' k, Fr h₀ L h' m → News h₀ L h' ((D, { cls := .type "list", data := .seq [Value.str a t1].toArray }) :: news) → Q (.ref D) ⟨h', gn, dr, k, os0⟩) :
    wpAny (model prog w) A (call (.builtin "str.split") [.str (T l) t, .str y u]) Q E ⟨hp, gn, dr, tk0, os0⟩ := by
  subst hy
  refine splitN1 (s := ⟨hp, gn, dr, tk0, os0⟩) hF hN (by rw [T_len]; rfl) (fun ls h' k el F' N' => ?_) (by rw [T_len, sizeLine_eq]; omega)
  rw [e] at el
  match ls, el with
  | [(b, t1)], el =>
    injection el with e1 e2
    cases e1
    exact h _ t1 h' k F' N'
theorem split_r3 {y : PySem.Str} {a b c : PySem.Str} (hF : Fr h₀ L hp m) (hN : News h₀ L hp news) (hl : l.length ≤ 1000000) (hy : y = T [32]) (e : Txt.split (T l) (T [32]) = [a, b, c])
    (h : ∀ D t1 t2 t3 h' k, Fr h₀ L h' m → News h₀ L h' ((D, { cls := .type "list", data := .seq [Value.str a t1, Value.str b t2, Value.str c t3].toArray }) :: news) → Q (.ref D) ⟨h', gn, dr, k, os0⟩) :
    wpAny (model prog w) A (call (.builtin "str.split") [.str (T l) t, .str y u]) Q E ⟨hp, gn, dr, tk0, os0⟩ := by
  subst hy
  refine splitN1 (s := ⟨hp, gn, dr, tk0, os0⟩) hF hN (by rw [T_len]; rfl) (fun ls h' k el F' N' => ?_) (by rw [T_len, sizeLine_eq]; omega)
  rw [e] at el
  match ls, el with
  | [(_, t1), (_, t2), (_, t3)], el =>
    injection el with e1 el
    injection el with e2 el
    injection el with e3 el
    cases e1
    cases e2
    cases e3
    exact h _ t1 t2 t3 h' k F' N'
def ValEnd (h₀ : Heap) (L : Addr) (m : Str → Option Value) (news : List (Addr × Obj)) (gn : Array GenState) (dr : Drawn) (os0 : OsState) (vf : Tok → Value) (v : Value) (s' : Shared) : Prop :=
  ∃ tok h' tk' news', v = vf tok ∧ s' = ⟨h', gn, dr, tk', os0⟩ ∧ (∀ p ∈ news, p ∈ news') ∧ Fr h₀ L h' m ∧ News h₀ L h' news'
theorem val_is {tr : Sem Value} (vf : Tok → Value) (_F : Fr h₀ L hp m) (_N : News h₀ L hp news) (h1 : wpAny (model prog w) A tr (ValEnd h₀ L m news gn dr os0 vf) E ⟨hp, gn, dr, tk0, os0⟩)
    (h2 : ∀ tok h' tk', Fr h₀ L h' m → News h₀ L h' news → Q (vf tok) ⟨h', gn, dr, tk', os0⟩) : wpAny (model prog w) A tr Q E ⟨hp, gn, dr, tk0, os0⟩ := by
  refine wpAny_mono h1 (fun v s' x => ?_) fun _ _ e => e
  obtain ⟨tok, h', tk', news', rfl, rfl, hs, F', N'⟩ := x
  exact h2 tok h' tk' F' fun p hp => N' p (hs p hp)
theorem val_end {vf : Tok → Value} {v : Value} {news' : List (Addr × Obj)} {h' : Heap} {tk' : Nat} {tok : Tok} (e : v = vf tok) (F : Fr h₀ L h' m) (N : News h₀ L h' news') (hs : ∀ p ∈ news, p ∈ news') : ValEnd h₀ L m news gn dr os0 vf v ⟨h', gn, dr, tk', os0⟩ :=
  ⟨tok, h', tk', news', e, rfl, hs, F, N⟩
end
end Mine
end
section
open PySem PySem.W PyProof.Rows PySem.Spec PySem.Calls
set_option maxRecDepth 100000
namespace Mine
abbrev Led := List (Addr × Obj)
theorem chain7 {a b c d e f g : Nat} (h0 : a < b) (h1 : b < c) (h2 : c < d) (h3 : d < e) (h4 : e < f) (h5 : f < g) : (a < b) ∧ (a < c ∧ b < c) ∧ (a < d ∧ b < d ∧ c < d) ∧ (a < e ∧ b < e ∧ c < e ∧ d < e) ∧ (a < f ∧ b < f ∧ c < f ∧ d < f ∧ e < f) ∧ (a < g ∧ b < g ∧ c < g ∧ d < g ∧ e < g ∧ f < g) := by
  have t1 : a < b := h0
  have t2 : a < c ∧ b < c := ⟨Nat.lt_trans (t1) h1, h1⟩
  have t3 : a < d ∧ b < d ∧ c < d := ⟨Nat.lt_trans (t2.1) h2, Nat.lt_trans (t2.2) h2, h2⟩
  have t4 : a < e ∧ b < e ∧ c < e ∧ d < e := ⟨Nat.lt_trans (t3.1) h3, Nat.lt_trans (t3.2.1) h3, Nat.lt_trans (t3.2.2) h3, h3⟩
  have t5 : a < f ∧ b < f ∧ c < f ∧ d < f ∧ e < f := ⟨Nat.lt_trans (t4.1) h4, Nat.lt_trans (t4.2.1) h4, Nat.lt_trans (t4.2.2.1) h4, Nat.lt_trans (t4.2.2.2) h4, h4⟩
  have t6 : a < g ∧ b < g ∧ c < g ∧ d < g ∧ e < g ∧ f < g := ⟨Nat.lt_trans (t5.1) h5, Nat.lt_trans (t5.2.1) h5, Nat.lt_trans (t5.2.2.1) h5, Nat.lt_trans (t5.2.2.2.1) h5, Nat.lt_trans (t5.2.2.2.2) h5, h5⟩
  exact ⟨t1, t2, t3, t4, t5, t6⟩
theorem chain9 {a b c d e f g h i : Nat} (h0 : a < b) (h1 : b < c) (h2 : c < d) (h3 : d < e) (h4 : e < f) (h5 : f < g) (h6 : g < h) (h7 : h < i) : (a < b) ∧ (a < c ∧ b < c) ∧ (a < d ∧ b < d ∧ c < d) ∧ (a < e ∧ b < e ∧ c < e ∧ d < e) ∧ (a < f ∧ b < f ∧ c < f ∧ d < f ∧ e < f) ∧ (a < g ∧ b < g ∧ c < g ∧ d < g ∧ e < g ∧ f < g) ∧ (a < h ∧ b < h ∧ c < h ∧ d < h ∧ e < h ∧ f < h ∧ g < h) ∧ (a < i ∧ b < i ∧ c < i ∧ d < i ∧ e < i ∧ f < i ∧ g < i ∧ h < i) := by
  have t1 : a < b := h0
  have t2 : a < c ∧ b < c := ⟨Nat.lt_trans (t1) h1, h1⟩
  have t3 : a < d ∧ b < d ∧ c < d := ⟨Nat.lt_trans (t2.1) h2, Nat.lt_trans (t2.2) h2, h2⟩
  have t4 : a < e ∧ b < e ∧ c < e ∧ d < e := ⟨Nat.lt_trans (t3.1) h3, Nat.lt_trans (t3.2.1) h3, Nat.lt_trans (t3.2.2) h3, h3⟩
  have t5 : a < f ∧ b < f ∧ c < f ∧ d < f ∧ e < f := ⟨Nat.lt_trans (t4.1) h4, Nat.lt_trans (t4.2.1) h4, Nat.lt_trans (t4.2.2.1) h4, Nat.lt_trans (t4.2.2.2) h4, h4⟩
  have t6 : a < g ∧ b < g ∧ c < g ∧ d < g ∧ e < g ∧ f < g := ⟨Nat.lt_trans (t5.1) h5, Nat.lt_trans (t5.2.1) h5, Nat.lt_trans (t5.2.2.1) h5, Nat.lt_trans (t5.2.2.2.1) h5, Nat.lt_trans (t5.2.2.2.2) h5, h5⟩
  have t7 : a < h ∧ b < h ∧ c < h ∧ d < h ∧ e < h ∧ f < h ∧ g < h := ⟨Nat.lt_trans (t6.1) h6, Nat.lt_trans (t6.2.1) h6, Nat.lt_trans (t6.2.2.1) h6, Nat.lt_trans (t6.2.2.2.1) h6, Nat.lt_trans (t6.2.2.2.2.1) h6, Nat.lt_trans (t6.2.2.2.2.2) h6, h6⟩
  have t8 : a < i ∧ b < i ∧ c < i ∧ d < i ∧ e < i ∧ f < i ∧ g < i ∧ h < i := ⟨Nat.lt_trans (t7.1) h7, Nat.lt_trans (t7.2.1) h7, Nat.lt_trans (t7.2.2.1) h7, Nat.lt_trans (t7.2.2.2.1) h7, Nat.lt_trans (t7.2.2.2.2.1) h7, Nat.lt_trans (t7.2.2.2.2.2.1) h7, Nat.lt_trans (t7.2.2.2.2.2.2) h7, h7⟩
  exact ⟨t1, t2, t3, t4, t5, t6, t7, t8⟩
theorem below7 {a b c d e f g z : Nat} (tt : a < g ∧ b < g ∧ c < g ∧ d < g ∧ e < g ∧ f < g) (hh : g < z) : a < z ∧ b < z ∧ c < z ∧ d < z ∧ e < z ∧ f < z ∧ g < z := ⟨Nat.lt_trans (tt.1) hh, Nat.lt_trans (tt.2.1) hh, Nat.lt_trans (tt.2.2.1) hh, Nat.lt_trans (tt.2.2.2.1) hh, Nat.lt_trans (tt.2.2.2.2.1) hh, Nat.lt_trans (tt.2.2.2.2.2) hh, hh⟩
theorem below9 {a b c d e f g h i z : Nat} (tt : a < i ∧ b < i ∧ c < i ∧ d < i ∧ e < i ∧ f < i ∧ g < i ∧ h < i) (hh : i < z) : a < z ∧ b < z ∧ c < z ∧ d < z ∧ e < z ∧ f < z ∧ g < z ∧ h < z ∧ i < z := ⟨Nat.lt_trans (tt.1) hh, Nat.lt_trans (tt.2.1) hh, Nat.lt_trans (tt.2.2.1) hh, Nat.lt_trans (tt.2.2.2.1) hh, Nat.lt_trans (tt.2.2.2.2.1) hh, Nat.lt_trans (tt.2.2.2.2.2.1) hh, Nat.lt_trans (tt.2.2.2.2.2.2.1) hh, Nat.lt_trans (tt.2.2.2.2.2.2.2) hh, hh⟩
structure Stop (P : Prop) : Prop where
  out : P
theorem stop_here {P : Prop} (h : Stop P) : P := h.out
def Keep (h h' : Heap) (sub : Led) : Prop := ∀ b o, h.get? b = some o → b ∉ sub.map (·.1) → h'.get? b = some o
def Fresh (h : Heap) (sub sub' : Led) : Prop := ∀ p ∈ sub', p.1 ∈ sub.map (·.1) ∨ h.get? p.1 = none
def Ret (h₀ : Heap) (L : Addr) (m : Str → Option Value) (s : Shared) (sub : Led) (Post : Value → Led → Prop) (Q : Value → Shared → Prop) : Prop :=
  ∀ v sub' h' tk', Fr h₀ L h' m → Keep s.heap h' sub → News h₀ L h' sub' → Fresh s.heap sub sub' → Post v sub' → Q v { s with heap := h', toks := tk' }
def Con (w : World) (f : Addr) (vs : List Value) (sub : Led) (Post : Value → Led → Prop) (d u : Nat) : Prop :=
  ∀ (p : Program) (loose : List Str) (mean : ExcName → Option Value) (mg mb : Str → Option Value) (dp un : Nat) (gd : Option (List Code)) (cn : Str) (cs : Scope) (L a : Addr) (ccd : Value) (cl : List (Str × Addr)) (outer : List Env) (A₀ : Around) (base h₀ : Heap) (m : Str → Option Value) (s : Shared) (Q E : Value → Shared → Prop),
    Below A₀ base outer h₀ → Fr h₀ L s.heap m → (Mine.hd.heap_1 w.params).In h₀ → News h₀ L s.heap sub → Top p loose mean mg mb h₀ → cs.kind = .function → dp + d < recursionLimit → un + u < cLine →
    Ret h₀ L m s sub Post Q → wpAny (model PySem.Challenge.rw_sj0100_01.row.prog w) (ktrTop dp un gd cn cs L a ccd cl outer) (call (.ref f) vs) Q E s
def LeaveS (g : Heap) (s : Shared) (Post : Value → Led → Prop) (v : Value) (s' : Shared) : Prop :=
  ∃ L' m' sub' h' tk', s' = { s with heap := h', toks := tk' } ∧ Fr g L' h' m' ∧ News g L' h' sub' ∧ Post v sub'
theorem leaveS {g : Heap} {s : Shared} {Post : Value → Led → Prop} {v : Value} {L' : Addr} {m' : Str → Option Value} {sub' : Led} {h' : Heap} {tk' : Nat} (F : Fr g L' h' m') (N : News g L' h' sub') (P : Post v sub') :
    LeaveS g s Post v { s with heap := h', toks := tk' } := ⟨L', m', sub', h', tk', rfl, F, N, P⟩

section
variable {prog : Program} {w : World} {A₀ A : Around} {s : Shared} {base h₀ : Heap} {outer : List Env} {L : Addr} {m : Str → Option Value} {env : Env} {sub : Led} {K : Frag} {p : Program} {loose : List Str} {mean : ExcName → Option Value} {mg mb : Str → Option Value}
  {Q E : Value → Shared → Prop} {name qual : Str} {params : Arguments} {body : List Stmt} {scope : Scope} {dV kV doc pm cdv ct oc : Value} {an od : Option Addr} {osl : Array (Option Value)} {f : Addr} {vs : List Value} {binds : List (Str × Value)} {Post : Value → Led → Prop}

theorem ret_of (F : Fr h₀ L s.heap m) (N : News h₀ L s.heap sub) (hret : Ret h₀ L m s sub Post Q) {v : Value} {s' : Shared} (x : LeaveS (hideAll s.heap (sub.map (·.1))) s Post v s') : Q v s' := by
  obtain ⟨L', m', sub', h', tk', rfl, F', N', P⟩ := x
  have kp : Keep s.heap h' sub := fun b o e hb => F'.keep b o (hideAll_get _ e hb)
  have nm : ∀ b o, h₀.get? b = some o → b ∉ sub.map (·.1) := fun b o e q => by
    obtain ⟨p, hp, rfl⟩ := List.mem_map.mp q
    rw [(N p hp).2.2] at e; cases e
  have nL : L ∉ sub.map (·.1) := fun q => by
    obtain ⟨p, hp, e⟩ := List.mem_map.mp q
    exact (N p hp).2.1 e
  obtain ⟨oL, es, ep, hL, hLd, hLk, hLf⟩ := F.ns
  have F2 : Fr h₀ L h' m := ⟨⟨oL, es, ep, kp L oL hL nL, hLd, hLk, hLf⟩, fun b o e => kp b o (F.keep b o e) (nm b o e), F.above⟩
  refine hret v sub' h' tk' F2 kp (fun p hp => ⟨(N' p hp).1, fun q => ?_, ?_⟩) (fun p hp => ?_) P
  · have := (N' p hp).2.2; rw [q, hideAll_get _ hL nL] at this; cases this
  · cases q : h₀.get? p.1 with
    | none => rfl
    | some o => have := (N' p hp).2.2; rw [hideAll_get _ (F.keep _ _ q) (nm _ _ q)] at this; cases this
  · by_cases hq : p.1 ∈ sub.map (·.1)
    · exact .inl hq
    · refine .inr ?_
      cases q : s.heap.get? p.1 with
      | none => rfl
      | some o => have := (N' p hp).2.2; rw [hideAll_get _ q hq] at this; cases this

theorem con_enter (B : Below A₀ base outer h₀) (F : Fr h₀ L s.heap m) (X₀ : K.In h₀) (N : News h₀ L s.heap sub) (T : Top p loose mean mg mb h₀) (hret : Ret h₀ L m s sub Post Q)
    (hA : A.frames = some (env :: outer)) (hf : env.frame = some L) (hke : env.scope.kind = .function)
    (ho : K.lookup f = some ⟨oc, od, .func (fnOf name qual params body scope dV kV doc pm an cdv ct), osl⟩) (hcd : codeIn K cdv qual = true) (hroom : A.depth < recursionLimit)
    (hbind : BindsTo s (fnOf name qual params body scope dV kV doc pm an cdv ct) ⟨vs, []⟩ ((params.args.map (·.arg)).zip vs)) (hloc : ∀ y ∈ ((params.args.map (·.arg)).zip vs), scope.names.lookup y.1 = some .local)
    (h : ∀ g L' h₁ tk, Fr g L' h₁ (fun y => ((params.args.map (·.arg)).zip vs).reverse.lookup y) → News g L' h₁ sub → Below A base (env :: outer) g → K.In g → Top p loose mean mg mb g → AllLt L' sub →
      wpAny (model prog w) (A.deeper (envOf qual scope L' f cdv)) (execs body (envOf qual scope L' f cdv))
        (fun fl s' => LeaveS g s Post (match fl with | .ret v => v | _ => .none) s')
        (fun e s' => wpAny (model prog w) (A.deeper (envOf qual scope L' f cdv)) (leaving (envOf qual scope L' f cdv) e) (fun _ s'' => E e s'') (fun e' s'' => E e' s'') s')
        { s with heap := h₁, toks := tk })
    (hco : scope.isCoroutine = false) (hgen : scope.isGenerator = false) (hk : scope.kind = .function)
    (hcell : ∀ x ∈ scope.names, x.2 ≠ .cell) : wpAny (model prog w) A (call (.ref f) vs) Q E s := by
  obtain ⟨FG, BG, st, _⟩ := groundX (R := fun _ _ => True) B F N hA hf hke
  refine wpAny_call ?_
  refine codeAny_call_def (fd := fnOf name qual params body scope dV kV doc pm an cdv ct) (body := body) (binds := ((params.args.map (·.arg)).zip vs)) hroom ((X₀.keeps F.keep) _ _ ho) rfl (T.nolimit.keeps F.keep) (codeRec_of (X₀.keeps F.keep) hcd) rfl hbind hcell hloc (fun h₁ hns hk₁ => ?_) hco hgen hk
  exact wpAny_mono (h _ s.heap.objs.size h₁ _ ⟨hns, fun b o e => hk₁ b o (of_hideAll _ e), Nat.le_of_eq (hideAll_size _ _)⟩
    (fun p hp => ⟨hk₁ _ _ (N p hp).1, Nat.ne_of_lt (Heap.lt_size (N p hp).1), hideAll_none _ (List.mem_map_of_mem hp)⟩) BG (X₀.keeps st) (T.keeps st) (allLt_of fun p hp => Heap.lt_size (N p hp).1)) (fun fl s' hl => ret_of F N hret hl) fun _ _ y => y

theorem con_enterC (B : Below A₀ base outer h₀) (F : Fr h₀ L s.heap m) (X₀ : K.In h₀) (N : News h₀ L s.heap sub) (T : Top p loose mean mg mb h₀) (hret : Ret h₀ L m s sub Post Q)
    (hA : A.frames = some (env :: outer)) (hf : env.frame = some L) (hke : env.scope.kind = .function)
    (ho : K.lookup f = some ⟨oc, od, .func (fnOf name qual params body scope dV kV doc pm an cdv ct), osl⟩) (hcd : codeIn K cdv qual = true) (hroom : A.depth < recursionLimit)
    (hbind : BindsTo s (fnOf name qual params body scope dV kV doc pm an cdv ct) ⟨vs, []⟩ ((params.args.map (·.arg)).zip vs)) (hkind' : (((params.args.map (·.arg)).zip vs).all fun y => scope.names.lookup y.1 == some .local || scope.names.lookup y.1 == some .cell) = true)
    (hnd : ((cellsFrom 0 scope.names []).map (·.1)).Nodup)
    (h : ∀ g L' h₁ tk cells, Fr g L' h₁ (bindL (envOfC qual scope L' f cdv).kindOf ((params.args.map (·.arg)).zip vs) fun _ => none) → News g L' h₁ (cells ++ sub) →
      CellsAre (bindC (envOfC qual scope L' f cdv).kindOf ((params.args.map (·.arg)).zip vs) fun _ => none) (cellsFrom (L' + 1) scope.names []) cells → Below A base (env :: outer) g → K.In g → Top p loose mean mg mb g → AllLt L' sub →
      wpAny (model prog w) (A.deeper (envOfC qual scope L' f cdv)) (execs body (envOfC qual scope L' f cdv))
        (fun fl s' => LeaveS g s Post (match fl with | .ret v => v | _ => .none) s')
        (fun e s' => wpAny (model prog w) (A.deeper (envOfC qual scope L' f cdv)) (leaving (envOfC qual scope L' f cdv) e) (fun _ s'' => E e s'') (fun e' s'' => E e' s'') s')
        { s with heap := h₁, toks := tk })
    (hco : scope.isCoroutine = false) (hgen : scope.isGenerator = false) (hk : scope.kind = .function) : wpAny (model prog w) A (call (.ref f) vs) Q E s := by
  obtain ⟨FG, BG, st, _⟩ := groundX (R := fun _ _ => True) B F N hA hf hke
  refine wpAny_call ?_
  refine codeAny_call_function hroom ((X₀.keeps F.keep) _ _ ho) rfl hco hgen rfl (codeRec_of (X₀.keeps F.keep) hcd) (hbind _ _ _ _ ?_)
  refine wpAny_newFunctionEnv_cells hk (kindsX hkind' _) fun env' he s' x => ?_
  subst he
  refine ⟨(T.nolimit.keeps F.keep).keeps x.toInCall.keep, codeAny_func ?_⟩
  obtain ⟨h₁, tk, rfl, _⟩ := x.done
  have hk₁ := x.toInCall.keep
  obtain ⟨cells, NC, Y⟩ := Cl.news (h₀ := s.heap) (Nat.le_refl _) fun n c hm => ⟨x.cell n c (lookup_of_mem_nodup (cellsFrom_names scope.names 0 (s.heap.objs.size + 1) [] [] rfl ▸ hnd) hm), x.above n c hm⟩
  refine wpAny_mono (h _ s.heap.objs.size h₁ tk cells ⟨x.toInCall.ns, fun b o e => hk₁ b o (of_hideAll _ e), Nat.le_of_eq (hideAll_size _ _)⟩ (fun p hp => ?_) Y BG (X₀.keeps st) (T.keeps st) (allLt_of fun p hp => Heap.lt_size (N p hp).1)) (fun fl s' hl => ret_of F N hret hl) fun _ _ y => y
  rcases List.mem_append.mp hp with hp | hp
  · refine ⟨(NC p hp).1, (NC p hp).2.1, ?_⟩
    cases q : (hideAll s.heap (sub.map (·.1))).get? p.1 with
    | none => rfl
    | some o => have := of_hideAll _ q; rw [(NC p hp).2.2] at this; cases this
  · exact ⟨hk₁ _ _ (N p hp).1, Nat.ne_of_lt (Heap.lt_size (N p hp).1), hideAll_none _ (List.mem_map_of_mem hp)⟩
end

section
variable {w : World} {f : Addr} {vs : List Value} {sub news : Led} {Post : Value → Led → Prop} {d u : Nat} {p : Program} {loose : List Str} {mean : ExcName → Option Value} {mg mb : Str → Option Value} {dp un : Nat} {gd : Option (List Code)} {cn : Str} {cs : Scope} {L a : Addr} {ccd : Value} {cl : List (Str × Addr)} {outer : List Env} {A₀ : Around} {base h₀ : Heap} {m : Str → Option Value} {s : Shared} {Q E : Value → Shared → Prop}
theorem news_after {h h' : Heap} {sub' news' : Led} (N : News h₀ L h news) (K : Keep h h' sub) (N' : News h₀ L h' sub') (hs : ∀ p ∈ news', p ∈ sub' ∨ (p ∈ news ∧ p.1 ∉ sub.map (·.1))) : News h₀ L h' news' := fun p hp => by
  rcases hs p hp with q | ⟨q, hq⟩
  · exact N' p q
  · exact ⟨K _ _ (N p q).1 hq, (N p q).2⟩
theorem con_pure (c : Con w f vs [] Post d u) (B : Below A₀ base outer h₀) (F : Fr h₀ L s.heap m) (X : (Mine.hd.heap_1 w.params).In h₀) (N : News h₀ L s.heap news) (T : Top p loose mean mg mb h₀) (hk : cs.kind = .function) (hd : dp + d < recursionLimit) (hu : un + u < cLine)
    (r : ∀ v sub' h' tk', Fr h₀ L h' m → News h₀ L h' news → Post v sub' → Q v { s with heap := h', toks := tk' }) :
    wpAny (model PySem.Challenge.rw_sj0100_01.row.prog w) (ktrTop dp un gd cn cs L a ccd cl outer) (call (.ref f) vs) Q E s :=
  c p loose mean mg mb dp un gd cn cs L a ccd cl outer A₀ base h₀ m s Q E B F X News.nil T hk hd hu fun v sub' h' tk' F' K' _ _ P' => r v sub' h' tk' F' (fun p hp => ⟨K' _ _ (N p hp).1 (by simp), (N p hp).2⟩) P'
theorem con_read (c : Con w f vs sub Post d u) (hp : ∀ v sub', Post v sub' → ∀ p ∈ sub, p ∈ sub') (B : Below A₀ base outer h₀) (F : Fr h₀ L s.heap m) (X : (Mine.hd.heap_1 w.params).In h₀) (N : News h₀ L s.heap news) (hs : ∀ p ∈ sub, p ∈ news) (T : Top p loose mean mg mb h₀) (hk : cs.kind = .function) (hd : dp + d < recursionLimit) (hu : un + u < cLine)
    (r : ∀ v sub' h' tk', Fr h₀ L h' m → News h₀ L h' news → Post v sub' → Q v { s with heap := h', toks := tk' }) :
    wpAny (model PySem.Challenge.rw_sj0100_01.row.prog w) (ktrTop dp un gd cn cs L a ccd cl outer) (call (.ref f) vs) Q E s :=
  c p loose mean mg mb dp un gd cn cs L a ccd cl outer A₀ base h₀ m s Q E B F X (fun p hp => N p (hs p hp)) T hk hd hu fun v sub' h' tk' F' K' N' _ P' => r v sub' h' tk' F' (fun q hq => by
    by_cases hm : q.1 ∈ sub.map (·.1)
    · obtain ⟨p2, h2, e2⟩ := List.mem_map.mp hm
      have e3 : p2 = q := by
        have h4 := (N p2 (hs p2 h2)).1
        have e2' : p2.1 = q.1 := e2
        rw [e2', (N q hq).1] at h4
        exact Prod.ext e2 (Option.some.inj h4).symm
      exact N' q (hp _ _ P' q (e3 ▸ h2))
    · exact ⟨K' _ _ (N q hq).1 hm, (N q hq).2⟩) P'
theorem off1_of {D : Addr} : ∀ {l : Led}, (∀ p ∈ l, p.1 ≠ D) → LCg.Off1 D l
  | [], _ => trivial
  | q :: _, h => ⟨h q (.head _), off1_of fun p hp => h p (.tail _ hp)⟩
theorem con_new {P : Obj → Prop} (c : Con w f vs [] (fun v sub' => ∃ D o, v = .ref D ∧ P o ∧ (D, o) ∈ sub') d u) (B : Below A₀ base outer h₀) (F : Fr h₀ L s.heap m) (X : (Mine.hd.heap_1 w.params).In h₀) (N : News h₀ L s.heap news) (T : Top p loose mean mg mb h₀) (hk : cs.kind = .function) (hd : dp + d < recursionLimit) (hu : un + u < cLine)
    (r : ∀ (D : Addr) o h' tk', P o → Fr h₀ L h' m → News h₀ L h' ((D, o) :: news) → LCg.Off1 D news → Q (.ref D) { s with heap := h', toks := tk' }) :
    wpAny (model PySem.Challenge.rw_sj0100_01.row.prog w) (ktrTop dp un gd cn cs L a ccd cl outer) (call (.ref f) vs) Q E s :=
  c p loose mean mg mb dp un gd cn cs L a ccd cl outer A₀ base h₀ m s Q E B F X News.nil T hk hd hu fun v sub' h' tk' F' K' N' fr P' => by
    obtain ⟨D, o, rfl, hp, hm⟩ := P'
    refine r D o h' tk' hp F' (fun p hp => ?_) ?_
    · rcases List.mem_cons.mp hp with rfl | hp
      · exact N' _ hm
      · exact ⟨K' _ _ (N p hp).1 (by simp), (N p hp).2⟩
    · have hD : ∀ p ∈ news, p.1 ≠ D := fun p hp e => by
        rcases fr (D, o) hm with h | h
        · cases h
        · rw [show ((D, o) : Addr × Obj).1 = p.1 from e.symm, (N p hp).1] at h; cases h
      exact off1_of hD
theorem con_two {PP : Value → Obj → Prop} {j e : Addr} {o lst : Obj} {g : Obj → Led} (c : Con w f vs [(j, o), (e, lst)] (fun v sub' => ∃ o', PP v o' ∧ (j, o') ∈ sub' ∧ (e, lst) ∈ sub') d u) (B : Below A₀ base outer h₀) (F : Fr h₀ L s.heap m) (X : (Mine.hd.heap_1 w.params).In h₀) (N : News h₀ L s.heap news) (U : UpdF j o news g) (he : (e, lst) ∈ news) (T : Top p loose mean mg mb h₀) (hk : cs.kind = .function) (hd : dp + d < recursionLimit) (hu : un + u < cLine)
    (r : ∀ v o' h' tk', PP v o' → Fr h₀ L h' m → News h₀ L h' (g o') → Q v { s with heap := h', toks := tk' }) :
    wpAny (model PySem.Challenge.rw_sj0100_01.row.prog w) (ktrTop dp un gd cn cs L a ccd cl outer) (call (.ref f) vs) Q E s := by
  obtain ⟨pre, post, rfl, hg, ha, hb⟩ := U.split
  have hjm : (j, o) ∈ pre ++ (j, o) :: post := List.mem_append_right _ (.head _)
  refine c p loose mean mg mb dp un gd cn cs L a ccd cl outer A₀ base h₀ m s Q E B F X (fun p hp => ?_) T hk hd hu fun v sub' h' tk' F' K' N' _ P' => ?_
  · rcases List.mem_cons.mp hp with rfl | hp
    · exact N _ hjm
    · rw [List.mem_singleton.mp hp]; exact N _ he
  · obtain ⟨o', hp, hm1, hm2⟩ := P'
    refine r v o' h' tk' hp F' (hg o' ▸ fun q hq => ?_)
    have old : q ∈ pre ++ (j, o) :: post → q.1 ≠ j → h'.get? q.1 = some q.2 ∧ q.1 ≠ L ∧ h₀.get? q.1 = none := fun hq hne => by
      by_cases hqe : q.1 = e
      · have h1 := (N _ he).1
        have h2 := (N q hq).1
        rw [hqe] at h2
        rw [show ((e, lst) : Addr × Obj).1 = e from rfl, h2] at h1
        have e3 : q = (e, lst) := Prod.ext hqe (Option.some.inj h1)
        rw [e3]
        exact N' _ hm2
      · refine ⟨K' _ _ (N q hq).1 (fun hmem => ?_), (N q hq).2⟩
        rcases List.mem_cons.mp hmem with h1 | h1
        · exact hne h1
        · exact hqe (List.mem_singleton.mp h1)
    rcases List.mem_append.mp hq with q1 | q1
    · exact old (List.mem_append_left _ q1) (ha q q1)
    · rcases List.mem_cons.mp q1 with rfl | q1
      · exact N' _ hm1
      · exact old (List.mem_append_right _ (.tail _ q1)) (hb q q1)
theorem con_led (c : Con w f vs sub Post d u) (B : Below A₀ base outer h₀) (F : Fr h₀ L s.heap m) (X : (Mine.hd.heap_1 w.params).In h₀) (N : News h₀ L s.heap news) (hs : ∀ p ∈ sub, p ∈ news) (T : Top p loose mean mg mb h₀) (hk : cs.kind = .function) (hd : dp + d < recursionLimit) (hu : un + u < cLine)
    (r : ∀ v sub' h' tk', Fr h₀ L h' m → Post v sub' → (∀ news' : Led, (∀ p ∈ news', p ∈ sub' ∨ (p ∈ news ∧ p.1 ∉ sub.map (·.1))) → News h₀ L h' news') → (∀ q ∈ sub', (∀ p ∈ sub, p.1 ≠ q.1) → ∀ p ∈ news, p.1 ≠ q.1) → Q v { s with heap := h', toks := tk' }) :
    wpAny (model PySem.Challenge.rw_sj0100_01.row.prog w) (ktrTop dp un gd cn cs L a ccd cl outer) (call (.ref f) vs) Q E s :=
  c p loose mean mg mb dp un gd cn cs L a ccd cl outer A₀ base h₀ m s Q E B F X (fun p hp => N p (hs p hp)) T hk hd hu fun v sub' h' tk' F' K' N' fr P' => r v sub' h' tk' F' P' (fun _ hn => news_after N K' N' hn) fun q hq hne p hp e => by
    rcases fr q hq with h | h
    · obtain ⟨p2, h2, e2⟩ := List.mem_map.mp h
      exact hne p2 h2 e2
    · rw [← e, (N p hp).1] at h; cases h
end
end Mine
end
section
open PySem PySem.W PyProof.Rows PySem.Spec PySem.Calls
namespace Mine
def RR : Nat := 10 ^ 1000
def flat (bl : List PySem.Str) : List Nat := (bl.map (·.cps.toList)).flatten
theorem flat_rev_snoc (bl : List PySem.Str) (l : List Nat) : flat (bl ++ [T l]).reverse = l ++ flat bl.reverse := by
  unfold flat
  rw [List.reverse_append]
  simp [T_list]
theorem RR_pos : 0 < RR := Nat.pow_pos (by decide)
theorem fmodR {q : Nat} {R : Int} (hR : R = (RR : Int)) : Int.fmod q R = ((q % RR : Nat) : Int) := by subst hR; rw [Int.fmod_eq_emod_of_nonneg _ (by omega)]; rfl
theorem fdivR {q : Nat} {R : Int} (hR : R = (RR : Int)) : Int.fdiv q R = ((q / RR : Nat) : Int) := by subst hR; rw [Int.fdiv_eq_ediv_of_nonneg _ (by omega)]; rfl
theorem ltR {q : Nat} {R : Int} (hR : R = (RR : Int)) (h : ¬ R ≤ q) : q < 10 ^ 1000 := by subst hR; exact (by omega : q < RR)
theorem lt_mod {q : Nat} : q % RR < 10 ^ 1000 := Nat.mod_lt _ RR_pos
theorem lenR (q : Nat) : (dg (q % RR)).length ≤ 1000 := dg_len_le (by decide) lt_mod
def FigW (n : Nat) (number : Int) (bl : List PySem.Str) : Prop := ∃ q : Nat, number = q ∧ dg q ++ flat bl.reverse = dg n ∧ bl.length + (dg q).length ≤ (dg n).length
theorem fig_start (n : Nat) : FigW n n [] := ⟨n, rfl, by simp [flat], by simp⟩
theorem fig_step {n q : Nat} {R : Int} {bl : List PySem.Str} (hR : R = (RR : Int)) (hge : R ≤ q) (h1 : dg q ++ flat bl.reverse = dg n) (h2 : bl.length + (dg q).length ≤ (dg n).length) :
    FigW n (Int.fdiv q R) (bl ++ [T (List.replicate (1000 - (dg (q % RR)).length) 48 ++ dg (q % RR))]) := by
  have hq : 0 < q / RR := Nat.div_pos (by subst hR; omega) RR_pos
  have hb : dg q = dg (q / RR) ++ pad 1000 (q % RR) := by
    have := dg_block (k := 1000) (q := q / RR) (r := q % RR) (by decide) hq lt_mod
    rw [show 10 ^ 1000 = RR from rfl, Nat.mul_comm, Nat.div_add_mod] at this
    exact this
  refine ⟨q / RR, fdivR hR, ?_, ?_⟩
  · rw [flat_rev_snoc, ← List.append_assoc, ← h1, hb]
    rfl
  · rw [hb, List.length_append, pad_len (by decide) lt_mod] at h2
    rw [List.length_append, List.length_singleton]
    omega
theorem fig_less {q : Nat} {R : Int} (hR : R = (RR : Int)) (hge : R ≤ q) : (Int.fdiv q R).toNat < (q : Int).toNat := by
  rw [fdivR hR, Int.toNat_natCast, Int.toNat_natCast]
  have h2 : 1 < RR := Nat.one_lt_pow (by decide) (by decide)
  exact Nat.div_lt_self (by subst hR; omega) h2
local macro_rules | `(tactic| kst_facts1) => `(tactic| first | exact True.intro | exact PyProof.Rows.StrsAre.nil | with_reducible assumption | exact PyProof.Rows.StrsAre.append' (by assumption) (.cons _ _ .nil))
theorem fig_sub (q : Nat) : (1000 : Int) - ((dg (q % RR)).length : Int) = ((1000 - (dg (q % RR)).length : Nat) : Int) := by have := lenR q; omega
theorem fig_sz (q : Nat) : (List.replicate (1000 - (dg (q % RR)).length) 48).length + (dg (q % RR)).length ≤ 1000000 := by have := lenR q; rw [List.length_replicate]; omega
theorem strs_push {vs : List Value} {ys : List PySem.Str} (h : StrsAre vs ys) (y : PySem.Str) (t : Tok) : StrsAre (vs.toArray.push (.str y t)).toList (ys ++ [y]) := by
  rw [Array.toList_push]
  exact PyProof.Rows.StrsAre.append' h (.cons _ _ .nil)
theorem strs_rev {vs : List Value} {ys : List PySem.Str} (h : StrsAre vs ys) : StrsAre vs.reverse ys.reverse := by
  induction h with
  | nil => exact .nil
  | cons y t r ih =>
    rw [List.reverse_cons, List.reverse_cons]
    exact PyProof.Rows.StrsAre.append' ih (.cons _ _ .nil)
theorem join_R {prog : Program} {w : World} {A : Around} {E : Value → Shared → Prop} {s : Shared} {h₀ : Heap} {L D : Addr} {Q : Value → Shared → Prop} {t : Tok} {news : Led} {items : Array Value} {ys : List PySem.Str} {l : List Nat} {k : Nat}
    (N : News h₀ L s.heap news) (hm : (D, ({ cls := .type "list", data := .seq (slicePick items none none (some (-1))) k } : Obj)) ∈ news) (hi : StrsAre items.toList ys) (e : flat ys.reverse = l) (hl : l.length ≤ 1000000) (hn : ys.length ≤ 1000000)
    (h : ∀ t' k, Q (.str (T l) t') { s with toks := k }) : wpAny (model prog w) A (call (.builtin "str.join") [.str (Str.ofString "") t, .ref D]) Q E s := by
  rw [krv_pick] at hm
  have hL : s.heap.IsList D (items.toList.reverse).toArray := ⟨_, (N _ hm).1, rfl, k, rfl⟩
  subst e
  exact join_T hL (strs_rev hi) hl (by rw [List.length_reverse]; exact hn) h
theorem fig_join {n q : Nat} {bl : List PySem.Str} (h1 : dg q ++ flat bl.reverse = dg n) : flat (bl ++ [T (dg q)]).reverse = dg n := by rw [flat_rev_snoc]; exact h1
theorem fig_len {n q : Nat} {bl : List PySem.Str} (hn : (dg n).length ≤ 100000) (h2 : bl.length + (dg q).length ≤ (dg n).length) : (bl ++ [T (dg q)]).length ≤ 1000000 := by
  rw [List.length_append, List.length_singleton]; omega
set_option maxRecDepth 100000 in
set_option maxHeartbeats 8000000 in
theorem figures_con (w : World) (n : Nat) (hn : (dg n).length ≤ 100000) (t : Tok) : Con w 177 [.int n t] [] (fun v _ => ∃ t', v = .str (T (dg n)) t') 2 64 := by
  k_with_none
  k_with "call type:str" => ((with_reducible show wpAny _ _ (call (Value.type "str") [Value.int _ _]) _ _ _); first | (refine str_nat (fmodR (by decide +kernel)) lt_mod rfl (by assumption) (by assumption) ?_; intro _) | (refine' str_nat rfl (ltR ?hR ?hA) rfl (by assumption) (by assumption) ?_; (case hA => assumption); (case hR => decide +kernel); intro _))
  k_with "call builtin:len" => ((with_reducible show wpAny _ _ (call (Value.builtin "len") [Value.str (T _) _]) _ _ _); refine len_T (Nat.le_trans (lenR _) (by decide)) ?_; intro _ _)
  k_with "binaryOp Mult str int" => (refine mul_X (c := 48) (by decide +kernel) (fig_sub _) (by omega) ?_; intro _ _)
  k_with "binaryOp Add str str" => (refine add_T (fig_sz _) ?_; intro _ _)
  k_with "exec While Compare cons nil" => refine stop_here ?_
  k_with "state" => exact fig_start n
  w_on
  unfold Con
  k_fill
  intro p loose mean mg mb dp un gd cn cs L a ccd cl outer A₀ base h₀ m s Q E B F X N Tp hk hd hu hret
  w_strict ((refine' con_enter ?k1 ?k2 ?k3 ?k4 ?k5 ?kR ?kA ?kF ?kK ?k6 ?k7 ?k8 ?k9 ?kB ?_ ?c2 ?c3 ?c4 ?c5; (case kR => assumption); (case kA => exact rfl); (case kF => exact rfl); (case kK => assumption); (case k1 => k_asm); (case k2 => k_asm); (case k3 => k_asm); (case k4 => k_asm); (case k5 => k_asm); (case k6 => k_is); (case k7 => k_is); (case k8 => ktr_room); (case k9 => exact BindsTo.of_eq rfl); (case c5 => decide); (case kB => exact locs rfl); (case c2 => exact rfl); (case c3 => exact rfl); (case c4 => exact rfl); k_whole; intro g' L' h' tk' F' N' B' X' T' l0; simp only [AllLt, and_true] at l0; (try dsimp only); (try k_lift B'); (try k_fold)); k_steps)
  refine ⟨?_⟩
  w_strict (k_while (fun _ number blocks => FigW n number blocks) (fun _ number _ => number.toNat) "number" "blocks$")
  k_with_none
  k_with "call type:str" => ((with_reducible show wpAny _ _ (call (Value.type "str") [Value.int _ _]) _ _ _); first | (refine str_nat (fmodR (by decide +kernel)) lt_mod rfl (by assumption) (by assumption) ?_; intro _) | (refine' str_nat rfl (ltR ?hR ?hA) rfl (by assumption) (by assumption) ?_; (case hA => assumption); (case hR => decide +kernel); intro _))
  k_with "call builtin:len" => ((with_reducible show wpAny _ _ (call (Value.builtin "len") [Value.str (T _) _]) _ _ _); refine len_T (Nat.le_trans (lenR _) (by decide)) ?_; intro _ _)
  k_with "binaryOp Mult str int" => (refine mul_X (c := 48) (by decide +kernel) (fig_sub _) (by omega) ?_; intro _ _)
  k_with "binaryOp Add str str" => (refine add_T (fig_sz _) ?_; intro _ _)
  obtain ⟨q, rfl, hq1, hq2⟩ := kInv
  k_with "state" => exact fig_step (by decide +kernel) (by assumption) hq1 hq2
  k_with "measure" => exact fig_less (by decide +kernel) (by assumption)
  w_strict k_steps
  · refine join_R (by assumption) (List.Mem.head _) (strs_push kFacts _ _) (fig_join hq1) (by omega) (fig_len hn hq2) ?_
    intro t9 k9
    ((try dsimp only); (try k_unfold); (try dsimp only); (refine leaveS (by assumption) (by assumption) ?_))
    exact ⟨t9, rfl⟩
end Mine
end
section
open PySem PySem.W PyProof.Rows PySem.Spec PySem.Calls PySem.NumText
set_option autoImplicit false
namespace Mine
local macro_rules | `(tactic| walk_at "no such key") => `(tactic| fail)
theorem slice_pc {prog : Program} {w : World} {A : Around} {E : Value → Shared → Prop} {s : Shared} {h₀ : Heap} {L : Addr} {m : Str → Option Value} {Q : Value → Shared → Prop} {t : Tok} {value slice : PySem.Expr} {news : List (Addr × Obj)} {l : List Nat} {b z : Nat} {ui uj : Tok} (hF : Fr h₀ L s.heap m) (hN : News h₀ L s.heap news) (hl : l.length ≤ 1000000) (hb : b < l.length)
    (h : ∀ h' t' k, Fr h₀ L h' m → News h₀ L h' news → Q (.str (T (Pc l z b)) t') { s with heap := h', toks := k })
    (hs : subscripted slice false (.str (T l) t) (.ref s.heap.objs.size) = operate [.ref s.heap.objs.size, .str (T l) t] (getItem (.str (T l) t) (.ref s.heap.objs.size)) := by with_unfolding_all rfl)
    (ht : ∀ r, letTemporaryGo value (.str (T l) t) r = pure () := by intro _; with_unfolding_all rfl) :
    wpAny (model prog w) A (subscriptTail value slice (.str (T l) t) (.ref s.heap.objs.size)) Q E { s with heap := s.heap.push { cls := .type "slice", data := .fields #[.int (b : Int) ui, .int ((b : Int) + (z : Int)) uj, .none] } } :=
  slice_ss hF hN hl (clip_nat (by omega)) clip_add (by omega) (by omega) h hs ht
set_option maxRecDepth 100000 in
set_option maxHeartbeats 8000000 in
theorem worth_con (w : World) (n : Nat) (hn : (dg n).length ≤ 100000) (z : Nat) (h1 : 80 ≤ z) (h2 : z ≤ 100) (t u : Tok) : Con w 860 [.str (T (dg n)) t, .int (z : Int) u] [] (fun v _ => ∃ t', v = .int n t') 2 64 := by
  k_with_none
  k_with "eval ListComp" => (k_dflt (refine ListComp_dig (F₀ := by k_asm) (by with_unfolding_all rfl) (by decide) (by rfl) (by decide) (by rfl) ?_))
  k_with "DigSrc" => (refine DigSrc.intro rfl (by assumption) (by assumption) ?_; intro g9)
  k_with "call builtin:str.count" => (refine SC.count ?_)
  k_with "call builtin:len" => ((with_reducible show wpAny _ _ (call (Value.builtin "len") [Value.str (T _) _]) _ _ _); refine len_T (by omega) ?_; intro _ _)
  k_with "subscriptTail Name Slice str ref" => ((with_reducible rename Fr _ _ _ _ => F'); (with_reducible rename News _ _ _ _ => N'); (refine slice_pc (s := ⟨_, _, _, _, _⟩) F' N' (by omega) (by omega) ?_); intro h' t' k' F' N')
  k_with "binaryOp Pow int int" => (refine pow_N (by omega) ?_)
  k_with "binaryOp Mult int int" => (refine mul_N _ _ (val_take_lt (dg_digits _) _) (pow_lt_succ _) (by omega) ?_)
  k_with "call type:int" => (refine int_T (AllDigits.pc (dg_digits _) _ _) (by assumption) (by omega) ?_)
  k_with "isTrue BoolOp" => refine stop_here ?_
  w_on
  unfold Con
  k_fill
  intro p loose mean mg mb dp un gd cn cs L a ccd cl outer A₀ base h₀ m s Q E B F X N Tp hk hd hu hret
  w_strict ((refine' con_enterC ?k1 ?k2 ?k3 ?k4 ?k5 ?kR ?kA ?kF ?kK ?k6 ?k7 ?k8 ?k9 ?kB ?kD ?_ ?c2 ?c3 ?c4; (case kR => assumption); (case kA => exact rfl); (case kF => exact rfl); (case kK => assumption); (case k1 => k_asm); (case k2 => k_asm); (case k3 => k_asm); (case k4 => k_asm); (case k5 => k_asm); (case k6 => k_is); (case k7 => k_is); (case k8 => ktr_room); (case k9 => exact BindsTo.of_eq rfl); (case kB => exact rfl); (case kD => decide +kernel); (case c2 => exact rfl); (case c3 => exact rfl); (case c4 => exact rfl); k_whole; intro g' L' h' tk' cells' F' N' Y' B' X' T' l0; simp only [AllLt, and_true] at l0; k_cells Y'; (try simp only [List.cons_append, List.nil_append] at N'); (try dsimp only); (try k_lift B'); (try k_fold)); k_steps)
  k_with_none
  k_with "eval ListComp" => (k_dflt (refine ListComp_dig (F₀ := by k_asm) (by with_unfolding_all rfl) (by decide) (by rfl) (by decide) (by rfl) ?_))
  k_with "DigSrc" => (refine DigSrc.intro rfl (by assumption) (by assumption) ?_; intro g9)
  k_with "call builtin:str.count" => (refine SC.count ?_)
  k_with "call builtin:len" => ((with_reducible show wpAny _ _ (call (Value.builtin "len") [Value.str (T _) _]) _ _ _); refine len_T (by omega) ?_; intro _ _)
  k_with "subscriptTail Name Slice str ref" => ((with_reducible rename Fr _ _ _ _ => F'); (with_reducible rename News _ _ _ _ => N'); (refine slice_pc (s := ⟨_, _, _, _, _⟩) F' N' (by omega) (by omega) ?_); intro h' t' k' F' N')
  k_with "binaryOp Pow int int" => (refine pow_N (by omega) ?_)
  k_with "binaryOp Mult int int" => (refine mul_N _ _ (val_take_lt (dg_digits _) _) (pow_lt_succ _) (by omega) ?_)
  k_with "call type:int" => (refine int_T (AllDigits.pc (dg_digits _) _ _) (by assumption) (by omega) ?_)
  refine ⟨?_⟩
  refine test_is (c := false) (by assumption) (by assumption) ?_ ?_
  · w_strict k_steps
    all_goals first
      | exact absurd (by assumption) (worth_a n)
      | exact (worth_b (by assumption) (by assumption)).elim
      | exact test_end rfl (by assumption) (by assumption) (fun p hp => hp)
  intro h9 tk9 F9 N9
  w_strict k_steps
  refine cr_ints (fun i => cnt (48 + i) (dg n)) ?_ ?_
  · intro i v I oI C oC D m₂ ys h8 tk8 E' hi hv hC hx F8 N8 off ne
    obtain ⟨u8, rfl⟩ := sign_at hv hi
    simp only [LCg.Off3, and_true] at off
    w_strict k_steps
    all_goals first | exact congrArg (Value.int · _) (count_cnt (dg n) (48 + i)) | skip
  intro ys hys
  k_with "pyIter ref" => refine stop_here ?_
  w_strict k_steps
  · exact (sum_absurd (by assumption)).elim
  k_with_none
  k_with "eval ListComp" => (k_dflt (refine ListComp_dig (F₀ := by k_asm) (by with_unfolding_all rfl) (by decide) (by rfl) (by decide) (by rfl) ?_))
  k_with "DigSrc" => (refine DigSrc.intro rfl (by assumption) (by assumption) ?_; intro g9)
  k_with "call builtin:str.count" => (refine SC.count ?_)
  k_with "call builtin:len" => ((with_reducible show wpAny _ _ (call (Value.builtin "len") [Value.str (T _) _]) _ _ _); refine len_T (by omega) ?_; intro _ _)
  k_with "subscriptTail Name Slice str ref" => ((with_reducible rename Fr _ _ _ _ => F'); (with_reducible rename News _ _ _ _ => N'); (refine slice_pc (s := ⟨_, _, _, _, _⟩) F' N' (by omega) (by omega) ?_); intro h' t' k' F' N')
  k_with "binaryOp Pow int int" => (refine pow_N (by omega) ?_)
  k_with "binaryOp Mult int int" => (refine mul_N _ _ (val_take_lt (dg_digits _) _) (pow_lt_succ _) (by omega) ?_)
  k_with "call type:int" => (refine int_T (AllDigits.pc (dg_digits _) _ _) (by assumption) (by omega) ?_)
  refine ⟨?_⟩
  have hl1 := dg_pos n
  refine rng_acc (k := Wk (dg n) z) (y := Str.ofString "found") (x₀ := 0) [Str.ofString "piece"] (WP (dg n) z) rfl (by assumption) (wk_small hn (by omega) h2 hl1) (wk_size hl1 (by omega)) (by assumption) (by assumption) (by with_unfolding_all rfl) (wp_zero _ _) ?_ ?_
  · intro i v tv tt uu h7 tk7 own hi hv hoff F7 N7
    dsimp only [kstB] at F7
    have hb := wk_lt hl1 hi
    obtain ⟨a, rfl, ha, hstep⟩ := wp_step hv
    have hp := pc_len (l := dg n) (z := z) hb (by omega) h2
    have hp0 : Pc (dg n) z (i * z) ≠ [] := by
      intro e
      rw [e] at hp
      exact absurd hp.1 (by decide)
    obtain ⟨hp1, hp2⟩ := hp
    subst ha
    w_strict k_steps
    refine rng_end (by assumption) (by assumption) (fun p hp => hp) (by with_unfolding_all rfl) ?_ hstep
    intro q q1 q2 q3
    simp only [List.contains_cons, List.contains_nil, Bool.or_false, beq_eq_false_iff_ne, ne_eq] at q3
    simp [q1, q2, q3]
  · intro v tv uu h6 tk6 hv F6 N6
    dsimp only [kstB] at F6
    have e := wp_done (by omega) hv
    subst e
    w_strict k_steps
    ((try dsimp only); (try k_unfold); (try dsimp only); (refine leaveS (by assumption) (by assumption) ?_))
    exact ⟨_, rfl⟩
end Mine
end
section
open PySem PySem.W PyProof.Rows PySem.Spec PySem.Calls PySem.NumText
set_option autoImplicit false
namespace Mine
abbrev tupO (x y : Int) (tx ty : Tok) (k : Nat) : Obj := { cls := .type "tuple", data := .seq #[.int x tx, .int y ty] k }
def ratioL (x y : Int) : List Nat :=
  let core := if y = 1 then dg x.natAbs else [40, 47, 32] ++ dg x.natAbs ++ [32] ++ dg y.natAbs ++ [41]
  if x < 0 then [40, 45, 32] ++ core ++ [41] else core
theorem fig_abs (w : World) (x : Int) (h : (dg x.natAbs).length ≤ 100000) (t : Tok) : Con w 177 [.int (if x < 0 then -x else x) t] [] (fun v _ => ∃ t', v = .str (T (dg x.natAbs)) t') 2 64 := by
  have e : (if x < 0 then -x else x) = ((x.natAbs : Nat) : Int) := by split <;> omega
  rw [e]
  exact figures_con w x.natAbs h t
theorem fig_pos (w : World) (y : Int) (hy : 1 ≤ y) (h : (dg y.natAbs).length ≤ 100000) (t : Tok) : Con w 177 [.int y t] [] (fun v _ => ∃ t', v = .str (T (dg y.natAbs)) t') 2 64 := by
  have e : y = ((y.natAbs : Nat) : Int) := by omega
  have := figures_con w y.natAbs h t
  rw [← e] at this
  exact this
theorem la : Str.ofString "(/ " = T [40, 47, 32] := by decide +kernel
theorem lb : Str.ofString " " = T [32] := by decide +kernel
theorem lc : Str.ofString ")" = T [41] := by decide +kernel
theorem ld' : Str.ofString "(- " = T [40, 45, 32] := by decide +kernel
theorem le' : Str.ofString ".0" = T [46, 48] := by decide +kernel
theorem lf : Str.ofString ".0 " = T [46, 48, 32] := by decide +kernel
theorem lg : Str.ofString ".0)" = T [46, 48, 41] := by decide +kernel
theorem lh : Str.empty = T [] := by decide +kernel
set_option maxRecDepth 100000 in
set_option maxHeartbeats 8000000 in
theorem ratio_con (w : World) (a₁ : Addr) (x y : Int) (tx ty : Tok) (k : Nat) (hx : (dg x.natAbs).length ≤ 40000) (hy : (dg y.natAbs).length ≤ 40000) (hy1 : 1 ≤ y) :
    Con w 184 [.ref a₁] [(a₁, tupO x y tx ty k)] (fun v sub' => (∀ p ∈ [(a₁, tupO x y tx ty k)], p ∈ sub') ∧ ∃ t', v = .str (T (ratioL x y)) t') 6 128 := by
  k_with_none
  k_with "le" => (simp only [la, lb, lc, ld', le', lf, lg, lh, T_app, T_len, List.length_append, List.length_cons, List.length_nil, sizeLine_eq]; omega)
  k_with "formatField str" => (k_dflt (refine formatField_str (hsz := ?z) ?_); (case z => walk_at "le"); intro _ _)
  k_with "joinParts" => ((first | (with_reducible show wpAny _ _ (joinParts _ []) _ _ _) | (with_reducible show wpAny _ _ (joinParts _ (evalEach [] _)) _ _ _)); k_dflt (refine joinParts_nil ?_ (by walk_at "le")))
  k_with "call ref" => ((first | k_dflt ((refine' con_pure (fig_abs _ _ (by omega) _) ?k1 ?k2 ?k3 ?k4 ?k5 ?kK ?kd ?ku ?_; (case k1 => k_asm); (case k2 => k_asm); (case k3 => k_asm); (case k4 => k_asm); (case k5 => k_asm); (case kK => first | exact rfl | assumption); (case kd => ktr_room); (case ku => ktr_units))) | k_dflt ((refine' con_pure (fig_pos _ _ (by omega) (by omega) _) ?k1 ?k2 ?k3 ?k4 ?k5 ?kK ?kd ?ku ?_; (case k1 => k_asm); (case k2 => k_asm); (case k3 => k_asm); (case k4 => k_asm); (case k5 => k_asm); (case kK => first | exact rfl | assumption); (case kd => ktr_room); (case ku => ktr_units)))); intro v9 sub9 h9 tk9 F9 N9 p9; obtain ⟨t9, e9⟩ := p9; subst e9; (try dsimp only); (try k_fold))
  w_on
  unfold Con
  k_fill
  intro p loose mean mg mb dp un gd cn cs L a ccd cl outer A₀ base h₀ m s Q E B F X N Tp hk hd hu hret
  w_strict ((refine' con_enter ?k1 ?k2 ?k3 ?k4 ?k5 ?kR ?kA ?kF ?kK ?k6 ?k7 ?k8 ?k9 ?kB ?_ ?c2 ?c3 ?c4 ?c5; (case kR => assumption); (case kA => exact rfl); (case kF => exact rfl); (case kK => assumption); (case k1 => k_asm); (case k2 => k_asm); (case k3 => k_asm); (case k4 => k_asm); (case k5 => k_asm); (case k6 => k_is); (case k7 => k_is); (case k8 => ktr_room); (case k9 => exact BindsTo.of_eq rfl); (case c5 => decide); (case kB => exact locs rfl); (case c2 => exact rfl); (case c3 => exact rfl); (case c4 => exact rfl); k_whole; intro g' L' h' tk' F' N' B' X' T' l0; simp only [AllLt, and_true] at l0; (try dsimp only); (try k_lift B'); (try k_fold)); k_steps)
  all_goals (((try dsimp only); (try k_unfold); (try dsimp only); (refine leaveS (by assumption) (by assumption) ?_)); refine ⟨by lcg_sub, _, congrArg (Value.str · _) ?_⟩; (try simp only [la, lb, lc, ld', le', lf, lg, lh, T_app, List.nil_append]); refine congrArg T ?_; unfold ratioL; simp_all <;> (intros; omega))
def realL (x y : Int) : List Nat :=
  let core := if y = 1 then dg x.natAbs ++ [46, 48] else [40, 47, 32] ++ dg x.natAbs ++ [46, 48, 32] ++ dg y.natAbs ++ [46, 48, 41]
  if x < 0 then [40, 45, 32] ++ core ++ [41] else core
set_option maxRecDepth 100000 in
set_option maxHeartbeats 8000000 in
theorem real_con (w : World) (a₁ : Addr) (x y : Int) (tx ty : Tok) (k : Nat) (hx : (dg x.natAbs).length ≤ 40000) (hy : (dg y.natAbs).length ≤ 40000) (hy1 : 1 ≤ y) :
    Con w 191 [.ref a₁] [(a₁, tupO x y tx ty k)] (fun v sub' => (∀ p ∈ [(a₁, tupO x y tx ty k)], p ∈ sub') ∧ ∃ t', v = .str (T (realL x y)) t') 6 128 := by
  k_with_none
  k_with "le" => (simp only [la, lb, lc, ld', le', lf, lg, lh, T_app, T_len, List.length_append, List.length_cons, List.length_nil, sizeLine_eq]; omega)
  k_with "formatField str" => (k_dflt (refine formatField_str (hsz := ?z) ?_); (case z => walk_at "le"); intro _ _)
  k_with "joinParts" => ((first | (with_reducible show wpAny _ _ (joinParts _ []) _ _ _) | (with_reducible show wpAny _ _ (joinParts _ (evalEach [] _)) _ _ _)); k_dflt (refine joinParts_nil ?_ (by walk_at "le")))
  k_with "call ref" => ((first | k_dflt ((refine' con_pure (fig_abs _ _ (by omega) _) ?k1 ?k2 ?k3 ?k4 ?k5 ?kK ?kd ?ku ?_; (case k1 => k_asm); (case k2 => k_asm); (case k3 => k_asm); (case k4 => k_asm); (case k5 => k_asm); (case kK => first | exact rfl | assumption); (case kd => ktr_room); (case ku => ktr_units))) | k_dflt ((refine' con_pure (fig_pos _ _ (by omega) (by omega) _) ?k1 ?k2 ?k3 ?k4 ?k5 ?kK ?kd ?ku ?_; (case k1 => k_asm); (case k2 => k_asm); (case k3 => k_asm); (case k4 => k_asm); (case k5 => k_asm); (case kK => first | exact rfl | assumption); (case kd => ktr_room); (case ku => ktr_units)))); intro v9 sub9 h9 tk9 F9 N9 p9; obtain ⟨t9, e9⟩ := p9; subst e9; (try dsimp only); (try k_fold))
  w_on
  unfold Con
  k_fill
  intro p loose mean mg mb dp un gd cn cs L a ccd cl outer A₀ base h₀ m s Q E B F X N Tp hk hd hu hret
  w_strict ((refine' con_enter ?k1 ?k2 ?k3 ?k4 ?k5 ?kR ?kA ?kF ?kK ?k6 ?k7 ?k8 ?k9 ?kB ?_ ?c2 ?c3 ?c4 ?c5; (case kR => assumption); (case kA => exact rfl); (case kF => exact rfl); (case kK => assumption); (case k1 => k_asm); (case k2 => k_asm); (case k3 => k_asm); (case k4 => k_asm); (case k5 => k_asm); (case k6 => k_is); (case k7 => k_is); (case k8 => ktr_room); (case k9 => exact BindsTo.of_eq rfl); (case c5 => decide); (case kB => exact locs rfl); (case c2 => exact rfl); (case c3 => exact rfl); (case c4 => exact rfl); k_whole; intro g' L' h' tk' F' N' B' X' T' l0; simp only [AllLt, and_true] at l0; (try dsimp only); (try k_lift B'); (try k_fold)); k_steps)
  all_goals (((try dsimp only); (try k_unfold); (try dsimp only); (refine leaveS (by assumption) (by assumption) ?_)); refine ⟨by lcg_sub, _, congrArg (Value.str · _) ?_⟩; (try simp only [la, lb, lc, ld', le', lf, lg, lh, T_app, List.nil_append]); refine congrArg T ?_; unfold realL; simp_all <;> (intros; omega))
end Mine
end
section
open PySem PySem.W PyProof.Rows PySem.Spec PySem.Calls PySem.NumText
set_option autoImplicit false
namespace Mine
local macro_rules | `(tactic| walk_at "no such key") => `(tactic| fail)
def ahL (b : Bool) : List Nat := if b then [40, 45, 32] else []
def beL (b : Bool) : List Nat := if b then [41] else []
theorem ah_true {t : Tok} {b : Bool} (h : b = true) : Value.str (Str.ofString "(- ") t = Value.str (T (ahL b)) t := by subst h; rw [show Str.ofString "(- " = T [40, 45, 32] from by decide +kernel]; rfl
theorem ah_false {t : Tok} {b : Bool} (h : b = false) : Value.str (Str.ofString "") t = Value.str (T (ahL b)) t := by subst h; rw [show Str.ofString "" = T [] from by decide +kernel]; rfl
theorem be_true {t : Tok} {b : Bool} (h : b = true) : Value.str (Str.ofString ")") t = Value.str (T (beL b)) t := by subst h; rw [show Str.ofString ")" = T [41] from by decide +kernel]; rfl
theorem be_false {t : Tok} {b : Bool} (h : b = false) : Value.str (Str.ofString "") t = Value.str (T (beL b)) t := by subst h; rw [show Str.ofString "" = T [] from by decide +kernel]; rfl
theorem ah_len (b : Bool) : (ahL b).length ≤ 3 := by cases b <;> decide
theorem be_len (b : Bool) : (beL b).length ≤ 1 := by cases b <;> decide
theorem sl_head3 (a c b : List Nat) : Txt.slice (T (a ++ c ++ b)) none (some (a.length : Int)) = T a := by rw [List.append_assoc]; exact sl_head _ _
theorem l_dot0 : Str.ofString ".0" = T [46, 48] := by decide +kernel
theorem l_sp : Str.ofString " " = T [32] := by decide +kernel
set_option maxRecDepth 100000 in
set_option maxHeartbeats 8000000 in
theorem words1_con (w : World) (b r : Bool) (c c' : List Nat) (hc : c = if r then c' ++ [46, 48] else c') (h32 : 32 ∉ c) (hne : c ≠ []) (hlen : c.length ≤ 90000) (t : Tok) :
    Con w 855 [.str (T (ahL b ++ c ++ beL b)) t, .bool b, .bool r] [] (fun v sub' => ∃ D o, v = .ref D ∧ (∃ k t1, o = ({ cls := .type "list", data := .seq #[Value.str (T c') t1] k } : Obj)) ∧ (D, o) ∈ sub') 6 128 := by
  k_with_none
  k_with "eval ListComp" => k_extra "stop comp"
  k_with "le" => (simp only [T_len, List.length_append, List.length_cons, List.length_nil] at *; omega)
  k_with "call builtin:len" => ((with_reducible show wpAny _ _ (call (Value.builtin "len") [Value.str (T _) _]) _ _ _); k_dflt (refine len_T (by (try simp only [List.length_append, List.length_cons, List.length_nil]); omega) ?_); intro _ _)
  k_with "compareOp NotEq str str" => (first | k_dflt (refine ne_same rfl ?_) | k_dflt (refine ne_same (by decide +kernel) ?_))
  k_with "compareOp Eq str str" => (k_dflt (refine eq_same (by decide +kernel) ?_))
  k_with "subscriptTail Name Slice str ref" => ((with_reducible show wpAny _ _ (subscriptTail _ (Expr.Slice none (some _) none _) (Value.str (T (ahL _ ++ _ ++ beL _)) _) _) _ _ _); (with_reducible rename Fr _ _ _ _ => F'); (with_reducible rename News _ _ _ _ => N'); refine slice_nse F' N' (by (try simp only [List.length_append, List.length_cons, List.length_nil]); omega) (sl_head3 _ _ _) ?_; intro h' t' k' F' N')
  k_with "subscriptTail Name Slice str ref" => ((with_reducible show wpAny _ _ (subscriptTail _ (Expr.Slice (some _) none none _) (Value.str (T (ahL _ ++ _ ++ beL _)) _) _) _ _ _); (with_reducible rename Fr _ _ _ _ => F'); (with_reducible rename News _ _ _ _ => N'); refine slice_sne F' N' (by (try simp only [List.length_append, List.length_cons, List.length_nil]); omega) (sl_tail _ _ _ rfl) ?_; intro h' t' k' F' N')
  k_with "subscriptTail Name Slice str ref" => ((with_reducible show wpAny _ _ (subscriptTail _ (Expr.Slice (some _) (some _) none _) (Value.str (T (ahL _ ++ _ ++ beL _)) _) _) _ _ _); (with_reducible rename Fr _ _ _ _ => F'); (with_reducible rename News _ _ _ _ => N'); refine slice_sse F' N' (by (try simp only [List.length_append, List.length_cons, List.length_nil]); omega) (sl_mid _ _ _ _ rfl) ?_; intro h' t' k' F' N')
  k_with "subscriptTail Name Slice str ref" => ((with_reducible show wpAny _ _ (subscriptTail _ (Expr.Slice none (some _) none _) (Value.str (T (_ ++ [46, 48])) _) _) _ _ _); (with_reducible rename Fr _ _ _ _ => F'); (with_reducible rename News _ _ _ _ => N'); refine slice_nse F' N' (by (try simp only [List.length_append, List.length_cons, List.length_nil]); omega) (sl_init _ _ 2 rfl (by decide) _ rfl) ?_; intro h' t' k' F' N')
  k_with "subscriptTail Name Slice str ref" => ((with_reducible show wpAny _ _ (subscriptTail _ (Expr.Slice (some _) none none _) (Value.str (T (_ ++ [46, 48])) _) _) _ _ _); (with_reducible rename Fr _ _ _ _ => F'); (with_reducible rename News _ _ _ _ => N'); refine slice_sne F' N' (by (try simp only [List.length_append, List.length_cons, List.length_nil]); omega) (sl_last _ _ 2 rfl (by decide) _ rfl) ?_; intro h' t' k' F' N')
  k_with "subscriptTail Name Slice str ref" => ((with_reducible show wpAny _ _ (subscriptTail _ (Expr.Slice none (some _) none _) (Value.str (T (_ ++ [41])) _) _) _ _ _); (with_reducible rename Fr _ _ _ _ => F'); (with_reducible rename News _ _ _ _ => N'); refine slice_nse F' N' (by (try simp only [List.length_append, List.length_cons, List.length_nil]); omega) (sl_init _ _ 1 rfl (by decide) _ rfl) ?_; intro h' t' k' F' N')
  k_with "subscriptTail Name Slice str ref" => ((with_reducible show wpAny _ _ (subscriptTail _ (Expr.Slice (some _) none none _) (Value.str (T (_ ++ [41])) _) _) _ _ _); (with_reducible rename Fr _ _ _ _ => F'); (with_reducible rename News _ _ _ _ => N'); refine slice_sne F' N' (by (try simp only [List.length_append, List.length_cons, List.length_nil]); omega) (sl_last _ _ 1 rfl (by decide) _ rfl) ?_; intro h' t' k' F' N')
  k_with "call builtin:str.split" => ((with_reducible rename Fr _ _ _ _ => F'); (with_reducible rename News _ _ _ _ => N'); (first | (k_dflt (refine split_r3 F' N' (by (try simp only [List.length_append, List.length_cons, List.length_nil]); omega) l_sp (split_two (by assumption) (by assumption)) ?_); intro D' t1' t2' t3' h' k' F' N') | (k_dflt (refine split_r1 F' N' (by (try simp only [List.length_append, List.length_cons, List.length_nil]); omega) l_sp (split_one (by assumption) (by assumption)) ?_); intro D' t1' h' k' F' N')))
  k_with "eval IfExp" => refine stop_here ?_
  w_on
  unfold Con
  k_fill
  intro p loose mean mg mb dp un gd cn cs L a ccd cl outer A₀ base h₀ m s Q E B F X N Tp hk hd hu hret
  w_strict ((refine' con_enter ?k1 ?k2 ?k3 ?k4 ?k5 ?kR ?kA ?kF ?kK ?k6 ?k7 ?k8 ?k9 ?kB ?_ ?c2 ?c3 ?c4 ?c5; (case kR => assumption); (case kA => exact rfl); (case kF => exact rfl); (case kK => assumption); (case k1 => k_asm); (case k2 => k_asm); (case k3 => k_asm); (case k4 => k_asm); (case k5 => k_asm); (case k6 => k_is); (case k7 => k_is); (case k8 => ktr_room); (case k9 => exact BindsTo.of_eq rfl); (case c5 => decide); (case kB => exact locs rfl); (case c2 => exact rfl); (case c3 => exact rfl); (case c4 => exact rfl); k_whole; intro g' L' h' tk' F' N' B' X' T' l0; simp only [AllLt, and_true] at l0; (try dsimp only); (try k_lift B'); (try k_fold)); k_steps)
  refine ⟨?_⟩
  k_with_none
  k_with "eval ListComp" => k_extra "stop comp"
  k_with "le" => (simp only [T_len, List.length_append, List.length_cons, List.length_nil] at *; omega)
  k_with "call builtin:len" => ((with_reducible show wpAny _ _ (call (Value.builtin "len") [Value.str (T _) _]) _ _ _); k_dflt (refine len_T (by (try simp only [List.length_append, List.length_cons, List.length_nil]); omega) ?_); intro _ _)
  k_with "compareOp NotEq str str" => (first | k_dflt (refine ne_same rfl ?_) | k_dflt (refine ne_same (by decide +kernel) ?_))
  k_with "compareOp Eq str str" => (k_dflt (refine eq_same (by decide +kernel) ?_))
  k_with "subscriptTail Name Slice str ref" => ((with_reducible show wpAny _ _ (subscriptTail _ (Expr.Slice none (some _) none _) (Value.str (T (ahL _ ++ _ ++ beL _)) _) _) _ _ _); (with_reducible rename Fr _ _ _ _ => F'); (with_reducible rename News _ _ _ _ => N'); refine slice_nse F' N' (by (try simp only [List.length_append, List.length_cons, List.length_nil]); omega) (sl_head3 _ _ _) ?_; intro h' t' k' F' N')
  k_with "subscriptTail Name Slice str ref" => ((with_reducible show wpAny _ _ (subscriptTail _ (Expr.Slice (some _) none none _) (Value.str (T (ahL _ ++ _ ++ beL _)) _) _) _ _ _); (with_reducible rename Fr _ _ _ _ => F'); (with_reducible rename News _ _ _ _ => N'); refine slice_sne F' N' (by (try simp only [List.length_append, List.length_cons, List.length_nil]); omega) (sl_tail _ _ _ rfl) ?_; intro h' t' k' F' N')
  k_with "subscriptTail Name Slice str ref" => ((with_reducible show wpAny _ _ (subscriptTail _ (Expr.Slice (some _) (some _) none _) (Value.str (T (ahL _ ++ _ ++ beL _)) _) _) _ _ _); (with_reducible rename Fr _ _ _ _ => F'); (with_reducible rename News _ _ _ _ => N'); refine slice_sse F' N' (by (try simp only [List.length_append, List.length_cons, List.length_nil]); omega) (sl_mid _ _ _ _ rfl) ?_; intro h' t' k' F' N')
  k_with "subscriptTail Name Slice str ref" => ((with_reducible show wpAny _ _ (subscriptTail _ (Expr.Slice none (some _) none _) (Value.str (T (_ ++ [46, 48])) _) _) _ _ _); (with_reducible rename Fr _ _ _ _ => F'); (with_reducible rename News _ _ _ _ => N'); refine slice_nse F' N' (by (try simp only [List.length_append, List.length_cons, List.length_nil]); omega) (sl_init _ _ 2 rfl (by decide) _ rfl) ?_; intro h' t' k' F' N')
  k_with "subscriptTail Name Slice str ref" => ((with_reducible show wpAny _ _ (subscriptTail _ (Expr.Slice (some _) none none _) (Value.str (T (_ ++ [46, 48])) _) _) _ _ _); (with_reducible rename Fr _ _ _ _ => F'); (with_reducible rename News _ _ _ _ => N'); refine slice_sne F' N' (by (try simp only [List.length_append, List.length_cons, List.length_nil]); omega) (sl_last _ _ 2 rfl (by decide) _ rfl) ?_; intro h' t' k' F' N')
  k_with "subscriptTail Name Slice str ref" => ((with_reducible show wpAny _ _ (subscriptTail _ (Expr.Slice none (some _) none _) (Value.str (T (_ ++ [41])) _) _) _ _ _); (with_reducible rename Fr _ _ _ _ => F'); (with_reducible rename News _ _ _ _ => N'); refine slice_nse F' N' (by (try simp only [List.length_append, List.length_cons, List.length_nil]); omega) (sl_init _ _ 1 rfl (by decide) _ rfl) ?_; intro h' t' k' F' N')
  k_with "subscriptTail Name Slice str ref" => ((with_reducible show wpAny _ _ (subscriptTail _ (Expr.Slice (some _) none none _) (Value.str (T (_ ++ [41])) _) _) _ _ _); (with_reducible rename Fr _ _ _ _ => F'); (with_reducible rename News _ _ _ _ => N'); refine slice_sne F' N' (by (try simp only [List.length_append, List.length_cons, List.length_nil]); omega) (sl_last _ _ 1 rfl (by decide) _ rfl) ?_; intro h' t' k' F' N')
  k_with "call builtin:str.split" => ((with_reducible rename Fr _ _ _ _ => F'); (with_reducible rename News _ _ _ _ => N'); (first | (k_dflt (refine split_r3 F' N' (by (try simp only [List.length_append, List.length_cons, List.length_nil]); omega) l_sp (split_two (by assumption) (by assumption)) ?_); intro D' t1' t2' t3' h' k' F' N') | (k_dflt (refine split_r1 F' N' (by (try simp only [List.length_append, List.length_cons, List.length_nil]); omega) l_sp (split_one (by assumption) (by assumption)) ?_); intro D' t1' h' k' F' N')))
  refine val_is (fun t => .str (T (ahL b)) t) (by assumption) (by assumption) ?_ ?_
  · w_strict k_steps
    all_goals first
      | exact val_end (ah_true (by assumption)) (by assumption) (by assumption) (fun p hp => hp)
      | exact val_end (ah_false (by assumption)) (by assumption) (by assumption) (fun p hp => hp)
  intro tok9 h9 tk9 F9 N9
  k_with "eval IfExp" => refine stop_here ?_
  w_strict k_steps
  refine ⟨?_⟩
  k_with_none
  k_with "eval ListComp" => k_extra "stop comp"
  k_with "le" => (simp only [T_len, List.length_append, List.length_cons, List.length_nil] at *; omega)
  k_with "call builtin:len" => ((with_reducible show wpAny _ _ (call (Value.builtin "len") [Value.str (T _) _]) _ _ _); k_dflt (refine len_T (by (try simp only [List.length_append, List.length_cons, List.length_nil]); omega) ?_); intro _ _)
  k_with "compareOp NotEq str str" => (first | k_dflt (refine ne_same rfl ?_) | k_dflt (refine ne_same (by decide +kernel) ?_))
  k_with "compareOp Eq str str" => (k_dflt (refine eq_same (by decide +kernel) ?_))
  k_with "subscriptTail Name Slice str ref" => ((with_reducible show wpAny _ _ (subscriptTail _ (Expr.Slice none (some _) none _) (Value.str (T (ahL _ ++ _ ++ beL _)) _) _) _ _ _); (with_reducible rename Fr _ _ _ _ => F'); (with_reducible rename News _ _ _ _ => N'); refine slice_nse F' N' (by (try simp only [List.length_append, List.length_cons, List.length_nil]); omega) (sl_head3 _ _ _) ?_; intro h' t' k' F' N')
  k_with "subscriptTail Name Slice str ref" => ((with_reducible show wpAny _ _ (subscriptTail _ (Expr.Slice (some _) none none _) (Value.str (T (ahL _ ++ _ ++ beL _)) _) _) _ _ _); (with_reducible rename Fr _ _ _ _ => F'); (with_reducible rename News _ _ _ _ => N'); refine slice_sne F' N' (by (try simp only [List.length_append, List.length_cons, List.length_nil]); omega) (sl_tail _ _ _ rfl) ?_; intro h' t' k' F' N')
  k_with "subscriptTail Name Slice str ref" => ((with_reducible show wpAny _ _ (subscriptTail _ (Expr.Slice (some _) (some _) none _) (Value.str (T (ahL _ ++ _ ++ beL _)) _) _) _ _ _); (with_reducible rename Fr _ _ _ _ => F'); (with_reducible rename News _ _ _ _ => N'); refine slice_sse F' N' (by (try simp only [List.length_append, List.length_cons, List.length_nil]); omega) (sl_mid _ _ _ _ rfl) ?_; intro h' t' k' F' N')
  k_with "subscriptTail Name Slice str ref" => ((with_reducible show wpAny _ _ (subscriptTail _ (Expr.Slice none (some _) none _) (Value.str (T (_ ++ [46, 48])) _) _) _ _ _); (with_reducible rename Fr _ _ _ _ => F'); (with_reducible rename News _ _ _ _ => N'); refine slice_nse F' N' (by (try simp only [List.length_append, List.length_cons, List.length_nil]); omega) (sl_init _ _ 2 rfl (by decide) _ rfl) ?_; intro h' t' k' F' N')
  k_with "subscriptTail Name Slice str ref" => ((with_reducible show wpAny _ _ (subscriptTail _ (Expr.Slice (some _) none none _) (Value.str (T (_ ++ [46, 48])) _) _) _ _ _); (with_reducible rename Fr _ _ _ _ => F'); (with_reducible rename News _ _ _ _ => N'); refine slice_sne F' N' (by (try simp only [List.length_append, List.length_cons, List.length_nil]); omega) (sl_last _ _ 2 rfl (by decide) _ rfl) ?_; intro h' t' k' F' N')
  k_with "subscriptTail Name Slice str ref" => ((with_reducible show wpAny _ _ (subscriptTail _ (Expr.Slice none (some _) none _) (Value.str (T (_ ++ [41])) _) _) _ _ _); (with_reducible rename Fr _ _ _ _ => F'); (with_reducible rename News _ _ _ _ => N'); refine slice_nse F' N' (by (try simp only [List.length_append, List.length_cons, List.length_nil]); omega) (sl_init _ _ 1 rfl (by decide) _ rfl) ?_; intro h' t' k' F' N')
  k_with "subscriptTail Name Slice str ref" => ((with_reducible show wpAny _ _ (subscriptTail _ (Expr.Slice (some _) none none _) (Value.str (T (_ ++ [41])) _) _) _ _ _); (with_reducible rename Fr _ _ _ _ => F'); (with_reducible rename News _ _ _ _ => N'); refine slice_sne F' N' (by (try simp only [List.length_append, List.length_cons, List.length_nil]); omega) (sl_last _ _ 1 rfl (by decide) _ rfl) ?_; intro h' t' k' F' N')
  k_with "call builtin:str.split" => ((with_reducible rename Fr _ _ _ _ => F'); (with_reducible rename News _ _ _ _ => N'); (first | (k_dflt (refine split_r3 F' N' (by (try simp only [List.length_append, List.length_cons, List.length_nil]); omega) l_sp (split_two (by assumption) (by assumption)) ?_); intro D' t1' t2' t3' h' k' F' N') | (k_dflt (refine split_r1 F' N' (by (try simp only [List.length_append, List.length_cons, List.length_nil]); omega) l_sp (split_one (by assumption) (by assumption)) ?_); intro D' t1' h' k' F' N')))
  refine val_is (fun t => .str (T (beL b)) t) (by assumption) (by assumption) ?_ ?_
  · w_strict k_steps
    all_goals first
      | exact val_end (be_true (by assumption)) (by assumption) (by assumption) (fun p hp => hp)
      | exact val_end (be_false (by assumption)) (by assumption) (by assumption) (fun p hp => hp)
  intro tok8 h8 tk8 F8 N8
  have hA := ah_len b
  have hB := be_len b
  k_with "stop comp" => refine stop_here ?_
  w_strict k_steps
  · have hr : r = true := by assumption
    subst hr
    rw [if_pos rfl] at hc
    subst hc
    rw [List.length_append] at hlen
    have hlen' : c'.length ≤ 90000 := by omega
    refine ⟨?_⟩
    k_with_none
    k_with "eval ListComp" => k_extra "stop comp"
    k_with "le" => (simp only [T_len, List.length_append, List.length_cons, List.length_nil] at *; omega)
    k_with "call builtin:len" => ((with_reducible show wpAny _ _ (call (Value.builtin "len") [Value.str (T _) _]) _ _ _); k_dflt (refine len_T (by (try simp only [List.length_append, List.length_cons, List.length_nil]); omega) ?_); intro _ _)
    k_with "compareOp NotEq str str" => (first | k_dflt (refine ne_same rfl ?_) | k_dflt (refine ne_same (by decide +kernel) ?_))
    k_with "compareOp Eq str str" => (k_dflt (refine eq_same (by decide +kernel) ?_))
    k_with "subscriptTail Name Slice str ref" => ((with_reducible show wpAny _ _ (subscriptTail _ (Expr.Slice none (some _) none _) (Value.str (T (ahL _ ++ _ ++ beL _)) _) _) _ _ _); (with_reducible rename Fr _ _ _ _ => F'); (with_reducible rename News _ _ _ _ => N'); refine slice_nse F' N' (by (try simp only [List.length_append, List.length_cons, List.length_nil]); omega) (sl_head3 _ _ _) ?_; intro h' t' k' F' N')
    k_with "subscriptTail Name Slice str ref" => ((with_reducible show wpAny _ _ (subscriptTail _ (Expr.Slice (some _) none none _) (Value.str (T (ahL _ ++ _ ++ beL _)) _) _) _ _ _); (with_reducible rename Fr _ _ _ _ => F'); (with_reducible rename News _ _ _ _ => N'); refine slice_sne F' N' (by (try simp only [List.length_append, List.length_cons, List.length_nil]); omega) (sl_tail _ _ _ rfl) ?_; intro h' t' k' F' N')
    k_with "subscriptTail Name Slice str ref" => ((with_reducible show wpAny _ _ (subscriptTail _ (Expr.Slice (some _) (some _) none _) (Value.str (T (ahL _ ++ _ ++ beL _)) _) _) _ _ _); (with_reducible rename Fr _ _ _ _ => F'); (with_reducible rename News _ _ _ _ => N'); refine slice_sse F' N' (by (try simp only [List.length_append, List.length_cons, List.length_nil]); omega) (sl_mid _ _ _ _ rfl) ?_; intro h' t' k' F' N')
    k_with "subscriptTail Name Slice str ref" => ((with_reducible show wpAny _ _ (subscriptTail _ (Expr.Slice none (some _) none _) (Value.str (T (_ ++ [46, 48])) _) _) _ _ _); (with_reducible rename Fr _ _ _ _ => F'); (with_reducible rename News _ _ _ _ => N'); refine slice_nse F' N' (by (try simp only [List.length_append, List.length_cons, List.length_nil]); omega) (sl_init _ _ 2 rfl (by decide) _ rfl) ?_; intro h' t' k' F' N')
    k_with "subscriptTail Name Slice str ref" => ((with_reducible show wpAny _ _ (subscriptTail _ (Expr.Slice (some _) none none _) (Value.str (T (_ ++ [46, 48])) _) _) _ _ _); (with_reducible rename Fr _ _ _ _ => F'); (with_reducible rename News _ _ _ _ => N'); refine slice_sne F' N' (by (try simp only [List.length_append, List.length_cons, List.length_nil]); omega) (sl_last _ _ 2 rfl (by decide) _ rfl) ?_; intro h' t' k' F' N')
    k_with "subscriptTail Name Slice str ref" => ((with_reducible show wpAny _ _ (subscriptTail _ (Expr.Slice none (some _) none _) (Value.str (T (_ ++ [41])) _) _) _ _ _); (with_reducible rename Fr _ _ _ _ => F'); (with_reducible rename News _ _ _ _ => N'); refine slice_nse F' N' (by (try simp only [List.length_append, List.length_cons, List.length_nil]); omega) (sl_init _ _ 1 rfl (by decide) _ rfl) ?_; intro h' t' k' F' N')
    k_with "subscriptTail Name Slice str ref" => ((with_reducible show wpAny _ _ (subscriptTail _ (Expr.Slice (some _) none none _) (Value.str (T (_ ++ [41])) _) _) _ _ _); (with_reducible rename Fr _ _ _ _ => F'); (with_reducible rename News _ _ _ _ => N'); refine slice_sne F' N' (by (try simp only [List.length_append, List.length_cons, List.length_nil]); omega) (sl_last _ _ 1 rfl (by decide) _ rfl) ?_; intro h' t' k' F' N')
    k_with "call builtin:str.split" => ((with_reducible rename Fr _ _ _ _ => F'); (with_reducible rename News _ _ _ _ => N'); (first | (k_dflt (refine split_r3 F' N' (by (try simp only [List.length_append, List.length_cons, List.length_nil]); omega) l_sp (split_two (by assumption) (by assumption)) ?_); intro D' t1' t2' t3' h' k' F' N') | (k_dflt (refine split_r1 F' N' (by (try simp only [List.length_append, List.length_cons, List.length_nil]); omega) l_sp (split_one (by assumption) (by assumption)) ?_); intro D' t1' h' k' F' N')))
    w_strict k_steps
    ((try dsimp only); (try k_unfold); (try dsimp only); (refine leaveS (by assumption) (by assumption) ?_))
    exact ⟨_, _, rfl, ⟨_, _, rfl⟩, by k_mem⟩
  · have hr : r = false := by assumption
    subst hr
    rw [if_neg (by decide)] at hc
    subst hc
    ((try dsimp only); (try k_unfold); (try dsimp only); (refine leaveS (by assumption) (by assumption) ?_))
    exact ⟨_, _, rfl, ⟨_, _, rfl⟩, by k_mem⟩
set_option maxRecDepth 100000 in
set_option maxHeartbeats 8000000 in
theorem words2_con (w : World) (b r : Bool) (p p' q q' : List Nat) (hp : p = if r then p' ++ [46, 48] else p') (hq : q = if r then q' ++ [46, 48] else q') (h32 : 32 ∉ p) (h33 : 32 ∉ q) (hpl : p.length ≤ 90000) (hql : q.length ≤ 90000) (t : Tok) :
    Con w 855 [.str (T (ahL b ++ ([40, 47, 32] ++ p ++ [32] ++ q ++ [41]) ++ beL b)) t, .bool b, .bool r] [] (fun v sub' => ∃ D o, v = .ref D ∧ (∃ k t1 t2, o = ({ cls := .type "list", data := .seq #[Value.str (T p') t1, Value.str (T q') t2] k } : Obj)) ∧ (D, o) ∈ sub') 6 128 := by
  k_with_none
  k_with "eval ListComp" => k_extra "stop comp"
  k_with "le" => (simp only [T_len, List.length_append, List.length_cons, List.length_nil] at *; omega)
  k_with "call builtin:len" => ((with_reducible show wpAny _ _ (call (Value.builtin "len") [Value.str (T _) _]) _ _ _); k_dflt (refine len_T (by (try simp only [List.length_append, List.length_cons, List.length_nil]); omega) ?_); intro _ _)
  k_with "compareOp NotEq str str" => (first | k_dflt (refine ne_same rfl ?_) | k_dflt (refine ne_same (by decide +kernel) ?_))
  k_with "compareOp Eq str str" => (k_dflt (refine eq_same (by decide +kernel) ?_))
  k_with "subscriptTail Name Slice str ref" => ((with_reducible show wpAny _ _ (subscriptTail _ (Expr.Slice none (some _) none _) (Value.str (T (ahL _ ++ _ ++ beL _)) _) _) _ _ _); (with_reducible rename Fr _ _ _ _ => F'); (with_reducible rename News _ _ _ _ => N'); refine slice_nse F' N' (by (try simp only [List.length_append, List.length_cons, List.length_nil]); omega) (sl_head3 _ _ _) ?_; intro h' t' k' F' N')
  k_with "subscriptTail Name Slice str ref" => ((with_reducible show wpAny _ _ (subscriptTail _ (Expr.Slice (some _) none none _) (Value.str (T (ahL _ ++ _ ++ beL _)) _) _) _ _ _); (with_reducible rename Fr _ _ _ _ => F'); (with_reducible rename News _ _ _ _ => N'); refine slice_sne F' N' (by (try simp only [List.length_append, List.length_cons, List.length_nil]); omega) (sl_tail _ _ _ rfl) ?_; intro h' t' k' F' N')
  k_with "subscriptTail Name Slice str ref" => ((with_reducible show wpAny _ _ (subscriptTail _ (Expr.Slice (some _) (some _) none _) (Value.str (T (ahL _ ++ _ ++ beL _)) _) _) _ _ _); (with_reducible rename Fr _ _ _ _ => F'); (with_reducible rename News _ _ _ _ => N'); refine slice_sse F' N' (by (try simp only [List.length_append, List.length_cons, List.length_nil]); omega) (sl_mid _ _ _ _ rfl) ?_; intro h' t' k' F' N')
  k_with "subscriptTail Name Slice str ref" => ((with_reducible show wpAny _ _ (subscriptTail _ (Expr.Slice none (some _) none _) (Value.str (T (_ ++ [46, 48])) _) _) _ _ _); (with_reducible rename Fr _ _ _ _ => F'); (with_reducible rename News _ _ _ _ => N'); refine slice_nse F' N' (by (try simp only [List.length_append, List.length_cons, List.length_nil]); omega) (sl_init _ _ 2 rfl (by decide) _ rfl) ?_; intro h' t' k' F' N')
  k_with "subscriptTail Name Slice str ref" => ((with_reducible show wpAny _ _ (subscriptTail _ (Expr.Slice (some _) none none _) (Value.str (T (_ ++ [46, 48])) _) _) _ _ _); (with_reducible rename Fr _ _ _ _ => F'); (with_reducible rename News _ _ _ _ => N'); refine slice_sne F' N' (by (try simp only [List.length_append, List.length_cons, List.length_nil]); omega) (sl_last _ _ 2 rfl (by decide) _ rfl) ?_; intro h' t' k' F' N')
  k_with "subscriptTail Name Slice str ref" => ((with_reducible show wpAny _ _ (subscriptTail _ (Expr.Slice none (some _) none _) (Value.str (T (_ ++ [41])) _) _) _ _ _); (with_reducible rename Fr _ _ _ _ => F'); (with_reducible rename News _ _ _ _ => N'); refine slice_nse F' N' (by (try simp only [List.length_append, List.length_cons, List.length_nil]); omega) (sl_init _ _ 1 rfl (by decide) _ rfl) ?_; intro h' t' k' F' N')
  k_with "subscriptTail Name Slice str ref" => ((with_reducible show wpAny _ _ (subscriptTail _ (Expr.Slice (some _) none none _) (Value.str (T (_ ++ [41])) _) _) _ _ _); (with_reducible rename Fr _ _ _ _ => F'); (with_reducible rename News _ _ _ _ => N'); refine slice_sne F' N' (by (try simp only [List.length_append, List.length_cons, List.length_nil]); omega) (sl_last _ _ 1 rfl (by decide) _ rfl) ?_; intro h' t' k' F' N')
  k_with "call builtin:str.split" => ((with_reducible rename Fr _ _ _ _ => F'); (with_reducible rename News _ _ _ _ => N'); (first | (k_dflt (refine split_r3 F' N' (by (try simp only [List.length_append, List.length_cons, List.length_nil]); omega) l_sp (split_two (by assumption) (by assumption)) ?_); intro D' t1' t2' t3' h' k' F' N') | (k_dflt (refine split_r1 F' N' (by (try simp only [List.length_append, List.length_cons, List.length_nil]); omega) l_sp (split_one (by assumption) (by assumption)) ?_); intro D' t1' h' k' F' N')))
  k_with "eval IfExp" => refine stop_here ?_
  w_on
  unfold Con
  k_fill
  intro pp loose mean mg mb dp un gd cn cs L a ccd cl outer A₀ base h₀ m s Q E B F X N Tp hk hd hu hret
  w_strict ((refine' con_enter ?k1 ?k2 ?k3 ?k4 ?k5 ?kR ?kA ?kF ?kK ?k6 ?k7 ?k8 ?k9 ?kB ?_ ?c2 ?c3 ?c4 ?c5; (case kR => assumption); (case kA => exact rfl); (case kF => exact rfl); (case kK => assumption); (case k1 => k_asm); (case k2 => k_asm); (case k3 => k_asm); (case k4 => k_asm); (case k5 => k_asm); (case k6 => k_is); (case k7 => k_is); (case k8 => ktr_room); (case k9 => exact BindsTo.of_eq rfl); (case c5 => decide); (case kB => exact locs rfl); (case c2 => exact rfl); (case c3 => exact rfl); (case c4 => exact rfl); k_whole; intro g' L' h' tk' F' N' B' X' T' l0; simp only [AllLt, and_true] at l0; (try dsimp only); (try k_lift B'); (try k_fold)); k_steps)
  refine ⟨?_⟩
  k_with_none
  k_with "eval ListComp" => k_extra "stop comp"
  k_with "le" => (simp only [T_len, List.length_append, List.length_cons, List.length_nil] at *; omega)
  k_with "call builtin:len" => ((with_reducible show wpAny _ _ (call (Value.builtin "len") [Value.str (T _) _]) _ _ _); k_dflt (refine len_T (by (try simp only [List.length_append, List.length_cons, List.length_nil]); omega) ?_); intro _ _)
  k_with "compareOp NotEq str str" => (first | k_dflt (refine ne_same rfl ?_) | k_dflt (refine ne_same (by decide +kernel) ?_))
  k_with "compareOp Eq str str" => (k_dflt (refine eq_same (by decide +kernel) ?_))
  k_with "subscriptTail Name Slice str ref" => ((with_reducible show wpAny _ _ (subscriptTail _ (Expr.Slice none (some _) none _) (Value.str (T (ahL _ ++ _ ++ beL _)) _) _) _ _ _); (with_reducible rename Fr _ _ _ _ => F'); (with_reducible rename News _ _ _ _ => N'); refine slice_nse F' N' (by (try simp only [List.length_append, List.length_cons, List.length_nil]); omega) (sl_head3 _ _ _) ?_; intro h' t' k' F' N')
  k_with "subscriptTail Name Slice str ref" => ((with_reducible show wpAny _ _ (subscriptTail _ (Expr.Slice (some _) none none _) (Value.str (T (ahL _ ++ _ ++ beL _)) _) _) _ _ _); (with_reducible rename Fr _ _ _ _ => F'); (with_reducible rename News _ _ _ _ => N'); refine slice_sne F' N' (by (try simp only [List.length_append, List.length_cons, List.length_nil]); omega) (sl_tail _ _ _ rfl) ?_; intro h' t' k' F' N')
  k_with "subscriptTail Name Slice str ref" => ((with_reducible show wpAny _ _ (subscriptTail _ (Expr.Slice (some _) (some _) none _) (Value.str (T (ahL _ ++ _ ++ beL _)) _) _) _ _ _); (with_reducible rename Fr _ _ _ _ => F'); (with_reducible rename News _ _ _ _ => N'); refine slice_sse F' N' (by (try simp only [List.length_append, List.length_cons, List.length_nil]); omega) (sl_mid _ _ _ _ rfl) ?_; intro h' t' k' F' N')
  k_with "subscriptTail Name Slice str ref" => ((with_reducible show wpAny _ _ (subscriptTail _ (Expr.Slice none (some _) none _) (Value.str (T (_ ++ [46, 48])) _) _) _ _ _); (with_reducible rename Fr _ _ _ _ => F'); (with_reducible rename News _ _ _ _ => N'); refine slice_nse F' N' (by (try simp only [List.length_append, List.length_cons, List.length_nil]); omega) (sl_init _ _ 2 rfl (by decide) _ rfl) ?_; intro h' t' k' F' N')
  k_with "subscriptTail Name Slice str ref" => ((with_reducible show wpAny _ _ (subscriptTail _ (Expr.Slice (some _) none none _) (Value.str (T (_ ++ [46, 48])) _) _) _ _ _); (with_reducible rename Fr _ _ _ _ => F'); (with_reducible rename News _ _ _ _ => N'); refine slice_sne F' N' (by (try simp only [List.length_append, List.length_cons, List.length_nil]); omega) (sl_last _ _ 2 rfl (by decide) _ rfl) ?_; intro h' t' k' F' N')
  k_with "subscriptTail Name Slice str ref" => ((with_reducible show wpAny _ _ (subscriptTail _ (Expr.Slice none (some _) none _) (Value.str (T (_ ++ [41])) _) _) _ _ _); (with_reducible rename Fr _ _ _ _ => F'); (with_reducible rename News _ _ _ _ => N'); refine slice_nse F' N' (by (try simp only [List.length_append, List.length_cons, List.length_nil]); omega) (sl_init _ _ 1 rfl (by decide) _ rfl) ?_; intro h' t' k' F' N')
  k_with "subscriptTail Name Slice str ref" => ((with_reducible show wpAny _ _ (subscriptTail _ (Expr.Slice (some _) none none _) (Value.str (T (_ ++ [41])) _) _) _ _ _); (with_reducible rename Fr _ _ _ _ => F'); (with_reducible rename News _ _ _ _ => N'); refine slice_sne F' N' (by (try simp only [List.length_append, List.length_cons, List.length_nil]); omega) (sl_last _ _ 1 rfl (by decide) _ rfl) ?_; intro h' t' k' F' N')
  k_with "call builtin:str.split" => ((with_reducible rename Fr _ _ _ _ => F'); (with_reducible rename News _ _ _ _ => N'); (first | (k_dflt (refine split_r3 F' N' (by (try simp only [List.length_append, List.length_cons, List.length_nil]); omega) l_sp (split_two (by assumption) (by assumption)) ?_); intro D' t1' t2' t3' h' k' F' N') | (k_dflt (refine split_r1 F' N' (by (try simp only [List.length_append, List.length_cons, List.length_nil]); omega) l_sp (split_one (by assumption) (by assumption)) ?_); intro D' t1' h' k' F' N')))
  refine val_is (fun t => .str (T (ahL b)) t) (by assumption) (by assumption) ?_ ?_
  · w_strict k_steps
    all_goals first
      | exact val_end (ah_true (by assumption)) (by assumption) (by assumption) (fun p hp => hp)
      | exact val_end (ah_false (by assumption)) (by assumption) (by assumption) (fun p hp => hp)
  intro tok9 h9 tk9 F9 N9
  k_with "eval IfExp" => refine stop_here ?_
  w_strict k_steps
  refine ⟨?_⟩
  k_with_none
  k_with "eval ListComp" => k_extra "stop comp"
  k_with "le" => (simp only [T_len, List.length_append, List.length_cons, List.length_nil] at *; omega)
  k_with "call builtin:len" => ((with_reducible show wpAny _ _ (call (Value.builtin "len") [Value.str (T _) _]) _ _ _); k_dflt (refine len_T (by (try simp only [List.length_append, List.length_cons, List.length_nil]); omega) ?_); intro _ _)
  k_with "compareOp NotEq str str" => (first | k_dflt (refine ne_same rfl ?_) | k_dflt (refine ne_same (by decide +kernel) ?_))
  k_with "compareOp Eq str str" => (k_dflt (refine eq_same (by decide +kernel) ?_))
  k_with "subscriptTail Name Slice str ref" => ((with_reducible show wpAny _ _ (subscriptTail _ (Expr.Slice none (some _) none _) (Value.str (T (ahL _ ++ _ ++ beL _)) _) _) _ _ _); (with_reducible rename Fr _ _ _ _ => F'); (with_reducible rename News _ _ _ _ => N'); refine slice_nse F' N' (by (try simp only [List.length_append, List.length_cons, List.length_nil]); omega) (sl_head3 _ _ _) ?_; intro h' t' k' F' N')
  k_with "subscriptTail Name Slice str ref" => ((with_reducible show wpAny _ _ (subscriptTail _ (Expr.Slice (some _) none none _) (Value.str (T (ahL _ ++ _ ++ beL _)) _) _) _ _ _); (with_reducible rename Fr _ _ _ _ => F'); (with_reducible rename News _ _ _ _ => N'); refine slice_sne F' N' (by (try simp only [List.length_append, List.length_cons, List.length_nil]); omega) (sl_tail _ _ _ rfl) ?_; intro h' t' k' F' N')
  k_with "subscriptTail Name Slice str ref" => ((with_reducible show wpAny _ _ (subscriptTail _ (Expr.Slice (some _) (some _) none _) (Value.str (T (ahL _ ++ _ ++ beL _)) _) _) _ _ _); (with_reducible rename Fr _ _ _ _ => F'); (with_reducible rename News _ _ _ _ => N'); refine slice_sse F' N' (by (try simp only [List.length_append, List.length_cons, List.length_nil]); omega) (sl_mid _ _ _ _ rfl) ?_; intro h' t' k' F' N')
  k_with "subscriptTail Name Slice str ref" => ((with_reducible show wpAny _ _ (subscriptTail _ (Expr.Slice none (some _) none _) (Value.str (T (_ ++ [46, 48])) _) _) _ _ _); (with_reducible rename Fr _ _ _ _ => F'); (with_reducible rename News _ _ _ _ => N'); refine slice_nse F' N' (by (try simp only [List.length_append, List.length_cons, List.length_nil]); omega) (sl_init _ _ 2 rfl (by decide) _ rfl) ?_; intro h' t' k' F' N')
  k_with "subscriptTail Name Slice str ref" => ((with_reducible show wpAny _ _ (subscriptTail _ (Expr.Slice (some _) none none _) (Value.str (T (_ ++ [46, 48])) _) _) _ _ _); (with_reducible rename Fr _ _ _ _ => F'); (with_reducible rename News _ _ _ _ => N'); refine slice_sne F' N' (by (try simp only [List.length_append, List.length_cons, List.length_nil]); omega) (sl_last _ _ 2 rfl (by decide) _ rfl) ?_; intro h' t' k' F' N')
  k_with "subscriptTail Name Slice str ref" => ((with_reducible show wpAny _ _ (subscriptTail _ (Expr.Slice none (some _) none _) (Value.str (T (_ ++ [41])) _) _) _ _ _); (with_reducible rename Fr _ _ _ _ => F'); (with_reducible rename News _ _ _ _ => N'); refine slice_nse F' N' (by (try simp only [List.length_append, List.length_cons, List.length_nil]); omega) (sl_init _ _ 1 rfl (by decide) _ rfl) ?_; intro h' t' k' F' N')
  k_with "subscriptTail Name Slice str ref" => ((with_reducible show wpAny _ _ (subscriptTail _ (Expr.Slice (some _) none none _) (Value.str (T (_ ++ [41])) _) _) _ _ _); (with_reducible rename Fr _ _ _ _ => F'); (with_reducible rename News _ _ _ _ => N'); refine slice_sne F' N' (by (try simp only [List.length_append, List.length_cons, List.length_nil]); omega) (sl_last _ _ 1 rfl (by decide) _ rfl) ?_; intro h' t' k' F' N')
  k_with "call builtin:str.split" => ((with_reducible rename Fr _ _ _ _ => F'); (with_reducible rename News _ _ _ _ => N'); (first | (k_dflt (refine split_r3 F' N' (by (try simp only [List.length_append, List.length_cons, List.length_nil]); omega) l_sp (split_two (by assumption) (by assumption)) ?_); intro D' t1' t2' t3' h' k' F' N') | (k_dflt (refine split_r1 F' N' (by (try simp only [List.length_append, List.length_cons, List.length_nil]); omega) l_sp (split_one (by assumption) (by assumption)) ?_); intro D' t1' h' k' F' N')))
  refine val_is (fun t => .str (T (beL b)) t) (by assumption) (by assumption) ?_ ?_
  · w_strict k_steps
    all_goals first
      | exact val_end (be_true (by assumption)) (by assumption) (by assumption) (fun p hp => hp)
      | exact val_end (be_false (by assumption)) (by assumption) (by assumption) (fun p hp => hp)
  intro tok8 h8 tk8 F8 N8
  have hA := ah_len b
  have hB := be_len b
  k_with "stop comp" => refine stop_here ?_
  w_strict k_steps
  · have hr : r = true := by assumption
    subst hr
    rw [if_pos rfl] at hp hq
    subst hp
    subst hq
    rw [List.length_append] at hpl hql
    have hpl' : p'.length ≤ 90000 := by omega
    have hql' : q'.length ≤ 90000 := by omega
    refine ⟨?_⟩
    k_with_none
    k_with "eval ListComp" => k_extra "stop comp"
    k_with "le" => (simp only [T_len, List.length_append, List.length_cons, List.length_nil] at *; omega)
    k_with "call builtin:len" => ((with_reducible show wpAny _ _ (call (Value.builtin "len") [Value.str (T _) _]) _ _ _); k_dflt (refine len_T (by (try simp only [List.length_append, List.length_cons, List.length_nil]); omega) ?_); intro _ _)
    k_with "compareOp NotEq str str" => (first | k_dflt (refine ne_same rfl ?_) | k_dflt (refine ne_same (by decide +kernel) ?_))
    k_with "compareOp Eq str str" => (k_dflt (refine eq_same (by decide +kernel) ?_))
    k_with "subscriptTail Name Slice str ref" => ((with_reducible show wpAny _ _ (subscriptTail _ (Expr.Slice none (some _) none _) (Value.str (T (ahL _ ++ _ ++ beL _)) _) _) _ _ _); (with_reducible rename Fr _ _ _ _ => F'); (with_reducible rename News _ _ _ _ => N'); refine slice_nse F' N' (by (try simp only [List.length_append, List.length_cons, List.length_nil]); omega) (sl_head3 _ _ _) ?_; intro h' t' k' F' N')
    k_with "subscriptTail Name Slice str ref" => ((with_reducible show wpAny _ _ (subscriptTail _ (Expr.Slice (some _) none none _) (Value.str (T (ahL _ ++ _ ++ beL _)) _) _) _ _ _); (with_reducible rename Fr _ _ _ _ => F'); (with_reducible rename News _ _ _ _ => N'); refine slice_sne F' N' (by (try simp only [List.length_append, List.length_cons, List.length_nil]); omega) (sl_tail _ _ _ rfl) ?_; intro h' t' k' F' N')
    k_with "subscriptTail Name Slice str ref" => ((with_reducible show wpAny _ _ (subscriptTail _ (Expr.Slice (some _) (some _) none _) (Value.str (T (ahL _ ++ _ ++ beL _)) _) _) _ _ _); (with_reducible rename Fr _ _ _ _ => F'); (with_reducible rename News _ _ _ _ => N'); refine slice_sse F' N' (by (try simp only [List.length_append, List.length_cons, List.length_nil]); omega) (sl_mid _ _ _ _ rfl) ?_; intro h' t' k' F' N')
    k_with "subscriptTail Name Slice str ref" => ((with_reducible show wpAny _ _ (subscriptTail _ (Expr.Slice none (some _) none _) (Value.str (T (_ ++ [46, 48])) _) _) _ _ _); (with_reducible rename Fr _ _ _ _ => F'); (with_reducible rename News _ _ _ _ => N'); refine slice_nse F' N' (by (try simp only [List.length_append, List.length_cons, List.length_nil]); omega) (sl_init _ _ 2 rfl (by decide) _ rfl) ?_; intro h' t' k' F' N')
    k_with "subscriptTail Name Slice str ref" => ((with_reducible show wpAny _ _ (subscriptTail _ (Expr.Slice (some _) none none _) (Value.str (T (_ ++ [46, 48])) _) _) _ _ _); (with_reducible rename Fr _ _ _ _ => F'); (with_reducible rename News _ _ _ _ => N'); refine slice_sne F' N' (by (try simp only [List.length_append, List.length_cons, List.length_nil]); omega) (sl_last _ _ 2 rfl (by decide) _ rfl) ?_; intro h' t' k' F' N')
    k_with "subscriptTail Name Slice str ref" => ((with_reducible show wpAny _ _ (subscriptTail _ (Expr.Slice none (some _) none _) (Value.str (T (_ ++ [41])) _) _) _ _ _); (with_reducible rename Fr _ _ _ _ => F'); (with_reducible rename News _ _ _ _ => N'); refine slice_nse F' N' (by (try simp only [List.length_append, List.length_cons, List.length_nil]); omega) (sl_init _ _ 1 rfl (by decide) _ rfl) ?_; intro h' t' k' F' N')
    k_with "subscriptTail Name Slice str ref" => ((with_reducible show wpAny _ _ (subscriptTail _ (Expr.Slice (some _) none none _) (Value.str (T (_ ++ [41])) _) _) _ _ _); (with_reducible rename Fr _ _ _ _ => F'); (with_reducible rename News _ _ _ _ => N'); refine slice_sne F' N' (by (try simp only [List.length_append, List.length_cons, List.length_nil]); omega) (sl_last _ _ 1 rfl (by decide) _ rfl) ?_; intro h' t' k' F' N')
    k_with "call builtin:str.split" => ((with_reducible rename Fr _ _ _ _ => F'); (with_reducible rename News _ _ _ _ => N'); (first | (k_dflt (refine split_r3 F' N' (by (try simp only [List.length_append, List.length_cons, List.length_nil]); omega) l_sp (split_two (by assumption) (by assumption)) ?_); intro D' t1' t2' t3' h' k' F' N') | (k_dflt (refine split_r1 F' N' (by (try simp only [List.length_append, List.length_cons, List.length_nil]); omega) l_sp (split_one (by assumption) (by assumption)) ?_); intro D' t1' h' k' F' N')))
    w_strict k_steps
    ((try dsimp only); (try k_unfold); (try dsimp only); (refine leaveS (by assumption) (by assumption) ?_))
    exact ⟨_, _, rfl, ⟨_, _, _, rfl⟩, by k_mem⟩
  · have hr : r = false := by assumption
    subst hr
    rw [if_neg (by decide)] at hp hq
    subst hp
    subst hq
    ((try dsimp only); (try k_unfold); (try dsimp only); (refine leaveS (by assumption) (by assumption) ?_))
    exact ⟨_, _, rfl, ⟨_, _, _, rfl⟩, by k_mem⟩
end Mine
end
section
open PySem PySem.W PyProof.Rows PySem.Spec PySem.Calls PySem.NumText
set_option autoImplicit false
namespace Mine
def dot0 (r : Bool) (l : List Nat) : List Nat := if r then l ++ [46, 48] else l
def textL (r : Bool) (x y : Int) : List Nat := if r then realL x y else ratioL x y
theorem dot0_len (r : Bool) (l : List Nat) : (dot0 r l).length ≤ l.length + 2 := by cases r <;> simp [dot0]
theorem dot0_free (r : Bool) (m : Nat) : 32 ∉ dot0 r (dg m) := by
  cases r
  · exact free_dg m
  · exact free_app (free_dg m) (by decide)
theorem dot0_ne (r : Bool) (m : Nat) : dot0 r (dg m) ≠ [] := by
  cases r
  · exact dg_ne m
  · simp [dot0]
theorem text_one (r : Bool) {x y : Int} (hy : y = 1) : textL r x y = ahL (decide (x < 0)) ++ dot0 r (dg x.natAbs) ++ beL (decide (x < 0)) := by
  subst hy
  unfold textL realL ratioL ahL beL dot0
  by_cases hx : x < 0 <;> cases r <;> simp [hx]
theorem text_two (r : Bool) {x y : Int} (hy : ¬ y = 1) : textL r x y = ahL (decide (x < 0)) ++ ([40, 47, 32] ++ dot0 r (dg x.natAbs) ++ [32] ++ dot0 r (dg y.natAbs) ++ [41]) ++ beL (decide (x < 0)) := by
  unfold textL realL ratioL ahL beL dot0
  by_cases hx : x < 0 <;> cases r <;> simp [hx, hy]
theorem words1_dot (w : World) (b r : Bool) (m : Nat) (hm : (dg m).length ≤ 40000) (t : Tok) : Con w 855 [.str (T (ahL b ++ dot0 r (dg m) ++ beL b)) t, .bool b, .bool r] [] (fun v sub' => ∃ D o, v = .ref D ∧ (∃ k t1, o = ({ cls := .type "list", data := .seq #[Value.str (T (dg m)) t1] k } : Obj)) ∧ (D, o) ∈ sub') 6 128 :=
  words1_con w b r (dot0 r (dg m)) (dg m) rfl (dot0_free r m) (dot0_ne r m) (by have := dot0_len r (dg m); omega) t
theorem words2_dot (w : World) (b r : Bool) (m n : Nat) (hm : (dg m).length ≤ 40000) (hn : (dg n).length ≤ 40000) (t : Tok) : Con w 855 [.str (T (ahL b ++ ([40, 47, 32] ++ dot0 r (dg m) ++ [32] ++ dot0 r (dg n) ++ [41]) ++ beL b)) t, .bool b, .bool r] []
    (fun v sub' => ∃ D o, v = .ref D ∧ (∃ k t1 t2, o = ({ cls := .type "list", data := .seq #[Value.str (T (dg m)) t1, Value.str (T (dg n)) t2] k } : Obj)) ∧ (D, o) ∈ sub') 6 128 :=
  words2_con w b r (dot0 r (dg m)) (dg m) (dot0 r (dg n)) (dg n) rfl rfl (dot0_free r m) (dot0_free r n) (by have := dot0_len r (dg m); omega) (by have := dot0_len r (dg n); omega) t
theorem eq_no {prog : Program} {w : World} {A : Around} {E : Value → Shared → Prop} {s : Shared} {Q : Value → Shared → Prop} {a b : Int} {t u : Tok} (hne : ¬ a = b) (h : Q (.bool false) s) : wpAny (model prog w) A (compareOp .Eq (.int a t) (.int b u)) Q E s := by
  refine PyProof.Rows.eq_int ?_
  rw [beq_eq_false_iff_ne.mpr hne]
  exact h
theorem abs_nat (x : Int) : (if x < 0 then -x else x) = ((x.natAbs : Nat) : Int) := by split <;> omega
theorem nat_pos {y : Int} (h : 1 ≤ y) : ((y.natAbs : Nat) : Int) = y := by omega
set_option maxRecDepth 100000 in
set_option maxHeartbeats 8000000 in
theorem written1_con (w : World) (a₁ : Addr) (x y : Int) (tx ty : Tok) (k : Nat) (hx : (dg x.natAbs).length ≤ 40000) (hy : y = 1) (r : Bool) (z : Nat) (hz1 : 80 ≤ z) (hz2 : z ≤ 100) (t u : Tok) :
    Con w 865 [.str (T (textL r x y)) t, .ref a₁, .bool r, .int (z : Int) u] [(a₁, tupO x y tx ty k)] (fun v sub' => (∀ p ∈ [(a₁, tupO x y tx ty k)], p ∈ sub') ∧ v = .bool true) 12 256 := by
  rw [text_one r hy]
  subst hy
  k_with_none
  k_with "compareOp Eq int int" => (refine eq_no (by with_reducible assumption) ?_)
  k_with "eval ListComp" => (k_dflt (refine LCg.ListComp_U (F₀ := by k_asm) (by with_unfolding_all rfl) (by decide) (by rfl) (by decide) (by rfl) ?_))
  k_with "call ref" => (first | (k_dflt ((refine' con_new (words1_dot _ _ _ _ (by assumption) _) ?k1 ?k2 ?k3 ?k4 ?k5 ?kK ?kd ?ku ?_; (case k1 => k_asm); (case k2 => k_asm); (case k3 => k_asm); (case k4 => k_asm); (case k5 => k_asm); (case kK => first | exact rfl | assumption); (case kd => ktr_room); (case ku => ktr_units))); intro D9 o9 h9 tk9 p9 F9 N9 f9; obtain ⟨k9, t9, e9⟩ := p9; subst e9; simp only [LCg.Off1, and_true] at f9; (try dsimp only); (try k_fold)) | (k_dflt ((refine' con_pure (worth_con _ _ (by omega) _ (by assumption) (by assumption) _ _) ?k1 ?k2 ?k3 ?k4 ?k5 ?kK ?kd ?ku ?_; (case k1 => k_asm); (case k2 => k_asm); (case k3 => k_asm); (case k4 => k_asm); (case k5 => k_asm); (case kK => first | exact rfl | assumption); (case kd => ktr_room); (case ku => ktr_units))); intro v9 sub9 h9 tk9 F9 N9 p9; obtain ⟨t9, e9⟩ := p9; subst e9; (try dsimp only); (try k_fold)))
  k_with "call ref" => (k_dflt ((refine' con_new (words2_dot _ _ _ _ _ (by assumption) (by assumption) _) ?k1 ?k2 ?k3 ?k4 ?k5 ?kK ?kd ?ku ?_; (case k1 => k_asm); (case k2 => k_asm); (case k3 => k_asm); (case k4 => k_asm); (case k5 => k_asm); (case kK => first | exact rfl | assumption); (case kd => ktr_room); (case ku => ktr_units))); intro D9 o9 h9 tk9 p9 F9 N9 f9; obtain ⟨k9, t9, t8, e9⟩ := p9; subst e9; simp only [LCg.Off1, and_true] at f9; (try dsimp only); (try k_fold))
  w_on
  unfold Con
  k_fill
  intro p loose mean mg mb dp un gd cn cs L a ccd cl outer A₀ base h₀ m s Q E B F X N Tp hk hd hu hret
  w_strict ((refine' con_enterC ?k1 ?k2 ?k3 ?k4 ?k5 ?kR ?kA ?kF ?kK ?k6 ?k7 ?k8 ?k9 ?kB ?kD ?_ ?c2 ?c3 ?c4; (case kR => assumption); (case kA => exact rfl); (case kF => exact rfl); (case kK => assumption); (case k1 => k_asm); (case k2 => k_asm); (case k3 => k_asm); (case k4 => k_asm); (case k5 => k_asm); (case k6 => k_is); (case k7 => k_is); (case k8 => ktr_room); (case k9 => exact BindsTo.of_eq rfl); (case kB => exact rfl); (case kD => decide +kernel); (case c2 => exact rfl); (case c3 => exact rfl); (case c4 => exact rfl); k_whole; intro g' L' h' tk' cells' F' N' Y' B' X' T' l0; simp only [AllLt, and_true] at l0; k_cells Y'; (try simp only [List.cons_append, List.nil_append] at N'); (try dsimp only); (try k_lift B'); (try k_fold)); k_steps)
  refine leaveS (by assumption) (by assumption) ⟨by lcg_sub, congrArg Value.bool (decide_eq_true ?_)⟩
  rw [abs_nat]
set_option maxRecDepth 100000 in
set_option maxHeartbeats 8000000 in
theorem written2_con (w : World) (a₁ : Addr) (x y : Int) (tx ty : Tok) (k : Nat) (hx : (dg x.natAbs).length ≤ 40000) (hy : ¬ y = 1) (hy1 : 1 ≤ y) (hyl : (dg y.natAbs).length ≤ 40000) (r : Bool) (z : Nat) (hz1 : 80 ≤ z) (hz2 : z ≤ 100) (t u : Tok) :
    Con w 865 [.str (T (textL r x y)) t, .ref a₁, .bool r, .int (z : Int) u] [(a₁, tupO x y tx ty k)] (fun v sub' => (∀ p ∈ [(a₁, tupO x y tx ty k)], p ∈ sub') ∧ v = .bool true) 12 256 := by
  rw [text_two r hy]
  k_with_none
  k_with "compareOp Eq int int" => (refine eq_no (by with_reducible assumption) ?_)
  k_with "eval ListComp" => (k_dflt (refine LCg.ListComp_U (F₀ := by k_asm) (by with_unfolding_all rfl) (by decide) (by rfl) (by decide) (by rfl) ?_))
  k_with "call ref" => (first | (k_dflt ((refine' con_new (words1_dot _ _ _ _ (by assumption) _) ?k1 ?k2 ?k3 ?k4 ?k5 ?kK ?kd ?ku ?_; (case k1 => k_asm); (case k2 => k_asm); (case k3 => k_asm); (case k4 => k_asm); (case k5 => k_asm); (case kK => first | exact rfl | assumption); (case kd => ktr_room); (case ku => ktr_units))); intro D9 o9 h9 tk9 p9 F9 N9 f9; obtain ⟨k9, t9, e9⟩ := p9; subst e9; simp only [LCg.Off1, and_true] at f9; (try dsimp only); (try k_fold)) | (k_dflt ((refine' con_pure (worth_con _ _ (by omega) _ (by assumption) (by assumption) _ _) ?k1 ?k2 ?k3 ?k4 ?k5 ?kK ?kd ?ku ?_; (case k1 => k_asm); (case k2 => k_asm); (case k3 => k_asm); (case k4 => k_asm); (case k5 => k_asm); (case kK => first | exact rfl | assumption); (case kd => ktr_room); (case ku => ktr_units))); intro v9 sub9 h9 tk9 F9 N9 p9; obtain ⟨t9, e9⟩ := p9; subst e9; (try dsimp only); (try k_fold)))
  k_with "call ref" => (k_dflt ((refine' con_new (words2_dot _ _ _ _ _ (by assumption) (by assumption) _) ?k1 ?k2 ?k3 ?k4 ?k5 ?kK ?kd ?ku ?_; (case k1 => k_asm); (case k2 => k_asm); (case k3 => k_asm); (case k4 => k_asm); (case k5 => k_asm); (case kK => first | exact rfl | assumption); (case kd => ktr_room); (case ku => ktr_units))); intro D9 o9 h9 tk9 p9 F9 N9 f9; obtain ⟨k9, t9, t8, e9⟩ := p9; subst e9; simp only [LCg.Off1, and_true] at f9; (try dsimp only); (try k_fold))
  w_on
  unfold Con
  k_fill
  intro p loose mean mg mb dp un gd cn cs L a ccd cl outer A₀ base h₀ m s Q E B F X N Tp hk hd hu hret
  w_strict ((refine' con_enterC ?k1 ?k2 ?k3 ?k4 ?k5 ?kR ?kA ?kF ?kK ?k6 ?k7 ?k8 ?k9 ?kB ?kD ?_ ?c2 ?c3 ?c4; (case kR => assumption); (case kA => exact rfl); (case kF => exact rfl); (case kK => assumption); (case k1 => k_asm); (case k2 => k_asm); (case k3 => k_asm); (case k4 => k_asm); (case k5 => k_asm); (case k6 => k_is); (case k7 => k_is); (case k8 => ktr_room); (case k9 => exact BindsTo.of_eq rfl); (case kB => exact rfl); (case kD => decide +kernel); (case c2 => exact rfl); (case c3 => exact rfl); (case c4 => exact rfl); k_whole; intro g' L' h' tk' cells' F' N' Y' B' X' T' l0; simp only [AllLt, and_true] at l0; k_cells Y'; (try simp only [List.cons_append, List.nil_append] at N'); (try dsimp only); (try k_lift B'); (try k_fold)); k_steps)
  refine leaveS (by assumption) (by assumption) ⟨by lcg_sub, congrArg Value.bool (decide_eq_true ?_)⟩
  rw [abs_nat, nat_pos hy1]
theorem written_con (w : World) (a₁ : Addr) (x y : Int) (tx ty : Tok) (k : Nat) (hx : (dg x.natAbs).length ≤ 40000) (hy1 : 1 ≤ y) (hyl : (dg y.natAbs).length ≤ 40000) (r : Bool) (z : Nat) (hz1 : 80 ≤ z) (hz2 : z ≤ 100) (t u : Tok) :
    Con w 865 [.str (T (textL r x y)) t, .ref a₁, .bool r, .int (z : Int) u] [(a₁, tupO x y tx ty k)] (fun v sub' => (∀ p ∈ [(a₁, tupO x y tx ty k)], p ∈ sub') ∧ v = .bool true) 12 256 := by
  by_cases hy : y = 1
  · exact written1_con w a₁ x y tx ty k hx hy r z hz1 hz2 t u
  · exact written2_con w a₁ x y tx ty k hx hy hy1 hyl r z hz1 hz2 t u
end Mine
end
section
open PySem PySem.W PyProof.Rows PySem.Spec PySem.Calls PySem.NumText
set_option autoImplicit false
namespace Mine
local macro_rules | `(tactic| walk_at "no such key") => `(tactic| fail)
abbrev JP (c : Addr) (n : Int) (tn : Tok) : List (Str × Value) := [(Str.ofString "cells", .ref c), (Str.ofString "at", .int n tn)]
abbrev JugO (w : World) (o : Obj) (c : Addr) (n : Int) (tn : Tok) : Prop := o.IsDictOf (PySem.strKind PySem.Challenge.rw_sj0100_01.row.prog w) (JP c n tn)
set_option maxRecDepth 100000 in
set_option maxHeartbeats 8000000 in
theorem next_con (w : World) (j c : Addr) (o : Obj) (n many : Int) (tn tm : Tok) (vs : List Value) (ns : List Int) (k : Nat) (hj : JugO w o c n tn) (hi : IntsAre vs ns) (hne : c ≠ j) (hjs : (j == sysModules) = false) (hns : ns.length ≤ 63) (h0 : 0 ≤ n) (h1 : n ≤ 100000) (hm : 1 ≤ many) (hm2 : many ≤ 100000) :
    Con w 829 [.ref j, .int many tm] [(j, o), (c, listOf vs.toArray k)] (fun v sub' => ∃ o', (∃ r t tn', v = .int r t ∧ 0 ≤ r ∧ r < many ∧ JugO w o' c (n + 1) tn') ∧ (j, o') ∈ sub' ∧ (c, listOf vs.toArray k) ∈ sub') 4 128 := by
  k_with_none
  dsimp only [JugO, JP] at hj
  w_on
  unfold Con
  k_fill
  intro p loose mean mg mb dp un gd cn cs L a ccd cl outer A₀ base h₀ m s Q E B F X N Tp hk hd hu hret
  w_strict ((refine' con_enter ?k1 ?k2 ?k3 ?k4 ?k5 ?kR ?kA ?kF ?kK ?k6 ?k7 ?k8 ?k9 ?kB ?_ ?c2 ?c3 ?c4 ?c5; (case kR => assumption); (case kA => exact rfl); (case kF => exact rfl); (case kK => assumption); (case k1 => k_asm); (case k2 => k_asm); (case k3 => k_asm); (case k4 => k_asm); (case k5 => k_asm); (case k6 => k_is); (case k7 => k_is); (case k8 => ktr_room); (case k9 => exact BindsTo.of_eq rfl); (case c5 => decide); (case kB => exact locs rfl); (case c2 => exact rfl); (case c3 => exact rfl); (case c4 => exact rfl); k_whole; intro g' L' h' tk' F' N' B' X' T' l0; simp only [AllLt, and_true] at l0; (try dsimp only); (try k_lift B'); (try k_fold)); k_steps)
  all_goals (((try dsimp only); (try k_unfold); (try dsimp only); (refine leaveS (by assumption) (by assumption) ?_)); exact ⟨_, ⟨_, _, _, rfl, fmod_lo _ (by omega), fmod_hi _ (by omega), by first | assumption | (with_unfolding_all assumption)⟩, by k_mem, by k_mem⟩)
theorem sz_bound (i : Nat) : 0 ≤ ([4900, 0, 1, 812, 2437, 3600, 37] : List Int).getD i 0 ∧ ([4900, 0, 1, 812, 2437, 3600, 37] : List Int).getD i 0 ≤ 4900 := by
  rcases i with _ | _ | _ | _ | _ | _ | _ | i <;> simp
theorem sz_lo {i : Nat} {r : Int} (h : 0 ≤ r) : 0 ≤ ([4900, 0, 1, 812, 2437, 3600, 37] : List Int).getD i 0 + r := Int.add_nonneg (sz_bound i).1 h
theorem sz_hi {i : Nat} {r : Int} (h : r < 90) : ([4900, 0, 1, 812, 2437, 3600, 37] : List Int).getD i 0 + r ≤ 4989 := by have := (sz_bound i).2; omega
set_option maxRecDepth 100000 in
set_option maxHeartbeats 8000000 in
theorem size_con (w : World) (j c : Addr) (o : Obj) (n : Int) (tn : Tok) (vs : List Value) (ns : List Int) (k : Nat) (hj : JugO w o c n tn) (hi : IntsAre vs ns) (hne : c ≠ j) (hjs : (j == sysModules) = false) (hns : ns.length ≤ 63) (h0 : 0 ≤ n) (h1 : n ≤ 90000) :
    Con w 836 [.ref j] [(j, o), (c, listOf vs.toArray k)] (fun v sub' => ∃ o', (∃ r t tn', v = .int r t ∧ 0 ≤ r ∧ r ≤ 4989 ∧ JugO w o' c (n + 1 + 1) tn') ∧ (j, o') ∈ sub' ∧ (c, listOf vs.toArray k) ∈ sub') 8 256 := by
  k_with_none
  k_with "call ref" => (k_dflt ((refine' con_two (next_con _ _ _ _ _ _ _ _ _ _ _ (by assumption) (by assumption) (by assumption) (by assumption) (by assumption) (by omega) (by omega) (by decide) (by decide)) ?k1 ?k2 ?k3 ?k4 ?kU ?kE ?k5 ?kK ?kd ?ku ?_; (case k1 => k_asm); (case k2 => k_asm); (case k3 => k_asm); (case k4 => k_asm); (case kU => k_updF); (case kE => k_mem); (case k5 => k_asm); (case kK => first | exact rfl | assumption); (case kd => ktr_room); (case ku => ktr_units))); intro v9 o9 h9 tk9 p9 F9 N9; obtain ⟨r9, t9, tn9, e9, hr0, hr1, hj9⟩ := p9; subst e9; dsimp only [JugO, JP] at hj9; (try dsimp only at N9); (try dsimp only); (try k_fold))
  dsimp only [JugO, JP] at hj
  w_on
  unfold Con
  k_fill
  intro p loose mean mg mb dp un gd cn cs L a ccd cl outer A₀ base h₀ m s Q E B F X N Tp hk hd hu hret
  w_strict ((refine' con_enter ?k1 ?k2 ?k3 ?k4 ?k5 ?kR ?kA ?kF ?kK ?k6 ?k7 ?k8 ?k9 ?kB ?_ ?c2 ?c3 ?c4 ?c5; (case kR => assumption); (case kA => exact rfl); (case kF => exact rfl); (case kK => assumption); (case k1 => k_asm); (case k2 => k_asm); (case k3 => k_asm); (case k4 => k_asm); (case k5 => k_asm); (case k6 => k_is); (case k7 => k_is); (case k8 => ktr_room); (case k9 => exact BindsTo.of_eq rfl); (case c5 => decide); (case kB => exact locs rfl); (case c2 => exact rfl); (case c3 => exact rfl); (case c4 => exact rfl); k_whole; intro g' L' h' tk' F' N' B' X' T' l0; simp only [AllLt, and_true] at l0; (try dsimp only); (try k_lift B'); (try k_fold)); k_steps)
  exact leaveS (by assumption) (by assumption) ⟨_, ⟨_, _, _, rfl, sz_lo (by assumption), sz_hi (by assumption), by assumption⟩, by k_mem, by k_mem⟩
def BN (a : Int) (i : Nat) : Prop := ∃ P : Nat, a = P ∧ P < 10 ^ i
theorem BN.mul {a b : Int} {i j : Nat} (ha : BN a i) (hb : BN b j) : BN (a * b) (i + j) := by
  obtain ⟨P, rfl, hP⟩ := ha
  obtain ⟨R, rfl, hR⟩ := hb
  refine ⟨P * R, by rw [Int.natCast_mul], ?_⟩
  rw [Nat.pow_add]
  exact Nat.mul_lt_mul'' hP hR
theorem BN.mono {a : Int} {i j : Nat} (ha : BN a i) (h : i ≤ j) : BN a j := by
  obtain ⟨P, rfl, hP⟩ := ha
  exact ⟨P, rfl, Nat.lt_of_lt_of_le hP (Nat.pow_le_pow_right (by decide) h)⟩
theorem BN.ten {k : Int} {j : Nat} (h0 : 0 < j) (h : k < j) : BN (10 ^ k.toNat) j := by
  refine ⟨10 ^ k.toNat, by rw [Int.natCast_pow]; rfl, Nat.pow_lt_pow_right (by decide) (by omega)⟩
theorem BN.bits {a b : Int} {i j : Nat} (ha : BN a i) (hb : BN b j) (hij : i + j ≤ 10000000) : IntMulOk a b := by
  obtain ⟨P, rfl, hP⟩ := ha
  obtain ⟨R, rfl, hR⟩ := hb
  exact mulOk_of_bits (bits10 hP) (bits10 hR) (by omega)
theorem menu_is (l : List Nat) (i : Nat) : ((l.map fun (x : Nat) => (x : Int)).getD i 0) = ((l.getD i 0 : Nat) : Int) := by
  rw [List.getD_eq_getElem?_getD, List.getD_eq_getElem?_getD, List.getElem?_map]
  cases l[i]? <;> rfl
theorem pow26 : 26 ^ 4989 < 10 ^ 7100 := by decide +kernel
theorem BN.menu {l : List Nat} {i : Nat} {k : Int} (hl : ∀ i, l.getD i 0 ≤ 26) (hk : k ≤ 4989) : BN (((l.map fun (x : Nat) => (x : Int)).getD i 0) ^ k.toNat) 7100 := by
  rw [menu_is]
  refine ⟨l.getD i 0 ^ k.toNat, by rw [Int.natCast_pow], ?_⟩
  refine Nat.lt_of_le_of_lt (Nat.pow_le_pow_left (hl i) _) ?_
  exact Nat.lt_of_le_of_lt (Nat.pow_le_pow_right (by decide) (by omega)) pow26
theorem m26 (i : Nat) : ([26, 7, 12, 2] : List Nat).getD i 0 ≤ 26 := by rcases i with _ | _ | _ | _ | i <;> simp
theorem BN.top {i : Nat} {k : Int} (hk : k ≤ 4989) : BN (([26, 7, 12, 2] : List Int).getD i 0 ^ k.toNat) 7100 := BN.menu (l := [26, 7, 12, 2]) m26 hk
theorem abs26 (i : Nat) : (([26, 7, 12, 2] : List Int).getD i 0).natAbs < 2 ^ 64 := by
  have := m26 i
  rw [show (([26, 7, 12, 2] : List Int).getD i 0) = ((([26, 7, 12, 2] : List Nat).getD i 0 : Nat) : Int) from menu_is [26, 7, 12, 2] i, Int.natAbs_natCast]
  omega
theorem BN.small {r : Int} (h0 : 0 ≤ r) (h : r < 10000) : BN r 9200 := by
  refine ⟨r.toNat, by omega, Nat.lt_of_lt_of_le (show r.toNat < 10 ^ 4 by omega) (Nat.pow_le_pow_right (by decide) (by decide))⟩
theorem pow8001 : 10 ^ 8002 + 10 ^ 500 < 10 ^ 9200 := by decide +kernel
theorem m500 (i : Nat) : -1 ≤ ([0, -1, 1, 7, 10 ^ Int.toNat 500] : List Int).getD i 0 ∧ ([0, -1, 1, 7, 10 ^ Int.toNat 500] : List Int).getD i 0 ≤ ((10 ^ 500 : Nat) : Int) := by
  have e : (10 : Int) ^ Int.toNat 500 = ((10 ^ 500 : Nat) : Int) := by rw [Int.natCast_pow]; rfl
  have h7 : 7 < 10 ^ 500 := Nat.lt_of_lt_of_le (show 7 < 10 ^ 1 by decide) (Nat.pow_le_pow_right (by decide) (by decide))
  generalize hP : 10 ^ 500 = P at *
  rcases i with _ | _ | _ | _ | _ | i <;> simp <;> omega
theorem BN.edge {k : Int} {i : Nat} (h0 : 0 ≤ k) (h : k ≤ 8002) : BN (10 ^ k.toNat + ([0, -1, 1, 7, 10 ^ Int.toNat 500] : List Int).getD i 0) 9200 := by
  have h1 := m500 i
  have hp : 1 ≤ 10 ^ k.toNat := Nat.pow_pos (by decide)
  have hq : 10 ^ k.toNat ≤ 10 ^ 8002 := Nat.pow_le_pow_right (by decide) (by omega)
  have e : (10 : Int) ^ k.toNat = ((10 ^ k.toNat : Nat) : Int) := by rw [Int.natCast_pow]; rfl
  rw [e]
  have h2 := pow8001
  generalize ([0, -1, 1, 7, 10 ^ Int.toNat 500] : List Int).getD i 0 = v at h1 ⊢
  generalize 10 ^ k.toNat = A at hp hq ⊢
  generalize 10 ^ 8002 = B at hq h2
  generalize 10 ^ 500 = C at h1 h2
  exact ⟨((A : Int) + v).toNat, by omega, by omega⟩
theorem top_post {w : World} {n n' a : Int} {o' : Obj} {c j : Addr} {lst : Obj} {t tn' : Tok} {sub' : Led} (h : BN a 9200) (hj : JugO w o' c n' tn') (h1 : n ≤ n') (h2 : n' ≤ n + 20) (m1 : (j, o') ∈ sub') (m2 : (c, lst) ∈ sub') :
    ∃ o', (∃ (r : Nat) (n' : Int) (t' : Tok) (tn' : Tok), Value.int a t = .int (r : Int) t' ∧ r < 10 ^ 9200 ∧ n ≤ n' ∧ n' ≤ n + 20 ∧ JugO w o' c n' tn') ∧ (j, o') ∈ sub' ∧ (c, lst) ∈ sub' := by
  obtain ⟨P, rfl, hP⟩ := h
  exact ⟨o', ⟨P, n', t, tn', rfl, hP, h1, h2, hj⟩, m1, m2⟩
set_option maxRecDepth 100000 in
set_option maxHeartbeats 8000000 in
theorem top_con (w : World) (j c : Addr) (o : Obj) (n : Int) (tn : Tok) (vs : List Value) (ns : List Int) (k : Nat) (hj : JugO w o c n tn) (hi : IntsAre vs ns) (hne : c ≠ j) (hjs : (j == sysModules) = false) (hns : ns.length ≤ 63) (h0 : 0 ≤ n) (h1 : n ≤ 80000) :
    Con w 843 [.ref j] [(j, o), (c, listOf vs.toArray k)] (fun v sub' => ∃ o', (∃ (r : Nat) (n' : Int) (t : Tok) (tn' : Tok), v = .int (r : Int) t ∧ r < 10 ^ 9200 ∧ n ≤ n' ∧ n' ≤ n + 20 ∧ JugO w o' c n' tn') ∧ (j, o') ∈ sub' ∧ (c, listOf vs.toArray k) ∈ sub') 12 512 := by
  k_with_none
  k_with "call ref" => (k_dflt ((refine' con_two (next_con _ _ _ _ _ _ _ _ _ _ _ (by assumption) (by assumption) (by assumption) (by assumption) (by assumption) (by omega) (by omega) (by decide) (by decide)) ?k1 ?k2 ?k3 ?k4 ?kU ?kE ?k5 ?kK ?kd ?ku ?_; (case k1 => k_asm); (case k2 => k_asm); (case k3 => k_asm); (case k4 => k_asm); (case kU => k_updF); (case kE => k_mem); (case k5 => k_asm); (case kK => first | exact rfl | assumption); (case kd => ktr_room); (case ku => ktr_units))); intro v9 o9 h9 tk9 p9 F9 N9; obtain ⟨r9, t9, tn9, e9, hr0, hr1, hj9⟩ := p9; subst e9; dsimp only [JugO, JP] at hj9; (try dsimp only at N9); (try dsimp only); (try k_fold))
  k_with "call ref" => (k_dflt ((refine' con_two (size_con _ _ _ _ _ _ _ _ _ (by assumption) (by assumption) (by assumption) (by assumption) (by assumption) (by omega) (by omega)) ?k1 ?k2 ?k3 ?k4 ?kU ?kE ?k5 ?kK ?kd ?ku ?_; (case k1 => k_asm); (case k2 => k_asm); (case k3 => k_asm); (case k4 => k_asm); (case kU => k_updF); (case kE => k_mem); (case k5 => k_asm); (case kK => first | exact rfl | assumption); (case kd => ktr_room); (case ku => ktr_units))); intro v9 o9 h9 tk9 p9 F9 N9; obtain ⟨r9, t9, tn9, e9, hr0, hr1, hj9⟩ := p9; subst e9; dsimp only [JugO, JP] at hj9; (try dsimp only at N9); (try dsimp only); (try k_fold))
  k_with "binaryOp Pow int int" => (first | refine pow_int_small (by omega) (by omega) (abs26 _) ?_ | refine pow_int_small (by omega) (by omega) (by decide) ?_)
  k_with "binaryOp Mult int int" => (refine PyProof.Rows.mul_int ?_ (BN.bits (BN.top (by assumption)) (BN.ten (j := 2000) (by decide) (by assumption)) (by decide)))
  dsimp only [JugO, JP] at hj
  w_on
  unfold Con
  k_fill
  intro p loose mean mg mb dp un gd cn cs L a ccd cl outer A₀ base h₀ m s Q E B F X N Tp hk hd hu hret
  w_strict ((refine' con_enter ?k1 ?k2 ?k3 ?k4 ?k5 ?kR ?kA ?kF ?kK ?k6 ?k7 ?k8 ?k9 ?kB ?_ ?c2 ?c3 ?c4 ?c5; (case kR => assumption); (case kA => exact rfl); (case kF => exact rfl); (case kK => assumption); (case k1 => k_asm); (case k2 => k_asm); (case k3 => k_asm); (case k4 => k_asm); (case k5 => k_asm); (case k6 => k_is); (case k7 => k_is); (case k8 => ktr_room); (case k9 => exact BindsTo.of_eq rfl); (case c5 => decide); (case kB => exact locs rfl); (case c2 => exact rfl); (case c3 => exact rfl); (case c4 => exact rfl); k_whole; intro g' L' h' tk' F' N' B' X' T' l0; simp only [AllLt, and_true] at l0; (try dsimp only); (try k_lift B'); (try k_fold)); k_steps)
  all_goals ((try dsimp only); (try k_unfold); (try dsimp only); (refine leaveS (by assumption) (by assumption) ?_))
  · exact top_post (BN.small (by assumption) (by omega)) (by assumption) (by omega) (by omega) (by k_mem) (by k_mem)
  · exact top_post (BN.edge (by omega) (by omega)) (by assumption) (by omega) (by omega) (by k_mem) (by k_mem)
  · exact top_post ((BN.mul (BN.top (by assumption)) (BN.ten (j := 2000) (by decide) (by assumption))).mono (by decide)) (by assumption) (by omega) (by omega) (by k_mem) (by k_mem)
theorem m23 (i : Nat) : ([17, 19, 23] : List Nat).getD i 0 ≤ 26 := by rcases i with _ | _ | _ | i <;> simp
theorem p23 {i : Int} (h0 : 0 ≤ i) (h : i < 3) : 17 ≤ ([17, 19, 23] : List Int).getD i.toNat 0 ∧ ([17, 19, 23] : List Int).getD i.toNat 0 ≤ 23 := by
  have : i = 0 ∨ i = 1 ∨ i = 2 := by omega
  rcases this with rfl | rfl | rfl <;> decide
theorem BN.bot {i : Nat} {k : Int} (hk : k ≤ 4989) : BN (([17, 19, 23] : List Int).getD i 0 ^ k.toNat) 9200 := (BN.menu (l := [17, 19, 23]) m23 hk).mono (by decide)
theorem abs23 (i : Nat) : (([17, 19, 23] : List Int).getD i 0).natAbs < 2 ^ 64 := by
  have := m23 i
  rw [show (([17, 19, 23] : List Int).getD i 0) = ((([17, 19, 23] : List Nat).getD i 0 : Nat) : Int) from menu_is [17, 19, 23] i, Int.natAbs_natCast]
  omega
theorem pos_bot {i : Int} {k : Nat} (h0 : 0 ≤ i) (h : i < 3) : 1 ≤ ([17, 19, 23] : List Int).getD i.toNat 0 ^ k := by
  have := (p23 h0 h).1
  have h2 : (0 : Int) < ([17, 19, 23] : List Int).getD i.toNat 0 := by omega
  generalize ([17, 19, 23] : List Int).getD i.toNat 0 = v at h2
  obtain ⟨q, rfl⟩ := Int.eq_ofNat_of_zero_le (Int.le_of_lt h2)
  have h3 : 0 < q ^ k := Nat.pow_pos (by omega)
  rw [← Int.natCast_pow]
  omega
theorem ne_bot {i : Int} (h0 : 0 ≤ i) (h : i < 3) : ([17, 19, 23] : List Int).getD i.toNat 0 ≠ 0 := by have := (p23 h0 h).1; omega
theorem BN.one : BN 1 9200 := ⟨1, rfl, Nat.one_lt_pow (by decide) (by decide)⟩
theorem bot_post {w : World} {n n' a : Int} {o' : Obj} {c j : Addr} {lst : Obj} {t tn' : Tok} {sub' : Led} (h : BN a 9200) (h0 : 1 ≤ a) (hj : JugO w o' c n' tn') (h1 : n ≤ n') (h2 : n' ≤ n + 20) (m1 : (j, o') ∈ sub') (m2 : (c, lst) ∈ sub') :
    ∃ o', (∃ (r : Nat) (n' : Int) (t' : Tok) (tn' : Tok), Value.int a t = .int (r : Int) t' ∧ 1 ≤ r ∧ r < 10 ^ 9200 ∧ n ≤ n' ∧ n' ≤ n + 20 ∧ JugO w o' c n' tn') ∧ (j, o') ∈ sub' ∧ (c, lst) ∈ sub' := by
  obtain ⟨P, rfl, hP⟩ := h
  exact ⟨o', ⟨P, n', t, tn', rfl, by omega, hP, h1, h2, hj⟩, m1, m2⟩
set_option maxRecDepth 100000 in
set_option maxHeartbeats 8000000 in
theorem bottom_con (w : World) (j c : Addr) (o : Obj) (n : Int) (tn : Tok) (vs : List Value) (ns : List Int) (k : Nat) (tp : Int) (tt : Tok) (hj : JugO w o c n tn) (hi : IntsAre vs ns) (hne : c ≠ j) (hjs : (j == sysModules) = false) (hns : ns.length ≤ 63) (h0 : 0 ≤ n) (h1 : n ≤ 80000) :
    Con w 850 [.ref j, .int tp tt] [(j, o), (c, listOf vs.toArray k)] (fun v sub' => ∃ o', (∃ (r : Nat) (n' : Int) (t : Tok) (tn' : Tok), v = .int (r : Int) t ∧ 1 ≤ r ∧ r < 10 ^ 9200 ∧ n ≤ n' ∧ n' ≤ n + 20 ∧ JugO w o' c n' tn') ∧ (j, o') ∈ sub' ∧ (c, listOf vs.toArray k) ∈ sub') 12 512 := by
  k_with_none
  k_with "call ref" => (k_dflt ((refine' con_two (next_con _ _ _ _ _ _ _ _ _ _ _ (by assumption) (by assumption) (by assumption) (by assumption) (by assumption) (by omega) (by omega) (by decide) (by decide)) ?k1 ?k2 ?k3 ?k4 ?kU ?kE ?k5 ?kK ?kd ?ku ?_; (case k1 => k_asm); (case k2 => k_asm); (case k3 => k_asm); (case k4 => k_asm); (case kU => k_updF); (case kE => k_mem); (case k5 => k_asm); (case kK => first | exact rfl | assumption); (case kd => ktr_room); (case ku => ktr_units))); intro v9 o9 h9 tk9 p9 F9 N9; obtain ⟨r9, t9, tn9, e9, hr0, hr1, hj9⟩ := p9; subst e9; dsimp only [JugO, JP] at hj9; (try dsimp only at N9); (try dsimp only); (try k_fold))
  k_with "call ref" => (k_dflt ((refine' con_two (size_con _ _ _ _ _ _ _ _ _ (by assumption) (by assumption) (by assumption) (by assumption) (by assumption) (by omega) (by omega)) ?k1 ?k2 ?k3 ?k4 ?kU ?kE ?k5 ?kK ?kd ?ku ?_; (case k1 => k_asm); (case k2 => k_asm); (case k3 => k_asm); (case k4 => k_asm); (case kU => k_updF); (case kE => k_mem); (case k5 => k_asm); (case kK => first | exact rfl | assumption); (case kd => ktr_room); (case ku => ktr_units))); intro v9 o9 h9 tk9 p9 F9 N9; obtain ⟨r9, t9, tn9, e9, hr0, hr1, hj9⟩ := p9; subst e9; dsimp only [JugO, JP] at hj9; (try dsimp only at N9); (try dsimp only); (try k_fold))
  k_with "binaryOp Pow int int" => (first | refine pow_int_small (by omega) (by omega) (abs26 _) ?_ | refine pow_int_small (by omega) (by omega) (by decide) ?_)
  k_with "binaryOp Mult int int" => (refine PyProof.Rows.mul_int ?_ (BN.bits (BN.top (by assumption)) (BN.ten (j := 2000) (by decide) (by assumption)) (by decide)))
  k_with "binaryOp Pow int int" => (refine pow_int_small (by omega) (by omega) (abs23 _) ?_)
  k_with "binaryOp Mod int int" => (refine PyProof.Rows.mod_int' (ne_bot (by assumption) (by assumption)) ?_)
  dsimp only [JugO, JP] at hj
  w_on
  unfold Con
  k_fill
  intro p loose mean mg mb dp un gd cn cs L a ccd cl outer A₀ base h₀ m s Q E B F X N Tp hk hd hu hret
  w_strict ((refine' con_enter ?k1 ?k2 ?k3 ?k4 ?k5 ?kR ?kA ?kF ?kK ?k6 ?k7 ?k8 ?k9 ?kB ?_ ?c2 ?c3 ?c4 ?c5; (case kR => assumption); (case kA => exact rfl); (case kF => exact rfl); (case kK => assumption); (case k1 => k_asm); (case k2 => k_asm); (case k3 => k_asm); (case k4 => k_asm); (case k5 => k_asm); (case k6 => k_is); (case k7 => k_is); (case k8 => ktr_room); (case k9 => exact BindsTo.of_eq rfl); (case c5 => decide); (case kB => exact locs rfl); (case c2 => exact rfl); (case c3 => exact rfl); (case c4 => exact rfl); k_whole; intro g' L' h' tk' F' N' B' X' T' l0; simp only [AllLt, and_true] at l0; (try dsimp only); (try k_lift B'); (try k_fold)); k_steps)
  all_goals (try ((try dsimp only); (try k_unfold); (try dsimp only); (refine leaveS (by assumption) (by assumption) ?_)))
  all_goals first
    | exact bot_post BN.one (by decide) (by assumption) (by omega) (by omega) (by k_mem) (by k_mem)
    | (refine bot_post ?_ ?_ (by assumption) (by omega) (by omega) (by k_mem) (by k_mem); (exact BN.bot (by assumption)); (exact pos_bot (by assumption) (by assumption)))
end Mine
end
section
open PySem PySem.W PyProof.Rows PySem.Spec PySem.Calls
set_option autoImplicit false
set_option maxRecDepth 100000
namespace Mine
section
variable {prog : Program} {w : World}
/-- the answers of == along two lists of values, up to the first that differ -/
inductive EqAll (prog : Program) (w : World) (A : Around) (s : Shared) : List (Value × Value) → Bool → Prop
  | nil : EqAll prog w A s [] true
  | no {u v : Value} {r : List (Value × Value)} : (∀ (Q : Bool → Shared → Prop) (E : Value → Shared → Prop), Q false s → wpAny (model prog w) A (eqBool u v) Q E s) → EqAll prog w A s ((u, v) :: r) false
  | yes {u v : Value} {r : List (Value × Value)} {b : Bool} : (∀ (Q : Bool → Shared → Prop) (E : Value → Shared → Prop), Q true s → wpAny (model prog w) A (eqBool u v) Q E s) → EqAll prog w A s r b → EqAll prog w A s ((u, v) :: r) b
def TupAt (h : Heap) (a : Addr) (vs : List Value) : Prop := ∃ o n, h.get? a = some o ∧ o.cls = .type "tuple" ∧ o.data = .seq vs.toArray n
theorem TupAt.typeIs {s : Shared} {a : Addr} {vs : List Value} (x : TupAt s.heap a vs) : s.TypeIs (.ref a) "tuple" := let ⟨o, _, ho, hc, _⟩ := x; ⟨o, ho, hc⟩
theorem TupAt.inj {h : Heap} {a : Addr} {xs ys : List Value} (x : TupAt h a xs) (y : TupAt h a ys) : xs = ys := by
  obtain ⟨o, n, ho, _, hd⟩ := x
  obtain ⟨o', n', ho', _, hd'⟩ := y
  obtain rfl : o = o' := Option.some.inj (ho.symm.trans ho')
  rw [hd] at hd'
  injection hd' with h1 _
  have := congrArg Array.toList h1
  simpa using this
theorem TupAt.keeps {h h' : Heap} {a d : Addr} {vs : List Value} {o : Obj} {es : Array DictEntry} {ep : Nat} (x : TupAt h a vs) (ho : h.get? d = some o) (hd : o.data = .dict es ep) (hs : Heap.SameBut d h h') : TupAt h' a vs := by
  obtain ⟨o', n, ho', hc, hd'⟩ := x
  have hne : a ≠ d := by
    rintro rfl
    obtain rfl : o' = o := Option.some.inj (ho'.symm.trans ho)
    rw [hd] at hd'; exact nomatch hd'
  exact ⟨o', n, (hs.2 a hne).trans ho', hc, hd'⟩
variable {A : Around} {E : Value → Shared → Prop} {s : Shared}
theorem tup_eq_tree {a b : Addr} {xs ys : List Value} {c : Bool} {P : Fin → Shared → Prop} (hx : TupAt s.heap a xs) (hy : TupAt s.heap b ys) (hl : xs.length = ys.length) (he : EqAll prog w A s (List.zip xs ys) c) (h : P (.done (.ret (.bool c))) s) :
    wpAny (model prog w) A (Builtin.«tuple.__eq__» ⟨[.ref a, .ref b], []⟩) P E s := by
  have hTb := hy.typeIs
  obtain ⟨oa, na, hoa, _, hda⟩ := hx
  obtain ⟨ob, nb, hob, _, hdb⟩ := hy
  show wpAny _ _ (isInstance (.ref b) (.type "tuple") >>= _) _ _ s
  refine wpAny_bind (wpAny_isInstance hTb isSubtype_tuple_tuple ?_)
  simp only [Bool.not_true, Bool.false_eq_true, if_false]
  refine wpAny_bind (wpAny_tupleItemsOf hoa hda ?_)
  refine wpAny_bind (wpAny_tupleItemsOf hob hdb ?_)
  refine wpAny_bind ?_
  refine wpAny_forIn_list _ (fun rest r s' => r.1 = none ∧ s' = s ∧ EqAll prog w A s rest c) _ ?_ ?_ _ _ ⟨rfl, rfl, by simpa using he⟩
  · rintro ⟨u, v⟩ rest r s' ⟨hr, rfl, hE⟩
    cases hE with
    | no hq =>
      refine wpAny_bind (hq _ _ ?_)
      simp only [Bool.not_false, if_true]
      exact wpAny_bind (wpAny_pure (wpAny_pure (wpAny_pure h)))
    | yes hq hE' =>
      refine wpAny_bind (hq _ _ ?_)
      simp only [Bool.not_true, Bool.false_eq_true, if_false]
      exact wpAny_pure ⟨rfl, rfl, hE'⟩
  · rintro ⟨r1, r2⟩ s' ⟨hr, rfl, hE⟩
    simp only at hr
    subst hr
    refine wpAny_pure ?_
    cases hE
    show P (.done (.ret (.bool (xs.toArray.size == ys.toArray.size)))) s'
    rw [show (xs.toArray.size == ys.toArray.size) = true by simp [hl]]
    exact h
theorem tup_eqBool {a b : Addr} {xs ys : List Value} {c : Bool} {Q : Bool → Shared → Prop} (hu : A.units < cLine) (hx : TupAt s.heap a xs) (hy : TupAt s.heap b ys) (hl : xs.length = ys.length) (hab : a = b → c = true) (he : EqAll prog w A.in1 s (List.zip xs ys) c) (h : Q c s) :
    wpAny (model prog w) A (eqBool (.ref a) (.ref b)) Q E s := by
  unfold eqBool
  try with_reducible refine wpAny_holding ?_
  show wpAny _ _ (if (Value.ref a == Value.ref b) = true then _ else _) Q E s
  by_cases hab' : (Value.ref a == Value.ref b) = true
  · rw [if_pos hab']
    have e : a = b := by have := eq_of_beq hab'; injection this
    rw [hab e] at h
    exact wpAny_bind (wpAny_rule (wpAny_pure h))
  · rw [if_neg hab']
    exact wpAny_bind (wpAny_richCompare_same_room (op := .Eq) hx.typeIs hy.typeIs F.slot_tuple_eq
      (wpAny_call_entry F.slot_tuple_eq hx.typeIs F.entry_tuple_eq (tup_eq_tree hx hy hl he ⟨_, rfl, (fun e => nomatch e), wpAny_truthy_bool h⟩) (F.args_tuple_eq_2 _ _)) hu)
theorem tup_quiet {a : Addr} {xs : List Value} {k : Nat} {Q : Bool → Shared → Prop} (hx : TupAt s.heap a xs) (hq : ∀ v ∈ xs, ∀ (Q : Bool → Shared → Prop) (E : Value → Shared → Prop), Q true s → wpAny (model prog w) A (eqIsQuiet k v) Q E s) (h : Q true s) :
    wpAny (model prog w) A (eqIsQuiet (k + 1) (.ref a)) Q E s := by
  have hT := hx.typeIs
  obtain ⟨o, n, ho, _, hd⟩ := hx
  unfold eqIsQuiet
  refine wpAny_bind (wpAny_specialOf hT F.slot_tuple_eq.lookup ?_)
  show wpAny _ _ (isInstance (.ref a) (.type "tuple") >>= _) _ _ s
  refine wpAny_bind (wpAny_isInstance hT isSubtype_tuple_tuple ?_)
  simp only [Bool.not_true, Bool.false_eq_true, if_false]
  refine wpAny_bind (wpAny_seqItems ho hd ?_)
  refine wpAny_bind ?_
  show wpAny _ _ (forIn xs.toArray _ _) _ _ s
  rw [← Array.forIn_toList]
  refine wpAny_forIn_list _ (fun rest r s' => r.1 = none ∧ s' = s ∧ ∀ v ∈ rest, v ∈ xs) _ ?_ ?_ _ _ ⟨rfl, rfl, by simp⟩
  · rintro v rest r s' ⟨hr, rfl, hall⟩
    refine wpAny_bind (hq v (hall v List.mem_cons_self) _ _ ?_)
    simp only [Bool.not_true, Bool.false_eq_true, if_false]
    exact wpAny_pure ⟨rfl, rfl, fun u hu' => hall u (List.mem_cons_of_mem _ hu')⟩
  · rintro ⟨r1, r2⟩ s' ⟨hr, rfl, _⟩
    simp only at hr
    subst hr
    exact wpAny_pure h
/-- the hashes of a list of values; d: the tokens drawn -/
inductive HashAll (prog : Program) (w : World) (A : Around) (hp : Heap) : List Value → List Int → Nat → Prop
  | nil : HashAll prog w A hp [] [] 0
  | cons {v : Value} {vs : List Value} {i : Int} {is : List Int} {d e : Nat} : (∀ (s : Shared) (Q : Int → Shared → Prop) (E : Value → Shared → Prop), s.heap = hp → Q i { s with toks := s.toks + d } → wpAny (model prog w) A (pyHash v) Q E s) → HashAll prog w A hp vs is e →
      HashAll prog w A hp (v :: vs) (i :: is) (d + e)
def tupHash (is : List Int) : Int := reduceHash (Builtin.Tuple.tupleHashOf is)
theorem tup_hash {a : Addr} {xs : List Value} {is : List Int} {d : Nat} {Q : Int → Shared → Prop} (hu : A.units < cLine) (hx : TupAt s.heap a xs) (hh : HashAll prog w A.in1 s.heap xs is d) (h : Q (tupHash is) { s with toks := s.toks + (d + 1) }) :
    wpAny (model prog w) A (pyHash (.ref a)) Q E s := by
  have hT := hx.typeIs
  obtain ⟨o, n, ho, _, hd⟩ := hx
  unfold pyHash
  first | unfold pyHashByItsType | skip
  first | refine wpAny_bind (wpAny_cRoomFor_or (.inr hu) ?_) | skip
  refine wpAny_bind (wpAny_specialOf hT F.slot_tuple_hash.lookup ?_)
  show wpAny _ _ (if (some (Value.builtin "tuple.__hash__") == some Value.none) = true then _ else _) Q E s
  rw [if_neg (by rw [beq_builtin_none]; exact Bool.false_ne_true)]
  refine wpAny_bind (wpAny_specialOf hT F.slot_tuple_hash.lookup ?_)
  show wpAny _ _ (callSpecialIfBoundUnlessNone? (.ref a) "__hash__" _ >>= _) Q E s
  refine wpAny_bind (wpAny_callSpecialIfBoundUnlessNone?_slot hT F.slot_tuple_hash (wpAny_call_entry F.slot_tuple_hash hT F.entry_tuple_hash ?_ (F.args_tuple_hash_1 _)))
  show wpAny _ _ (Builtin.Tuple.tupleItemsOf (.ref a) >>= _) _ _ s
  refine wpAny_bind (wpAny_tupleItemsOf ho hd ?_)
  refine wpAny_bind ?_
  rw [← Array.forIn_toList]
  refine wpAny_forIn_list _
    (fun rest (b : Array Int) s' => ∃ done left d1 d2, is = done ++ left ∧ d = d1 + d2 ∧ HashAll prog w A.in1 s.heap rest left d2 ∧ b.toList = done ∧ s' = { s with toks := s.toks + d1 })
    _ ?_ ?_ _ _ ⟨[], is, 0, d, rfl, (Nat.zero_add d).symm, by simpa using hh, rfl, rfl⟩
  · rintro x rest b s' ⟨done, left, d1, d2, rfl, rfl, hl, hb, rfl⟩
    cases hl with
    | @cons _ _ i is' d' e' h1 hl' =>
      refine wpAny_bind (h1 _ _ _ rfl ?_)
      first
        | exact wpAny_pure ⟨done ++ [i], is', d1 + d', e', by simp, (Nat.add_assoc _ _ _).symm, hl', by simp [hb], by simp [Nat.add_assoc]⟩
        | exact wpAny_bind (wpAny_pure (wpAny_pure ⟨done ++ [i], is', d1 + d', e', by simp, (Nat.add_assoc _ _ _).symm, hl', by simp [hb], by simp [Nat.add_assoc]⟩))
  · rintro b s' ⟨done, left, d1, d2, rfl, rfl, hl, hb, rfl⟩
    cases hl
    rw [List.append_nil] at h
    show wpAny _ _ (retInt (Builtin.Tuple.tupleHashOf b.toList)) _ _ _
    rw [hb]
    refine wpAny_ret_mkInt ?_
    show wpAny _ _ (if (decide (-(2 : Int) ^ 63 ≤ Builtin.Tuple.tupleHashOf done) && decide (Builtin.Tuple.tupleHashOf done < 2 ^ 63)) = true then _ else _) Q E _
    unfold tupHash reduceHash at h
    by_cases hr : (decide (-(2 : Int) ^ 63 ≤ Builtin.Tuple.tupleHashOf done) && decide (Builtin.Tuple.tupleHashOf done < 2 ^ 63)) = true
    · rw [if_pos hr]
      rw [if_pos hr] at h
      exact wpAny_pure (by simpa [Nat.add_assoc] using h)
    · rw [if_neg hr]
      rw [if_neg hr] at h
      exact wpAny_bind (wpAny_rule (wpAny_pure (by simpa [Nat.add_assoc] using h)))
end
end Mine
end
section
open PySem PySem.W PyProof.Rows PySem.Spec PySem.Calls
set_option autoImplicit false
set_option maxRecDepth 100000
namespace Mine
/-- a term's data: an int, or a ratio -/
inductive DK where
  | one (i : Int)
  | two (x y : Int)
deriving DecidableEq
structure BKey where
  op : Str
  sort : Int
  data : DK
deriving DecidableEq
def DataAt (h : Heap) : DK → Value → Prop
  | .one i, v => ∃ t, v = .int i t
  | .two x y, v => ∃ a tx ty, v = .ref a ∧ TupAt h a [.int x tx, .int y ty]
def BKey.ok (k : BKey) : Prop := match k.data with
  | .one i => k.sort = 0 ∧ i = 0
  | .two _ _ => k.sort ≠ 0
def KeyAt (h : Heap) (k : BKey) (a : Addr) : Prop := k.ok ∧ ∃ t e u v, TupAt h a [.str k.op t, .ref e, .int k.sort u, v] ∧ TupAt h e [] ∧ DataAt h k.data v
section
variable {prog : Program} {w : World}
def dataHash : DK → Int
  | .one i => (intKind prog w).hash i
  | .two x y => tupHash [(intKind prog w).hash x, (intKind prog w).hash y]
def dataDraws : DK → Nat
  | .one _ => 1
  | .two _ _ => 3
theorem DataAt.inj {h : Heap} {d e : DK} {v : Value} (x : DataAt h d v) (y : DataAt h e v) : d = e := by
  cases d with
  | one i =>
    obtain ⟨t, rfl⟩ := x
    cases e with
    | one j => obtain ⟨t', e'⟩ := y; cases e'; rfl
    | two a b => obtain ⟨_, _, _, e', _⟩ := y; cases e'
  | two a b =>
    obtain ⟨p, tx, ty, rfl, hp⟩ := x
    cases e with
    | one j => obtain ⟨t', e'⟩ := y; cases e'
    | two c d =>
      obtain ⟨q, tx', ty', e', hq⟩ := y
      cases e'
      have := hp.inj hq
      simp only [List.cons.injEq, Value.int.injEq] at this
      obtain ⟨⟨rfl, _⟩, ⟨rfl, _⟩, _⟩ := this
      rfl
theorem KeyAt.inj {h : Heap} {a : Addr} {x y : BKey} (hx : KeyAt h x a) (hy : KeyAt h y a) : x = y := by
  obtain ⟨_, t, e, u, v, h1, _, h3⟩ := hx
  obtain ⟨_, t', e', u', v', g1, _, g3⟩ := hy
  have := h1.inj g1
  simp only [List.cons.injEq, Value.str.injEq, Value.int.injEq, and_true] at this
  obtain ⟨⟨e1, _⟩, _, ⟨e2, _⟩, e3⟩ := this
  subst e3
  have e4 := h3.inj g3
  cases x; cases y
  simp only at e1 e2 e4
  rw [e1, e2, e4]
theorem DataAt.keeps {h h' : Heap} {d : Addr} {k : DK} {v : Value} {o : Obj} {es : Array DictEntry} {ep : Nat} (x : DataAt h k v) (ho : h.get? d = some o) (hd : o.data = .dict es ep) (hs : Heap.SameBut d h h') : DataAt h' k v := by
  cases k with
  | one i => exact x
  | two a b => obtain ⟨p, tx, ty, e, hp⟩ := x; exact ⟨p, tx, ty, e, hp.keeps ho hd hs⟩
theorem KeyAt.keeps {h h' : Heap} {d a : Addr} {k : BKey} {o : Obj} {es : Array DictEntry} {ep : Nat} (x : KeyAt h k a) (ho : h.get? d = some o) (hd : o.data = .dict es ep) (hs : Heap.SameBut d h h') : KeyAt h' k a := by
  obtain ⟨ok, t, e, u, v, h1, h2, h3⟩ := x
  exact ⟨ok, t, e, u, v, h1.keeps ho hd hs, h2.keeps ho hd hs, h3.keeps ho hd hs⟩
theorem hash_int {A : Around} {hp : Heap} {i : Int} {t : Tok} {vs : List Value} {is : List Int} {e : Nat} (r : HashAll prog w A hp vs is e) : HashAll prog w A hp (.int i t :: vs) ((intKind prog w).hash i :: is) (1 + e) :=
  .cons (fun s Q E _ hq => (intKind prog w).pyHash (by show Value.isInt i (.int i t) = true; simp [Value.isInt]) hq) r
theorem hash_str {A : Around} {hp : Heap} {x : Str} {t : Tok} {vs : List Value} {is : List Int} {e : Nat} (r : HashAll prog w A hp vs is e) : HashAll prog w A hp (.str x t :: vs) ((strKind prog w).hash x :: is) (1 + e) :=
  .cons (fun s Q E _ hq => (strKind prog w).pyHash (strKind_is prog w x t) hq) r
theorem hash_tup {A : Around} {hp : Heap} {a : Addr} {xs : List Value} {js : List Int} {d : Nat} {vs : List Value} {is : List Int} {e : Nat} (hu : A.units < cLine) (hx : TupAt hp a xs) (hh : HashAll prog w A.in1 hp xs js d) (r : HashAll prog w A hp vs is e) :
    HashAll prog w A hp (.ref a :: vs) (tupHash js :: is) (d + 1 + e) :=
  .cons (fun s Q E hs hq => tup_hash hu (hs ▸ hx) (hs ▸ hh) hq) r
theorem key_hash {A : Around} {E : Value → Shared → Prop} {s : Shared} {k : BKey} {a : Addr} {Q : Int → Shared → Prop} (hu : A.units + 1 < cLine) (hk : KeyAt s.heap k a)
    (h : Q (tupHash [(strKind prog w).hash k.op, tupHash [], (intKind prog w).hash k.sort, dataHash (prog := prog) (w := w) k.data]) { s with toks := s.toks + (1 + (0 + 1 + (1 + (dataDraws k.data + 0))) + 1) }) : wpAny (model prog w) A (pyHash (.ref a)) Q E s := by
  obtain ⟨_, t, e, u, v, h1, h2, h3⟩ := hk
  have hu1 : A.in1.units < cLine := hu
  refine tup_hash (Nat.lt_of_succ_lt hu) h1 (hash_str (hash_tup hu1 h2 .nil (hash_int ?_))) h
  cases hd : k.data with
  | one i =>
    rw [hd] at h3
    obtain ⟨t', rfl⟩ := h3
    exact hash_int .nil
  | two x y =>
    rw [hd] at h3
    obtain ⟨p, tx, ty, rfl, hp⟩ := h3
    exact hash_tup hu1 hp (hash_int (hash_int .nil)) .nil
theorem eq_ints {A : Around} {s : Shared} {i j : Int} {t u : Tok} {r : List (Value × Value)} {c : Bool} (hr : i = j → EqAll prog w A s r c) (hn : i ≠ j → c = false) : EqAll prog w A s ((.int i t, .int j u) :: r) c := by
  have hi : ∀ (n : Int) (q : Tok), (intKind prog w).is n (.int n q) = true := fun n q => by show Value.isInt n (.int n q) = true; simp [Value.isInt]
  by_cases e : i = j
  · exact .yes (fun Q E hq => (intKind prog w).eqBool (hi i t) (hi j u) (by rw [decide_eq_true e]; exact hq)) (hr e)
  · rw [hn e]
    exact .no fun Q E hq => (intKind prog w).eqBool (hi i t) (hi j u) (by rw [decide_eq_false e]; exact hq)
theorem eq_strs {A : Around} {s : Shared} {i j : Str} {t u : Tok} {r : List (Value × Value)} {c : Bool} (hr : i = j → EqAll prog w A s r c) (hn : i ≠ j → c = false) : EqAll prog w A s ((.str i t, .str j u) :: r) c := by
  by_cases e : i = j
  · exact .yes (fun Q E hq => (strKind prog w).eqBool (strKind_is prog w i t) (strKind_is prog w j u) (by rw [decide_eq_true e]; exact hq)) (hr e)
  · rw [hn e]
    exact .no fun Q E hq => (strKind prog w).eqBool (strKind_is prog w i t) (strKind_is prog w j u) (by rw [decide_eq_false e]; exact hq)
theorem key_eq {A : Around} {E : Value → Shared → Prop} {s : Shared} {x y : BKey} {a b : Addr} {Q : Bool → Shared → Prop} (hu : A.units + 1 < cLine) (hx : KeyAt s.heap x a) (hy : KeyAt s.heap y b) (h : Q (decide (x = y)) s) : wpAny (model prog w) A (eqBool (.ref a) (.ref b)) Q E s := by
  have hab : a = b → decide (x = y) = true := fun e => by subst e; exact decide_eq_true (hx.inj hy)
  have hu1 : A.in1.units < cLine := hu
  obtain ⟨okx, t, e, u, v, h1, h2, h3⟩ := hx
  obtain ⟨oky, t', e', u', v', g1, g2, g3⟩ := hy
  refine tup_eqBool (Nat.lt_of_succ_lt hu) h1 g1 rfl hab ?_ h
  cases x with
  | mk xo xs xd =>
  cases y with
  | mk yo ys yd =>
  refine eq_strs (fun e1 => ?_) (fun e1 => decide_eq_false fun q => e1 (congrArg BKey.op q))
  simp only at e1
  subst e1
  refine .yes (fun Q E hq => tup_eqBool hu1 h2 g2 rfl (fun _ => rfl) .nil hq) ?_
  refine eq_ints (fun e2 => ?_) (fun e2 => decide_eq_false fun q => e2 (congrArg BKey.sort q))
  simp only at e2
  subst e2
  cases xd with
  | one i =>
    have q1 : xs = 0 ∧ i = 0 := okx
    cases yd with
    | two c d => exact absurd q1.1 oky
    | one j =>
      have q2 : xs = 0 ∧ j = 0 := oky
      obtain ⟨t1, rfl⟩ := h3
      obtain ⟨t2, rfl⟩ := g3
      refine eq_ints (fun e3 => ?_) (fun e3 => absurd (q1.2.trans q2.2.symm) e3)
      subst e3
      rw [decide_eq_true rfl]
      exact .nil
  | two i j =>
    cases yd with
    | one c => exact absurd oky.1 okx
    | two c d =>
      obtain ⟨p, tx, ty, rfl, hp⟩ := h3
      obtain ⟨q, sx, sy, rfl, hq⟩ := g3
      have hin : ∀ (cc : Bool), cc = decide ((⟨xo, xs, .two i j⟩ : BKey) = ⟨xo, xs, .two c d⟩) → EqAll prog w A.in1.in1 s (List.zip [Value.int i tx, Value.int j ty] [Value.int c sx, Value.int d sy]) cc := by
        rintro cc rfl
        refine eq_ints (fun e3 => ?_) (fun e3 => decide_eq_false fun q => e3 ?_)
        · refine eq_ints (fun e4 => ?_) (fun e4 => decide_eq_false fun q => e4 ?_)
          · rw [e3, e4, decide_eq_true rfl]; exact .nil
          · injection q with _ _ q; injection q
        · injection q with _ _ q; injection q
      have hpq : p = q → decide ((⟨xo, xs, .two i j⟩ : BKey) = ⟨xo, xs, .two c d⟩) = true := fun e5 => by
        subst e5
        have := hp.inj hq
        simp only [List.cons.injEq, Value.int.injEq] at this
        obtain ⟨⟨rfl, _⟩, ⟨rfl, _⟩, _⟩ := this
        exact decide_eq_true rfl
      cases hc : decide ((⟨xo, xs, .two i j⟩ : BKey) = ⟨xo, xs, .two c d⟩) with
      | true => exact .yes (fun Q E hQ => tup_eqBool hu1 hp hq rfl (fun _ => rfl) (hin true hc.symm) hQ) .nil
      | false => exact .no fun Q E hQ => tup_eqBool hu1 hp hq rfl (fun e => by rw [hpq e] at hc; exact absurd hc (by decide)) (hin false hc.symm) hQ
theorem quiet_by {A : Around} {E : Value → Shared → Prop} {s : Shared} {v : Value} {k : Nat} {Q : Bool → Shared → Prop} (hv : carriedByValue v = true) (h : Q true s) : wpAny (model prog w) A (eqIsQuiet k v) Q E s := by
  rw [eqIsQuiet_byValue k hv]
  exact wpAny_pure h
theorem key_quiet {A : Around} {E : Value → Shared → Prop} {s : Shared} {k : BKey} {a : Addr} {Q : Bool → Shared → Prop} (hk : KeyAt s.heap k a) (h : Q true s) : wpAny (model prog w) A (eqIsQuiet 8 (.ref a)) Q E s := by
  obtain ⟨_, t, e, u, v, h1, h2, h3⟩ := hk
  refine tup_quiet (k := 7) h1 (fun x hx Q' E' hq => ?_) h
  rcases List.mem_cons.mp hx with rfl | hx
  · exact quiet_by rfl hq
  rcases List.mem_cons.mp hx with rfl | hx
  · exact tup_quiet (k := 6) h2 (fun _ hx => nomatch hx) hq
  rcases List.mem_cons.mp hx with rfl | hx
  · exact quiet_by rfl hq
  rw [List.mem_singleton.mp hx]
  cases hd : k.data with
  | one i =>
    rw [hd] at h3
    obtain ⟨t', rfl⟩ := h3
    exact quiet_by rfl hq
  | two c d =>
    rw [hd] at h3
    obtain ⟨p, tx, ty, rfl, hp⟩ := h3
    refine tup_quiet (k := 6) hp (fun x hx Q' E' hq => ?_) hq
    rcases List.mem_cons.mp hx with rfl | hx
    · exact quiet_by rfl hq
    · rw [List.mem_singleton.mp hx]; exact quiet_by rfl hq
end
def bankKind (prog : Program) (w : World) : HeapKind prog w BKey where
  is := KeyAt
  hash := fun k => tupHash [(strKind prog w).hash k.op, tupHash [], (intKind prog w).hash k.sort, dataHash (prog := prog) (w := w) k.data]
  draws := fun k => 1 + (0 + 1 + (1 + (dataDraws k.data + 0))) + 1
  room := fun A => A.units + 1 < cLine
  inj := fun hx hy => hx.inj hy
  keeps := fun x ho hd hs => x.keeps ho hd hs
  pyHash := fun hu hk h => key_hash hu hk h
  eqBool := fun hu hx hy h => key_eq hu hx hy h
  quiet := fun hk h => key_quiet hk h
end Mine
end
section
open PySem PySem.W PyProof.Rows PySem.Spec PySem.Calls
set_option autoImplicit false
set_option maxRecDepth 100000
namespace Mine
def TupIn (tl : List (Addr × Obj)) (a : Addr) (vs : List Value) : Prop := ∃ n, (a, ({ cls := .type "tuple", data := .seq vs.toArray n } : Obj)) ∈ tl
theorem TupIn.at {tl news : List (Addr × Obj)} {a : Addr} {vs : List Value} {h₀ h : Heap} {L : Addr} (x : TupIn tl a vs) (N : News h₀ L h news) (hs : ∀ p ∈ tl, p ∈ news) : TupAt h a vs := let ⟨n, hm⟩ := x; ⟨_, n, (N _ (hs _ hm)).1, rfl, rfl⟩
theorem TupIn.mono {tl tl' : List (Addr × Obj)} {a : Addr} {vs : List Value} (x : TupIn tl a vs) (hs : ∀ p ∈ tl, p ∈ tl') : TupIn tl' a vs := let ⟨n, hm⟩ := x; ⟨n, hs _ hm⟩
def DataIn (tl : List (Addr × Obj)) : DK → Value → Prop
  | .one i, v => ∃ t, v = .int i t
  | .two x y, v => ∃ a tx ty, v = .ref a ∧ TupIn tl a [.int x tx, .int y ty]
theorem DataIn.at {tl news : List (Addr × Obj)} {d : DK} {v : Value} {h₀ h : Heap} {L : Addr} (x : DataIn tl d v) (N : News h₀ L h news) (hs : ∀ p ∈ tl, p ∈ news) : DataAt h d v := by
  cases d with
  | one i => exact x
  | two a b => obtain ⟨p, tx, ty, e, hp⟩ := x; exact ⟨p, tx, ty, e, hp.at N hs⟩
theorem DataIn.mono {tl tl' : List (Addr × Obj)} {d : DK} {v : Value} (x : DataIn tl d v) (hs : ∀ p ∈ tl, p ∈ tl') : DataIn tl' d v := by
  cases d with
  | one i => exact x
  | two a b => obtain ⟨p, tx, ty, e, hp⟩ := x; exact ⟨p, tx, ty, e, hp.mono hs⟩
def KeyIn (tl : List (Addr × Obj)) (k : BKey) (a : Addr) : Prop := k.ok ∧ ∃ t e u v, TupIn tl a [.str k.op t, .ref e, .int k.sort u, v] ∧ TupIn tl e [] ∧ DataIn tl k.data v
theorem KeyIn.at {tl news : List (Addr × Obj)} {k : BKey} {a : Addr} {h₀ h : Heap} {L : Addr} (x : KeyIn tl k a) (N : News h₀ L h news) (hs : ∀ p ∈ tl, p ∈ news) : KeyAt h k a := by
  obtain ⟨ok, t, e, u, v, h1, h2, h3⟩ := x
  exact ⟨ok, t, e, u, v, h1.at N hs, h2.at N hs, h3.at N hs⟩
theorem KeyIn.mono {tl tl' : List (Addr × Obj)} {k : BKey} {a : Addr} (x : KeyIn tl k a) (hs : ∀ p ∈ tl, p ∈ tl') : KeyIn tl' k a := by
  obtain ⟨ok, t, e, u, v, h1, h2, h3⟩ := x
  exact ⟨ok, t, e, u, v, h1.mono hs, h2.mono hs, h3.mono hs⟩
section
variable {prog : Program} {w : World}
def DictB (prog : Program) (w : World) (odn : Obj) (xs : List (BKey × Addr × Value)) : Prop := odn.ExactDict ∧ ∃ es ep, odn.data = .dict es ep ∧ es.toList = xs.map (entryOfKey (bankKind prog w)) ∧ (xs.map (·.1)).Nodup
def NumB (tl : List (Addr × Obj)) (rows : List BKey) (xs : List (BKey × Addr × Value)) : Prop := ∀ x ∈ xs, KeyIn tl x.1 x.2.1 ∧ ∃ (i : Nat) (t : Tok), x.2.2 = .int (i : Int) t ∧ 1 ≤ i ∧ rows[i]? = some x.1
theorem DictB.at {h₀ h : Heap} {L dn : Addr} {news tl : List (Addr × Obj)} {odn : Obj} {rows : List BKey} {xs : List (BKey × Addr × Value)} (N : News h₀ L h news) (hm : (dn, odn) ∈ news) (hb : DictB prog w odn xs) (hn : NumB tl rows xs) (hs : ∀ p ∈ tl, p ∈ news) : h.DictOfH (bankKind prog w) dn xs := by
  obtain ⟨ex, es, ep, hd, he, hnd⟩ := hb
  exact ⟨odn, es, ep, (N _ hm).1, ex, hd, he, fun x hx => (hn x hx).1.at N hs, hnd⟩
variable {A : Around} {E : Value → Shared → Prop} {s : Shared} {h₀ : Heap} {L dn a : Addr} {m : Str → Option Value} {news tl : List (Addr × Obj)} {odn : Obj} {rows : List BKey} {xs : List (BKey × Addr × Value)} {key : BKey}
theorem num_get {z : Tok} {Q : Value → Shared → Prop} (hu : A.units + 4 < cLine) (N : News h₀ L s.heap news) (hm : (dn, odn) ∈ news) (hlo : (dn == sysModules) = false) (hb : DictB prog w odn xs) (hn : NumB tl rows xs) (hs : ∀ p ∈ tl, p ∈ news) (hk : KeyIn news key a)
    (hit : ∀ (i : Nat) (t : Tok) (tk : Nat), 1 ≤ i → rows[i]? = some key → Q (.int (i : Int) t) { s with toks := tk }) (miss : ∀ tk : Nat, atKey xs key = none → Q (.int 0 z) { s with toks := tk }) :
    wpAny (model prog w) A (call (.builtin "dict.get") [.ref dn, .ref a, .int 0 z]) Q E s := by
  have hD := DictB.at (prog := prog) (w := w) N hm hb hn hs
  have hd := meetsH_dict_get_default (bankKind prog w) dn a hlo (.int 0 z)
  refine call_meetsIn F.slot_dict_get hD.typeIs F.entry_dict_get (F.args_dict_get_3 _ _ _) hd ⟨?_, key, xs, hk.at N (fun p hp => hp), hD, ?_⟩
  · show A.units + 1 + 1 < cLine
    omega
  · show Q _ _
    cases hf : atKey xs key with
    | none => exact miss _ hf
    | some q =>
      obtain ⟨x, hx, e1, e2⟩ : ∃ x ∈ xs, x.1 = key ∧ x.2 = q := by
        unfold atKey at hf
        cases hfind : xs.find? (fun x => decide (x.1 = key)) with
        | none => rw [hfind] at hf; cases hf
        | some x =>
          rw [hfind] at hf
          have h1 := List.find?_some hfind
          exact ⟨x, List.mem_of_find?_eq_some hfind, by simpa using h1, by simpa using hf⟩
      obtain ⟨_, i, t, e, h1, h2⟩ := hn x hx
      simp only [Option.map_some, Option.getD_some]
      subst e2
      rw [e]
      exact hit i t _ h1 (e1 ▸ h2)
theorem num_set {v : Value} {g : Obj → List (Addr × Obj)} {Q : Unit → Shared → Prop} (hu : A.units + 4 < cLine) (F : Fr h₀ L s.heap m) (N : News h₀ L s.heap news) (U : UpdF dn odn news g) (hb : DictB prog w odn xs) (hn : NumB tl rows xs) (hs : ∀ p ∈ tl, p ∈ news) (hk : KeyIn news key a)
    (hnone : atKey xs key = none) (hsz : xs.length ≤ 1000)
    (h : ∀ h' o' tk, Fr h₀ L h' m → News h₀ L h' (g o') → DictB prog w o' (xs ++ [(key, a, v)]) → Q () { s with heap := h', toks := tk }) : wpAny (model prog w) A (setItem (.ref dn) (.ref a) v) Q E s := by
  obtain ⟨pre, post, rfl, hg, ha, hb'⟩ := U.split
  have hm := N (dn, odn) (List.mem_append_right _ (.head _))
  have hD := DictB.at (prog := prog) (w := w) N (List.mem_append_right _ (.head _)) hb hn hs
  refine wpAny_setItem_heap (knd := bankKind prog w) (hsz := by rw [sizeLine_eq]; omega) (by show A.units + 1 + 1 < cLine; omega) (hk.at N fun p hp => hp) hD fun h' hmm hs' => ?_
  rw [storedH_new hnone] at hmm
  obtain ⟨o', es, ep, ho', hex, hd', he, _, hnd⟩ := hmm
  exact h h' o' _ (F.change hs' hm.2.1 hm.2.2) (hg o' ▸ N.setIn ha hb' hs' ho') ⟨hex, es, ep, hd', he, hnd⟩
end
end Mine
end
section
open PySem PySem.W PyProof.Rows PySem.Spec PySem.Calls
set_option autoImplicit false
set_option maxRecDepth 100000
namespace Mine
theorem rv_owner : Manifest.owners.lookup (String.ofList ['d', 'e', 's', 'r', 'e', 'v', 'e', 'r'].reverse) = some Manifest.sig_reversed := by kernel_rfl
theorem rv_init : Slot "reversed" "__init__" "object.__init__" :=
  .of (owner := "object") (n := "__init__") (by rw [typeLookup_type, builtinLookup_eq_fast]; kernel_rfl) (by decide +kernel) (by decide +kernel) (by decide +kernel)
    (by first | exact .inl (by decide +kernel) | exact .inr (by decide +kernel)) (by rw [isSubtype_type]; kernel_rfl)
theorem rv_called : TypeCalled "reversed" "reversed.__new__" "object.__init__" :=
  ⟨by decide +kernel, by decide +kernel, ⟨_, _, F.mro_reversed⟩, madeBy_type F.mro_reversed F.lookup_reversed_new (by decide +kernel), by decide +kernel, by rw [isSubtype_type]; kernel_rfl, rv_init⟩
theorem rv_next : Slot "reversed" "__next__" "reversed.__next__" :=
  .of (owner := "reversed") (n := "__next__") (by rw [typeLookup_type, builtinLookup_eq_fast]; kernel_rfl) (by decide +kernel) (by decide +kernel) (by decide +kernel)
    (by first | exact .inl (by decide +kernel) | exact .inr (by decide +kernel)) (by rw [isSubtype_type]; kernel_rfl)
theorem rv_iter : Slot "reversed" "__iter__" "reversed.__iter__" :=
  .of (owner := "reversed") (n := "__iter__") (by rw [typeLookup_type, builtinLookup_eq_fast]; kernel_rfl) (by decide +kernel) (by decide +kernel) (by decide +kernel)
    (by first | exact .inl (by decide +kernel) | exact .inr (by decide +kernel)) (by rw [isSubtype_type]; kernel_rfl)
theorem rv_entry_next : entryFor table "reversed.__next__" = some Builtin.«reversed.__next__» := entryFor_of_tree (by kernel_rfl)
theorem rv_entry_iter : entryFor table "reversed.__iter__" = some Builtin.«dict_keyiterator.__iter__» :=
  entryFor_alias (id' := "dict_keyiterator.__iter__") (by kernel_rfl) (by first | rfl | decide +kernel | (unfold String.splitOn; simp +decide [String.splitOnAux])) (by decide +kernel) (by kernel_rfl)
theorem rv_args_next (a : Value) : argsOk "reversed.__next__" ⟨[a], []⟩ := by
  unfold argsOk; rw [signature?_of (id := "reversed.__next__") (n := ['_', '_', 't', 'x', 'e', 'n', '_', '_']) (o := ['d', 'e', 's', 'r', 'e', 'v', 'e', 'r']) (by kernel_rfl) rv_owner]; kernel_rfl
theorem rv_args_iter (a : Value) : argsOk "reversed.__iter__" ⟨[a], []⟩ := by
  unfold argsOk; rw [signature?_of (id := "reversed.__iter__") (n := ['_', '_', 'r', 'e', 't', 'i', '_', '_']) (o := ['d', 'e', 's', 'r', 'e', 'v', 'e', 'r']) (by kernel_rfl) rv_owner]; kernel_rfl
theorem rv_tup_none : typeLookup (.type "tuple") "__reversed__" = pure none := by rw [typeLookup_type, builtinLookup_eq_fast]; kernel_rfl
theorem rv_tup_dict : isSubtype (.type "tuple") (.type "dict") = pure false := by rw [isSubtype_type]; kernel_rfl
section
variable {prog : Program} {w : World} {A : Around} {E : Value → Shared → Prop} {s : Shared}
def revT (e : Addr) : Obj := { cls := .type "reversed", data := .fields #[.ref e, rawInt (-1)] }
theorem rv_code {e : Addr} {Q₁ : Value → Shared → Prop} (hl : IsTup s.heap e #[])
    (h : Q₁ (.ref s.heap.objs.size) { s with heap := s.heap.push (revT e), toks := s.toks + 1 + 1 }) :
    codeAny (model prog w) A (.call (.builtin "reversed.__new__") ⟨[.type "reversed", .ref e], []⟩) (wants Q₁ E) s := by
  refine codeAny_of_tree ?_
  show wpAny _ A.in1 (do checkBuiltinCall "reversed.__new__" ⟨[.type "reversed", .ref e], []⟩; again (.builtin "reversed.__new__" ⟨[.type "reversed", .ref e], []⟩)) _ _ s
  refine wpAny_bind (wpAny_of_eq (F.newCall_reversed_1 _) (wpAny_pure ⟨plainId_quiet F.plain_reversed_new _, codeAny_builtin F.entry_reversed_new ?_⟩))
  rw [Around.under_plainId F.plain_reversed_new _]
  unfold Builtin.«reversed.__new__»
  refine wpAny_bind (wpAny_of_eq (newClass_reversed _) ?_)
  try dsimp only
  refine wpAny_bind (wpAny_of_eq (a := ()) (by first | rfl | kernel_rfl) ?_)
  refine wpAny_bind (wpAny_of_eq (a := ()) (by first | rfl | kernel_rfl) ?_)
  try dsimp only
  refine wpAny_bind (wpAny_specialOf hl.typeIs rv_tup_none ?_)
  try dsimp only
  refine wpAny_bind ?_
  show wpAny _ _ (isInstance (.ref e) (.type "dict") >>= _) _ _ s
  refine wpAny_bind (wpAny_isInstance hl.typeIs rv_tup_dict ?_)
  simp only [Bool.false_eq_true, if_false]
  show wpAny _ _ (specialOf (.ref e) (Str.ofString "__getitem__") >>= _) _ _ s
  refine wpAny_bind (wpAny_specialOf hl.typeIs F.slot_tuple_getitem.lookup ?_)
  try dsimp only
  rw [if_pos (by decide)]
  refine wpAny_pure ?_
  simp only [Bool.not_true, Bool.false_eq_true, if_false]
  refine wpAny_bind (len_tuple hl (by decide) ?_)
  refine wpAny_bind (wpAny_pure ?_)
  try dsimp only
  refine wpAny_bind ?_
  show wpAny _ _ (newObj (.type "reversed") (.fields [Value.ref e, rawInt (((#[] : Array Value).size : Int) - 1)].toArray)) _ _ _
  exact wpAny_newObj_type (wpAny_pure h)
theorem rv_call {e : Addr} {Q : Value → Shared → Prop} (hl : IsTup s.heap e #[])
    (h : Q (.ref s.heap.objs.size) { s with heap := s.heap.push (revT e), toks := s.toks + 1 + 1 }) : wpAny (model prog w) A (call (.type "reversed") [.ref e]) Q E s := by
  refine callType_codes (Q₁ := fun obj s₁ => obj = .ref s.heap.objs.size ∧ s₁ = { s with heap := s.heap.push (revT e), toks := s.toks + 1 + 1 }) rv_called (F.typeCall_reversed_1 _) F.entry_object_init (rv_code hl ⟨rfl, rfl⟩) ?_
  rintro obj s₁ ⟨rfl, rfl⟩
  have hT : ({ s with heap := s.heap.push (revT e), toks := s.toks + 1 + 1 } : Shared).TypeIs (.ref s.heap.objs.size) "reversed" := ⟨_, Heap.get?_push_size _ rfl, rfl⟩
  refine ⟨hT, F.args_object_init_2 _ _, ?_⟩
  exact object_init_meets (rest := [.ref e]) rv_called.init.lookup rv_called.made (by decide) prog w A.in1 (wants (fun r s₂ => r = .none ∧ Q (.ref s.heap.objs.size) s₂) E) _ ⟨hT, rfl, h⟩
abbrev IsRevT (h : Heap) (a e : Addr) : Prop := h.get? a = some { cls := .type "reversed", dict := none, data := .fields #[.ref e, rawInt (-1)], slots := #[] }
theorem IsRevT.typeIs {a e : Addr} (x : IsRevT s.heap a e) : s.TypeIs (.ref a) "reversed" := ⟨_, x, rfl⟩
theorem rv_pyIter {it e : Addr} {Q : Value → Shared → Prop} (hit : IsRevT s.heap it e) (h : Q (.ref it) s) : wpAny (model prog w) A (pyIter (.ref it)) Q E s := by
  refine wpAny_pyIter_slot (IsRevT.typeIs hit) rv_iter (wpAny_call_entry rv_iter (IsRevT.typeIs hit) rv_entry_iter ?_ (rv_args_iter _))
  show wpAny _ _ (ret (.ref it)) _ _ s
  exact wpAny_pure ⟨_, rfl, "reversed", _, (IsRevT.typeIs hit), rv_next.lookup, h⟩
theorem rv_end {it e : Addr} {Q : Option Value → Shared → Prop} (hh : A.handled = none) (hit : IsRevT s.heap it e)
    (hQ : ∀ h', Heap.ExtBut it s.heap h' → Q none { s with heap := h' }) : wpAny (model prog w) A (pyNext (.ref it)) Q E s := by
  unfold pyNext
  refine wpAny_bind (wpAny_attempt (wpAny_callSpecial?_slot (name := Str.ofString "__next__") (IsRevT.typeIs hit) rv_next
    (wpAny_call_entry rv_next (IsRevT.typeIs hit) rv_entry_next ?_ (rv_args_next _))))
  unfold Builtin.«reversed.__next__»
  refine wpAny_bind (wpAny_of_eq (a := (Value.ref it, [])) rfl ?_)
  try dsimp only
  refine wpAny_bind (wpAny_field hit rfl (x := .ref e) rfl ?_)
  refine wpAny_bind (wpAny_field hit rfl (x := rawInt (-1)) rfl ?_)
  show wpAny _ _ (if (-1 : Int) < 0 then _ else _) _ _ s
  rw [if_pos (by decide)]
  refine wpAny_bind (wpAny_rule ?_)
  refine wpAny_bind ?_
  show wpAny _ _ (setField (.ref it) 1 (rawInt (-1)) >>= fun _ => setField (.ref it) 0 .none) _ _ _
  refine wpAny_bind (wpAny_setField_rec hit (by simp) fun h₁ e₁ s₁ => ?_)
  refine wpAny_setField_rec e₁ (by simp) fun h₂ e₂ s₂ => ?_
  refine wpAny_bind ?_
  show wpAny _ _ (newExc (.type "StopIteration") [] >>= _) _ _ _
  refine wpAny_bind ?_
  simp only [newExc, newTuple]
  refine wpAny_bind (wpAny_newObj_type ?_ (by size_fits))
  refine wpAny_bind (m := firstArgMember _ _) (wpAny_of_eq (a := Value.none) (by first | rfl | (simp only [firstArgMember]; rfl)) ?_)
  refine wpAny_newObj_type ?_ (by size_fits)
  simp only [raiseNew]
  refine wpAny_bind (wpAny_handled ?_)
  first | rw [show A.in1.handled = none from hh] | rw [hh]
  refine wpAny_bind (wpAny_pure (wpAny_throw ?_))
  refine wpAny_bind (wpAny_isInstance (T := "StopIteration") (b := true) ⟨_, Heap.get?_push_size _ rfl, rfl⟩ isSubtype_stop ?_)
  refine wpAny_pure (hQ _ (Heap.ExtBut.push (Heap.ExtBut.push ?_ _) _))
  exact fun b o hb hq => s₂.extBut b o hb (s₁.extBut b o hb hq)
end
theorem rv_walks {prog : Program} {w : World} {A : Around} (hh : A.handled = none) (I e : Addr) : Walks prog w A I [I] [I] 0 (fun _ _ => False) (fun i h => i = 0 ∧ IsRevT h I e) where
  sub := fun b hb => hb
  frame := fun _ _ _ x hk => ⟨x.1, hk I (by simp) _ x.2⟩
  item := fun i s Q E hi x hQ => absurd hi (Nat.not_lt_zero _)
  done := fun s Q E x hQ => rv_end hh x.2 fun h' he' => hQ h' s.toks fun b o hb eo => he' b o (fun h => hb (by simp [h])) eo
  self := fun _ _ _ _ x hQ => rv_pyIter x.2 hQ
section
variable {prog : Program} {w : World} {A : Around} {E : Value → Shared → Prop} {s : Shared} {env : Env} {h₀ : Heap} {L : Addr} {m : Str → Option Value} {x : Str} {body : List Stmt}
theorem rv_made {e : Addr} {k : Nat} {news : List (Addr × Obj)} {Q : Value → Shared → Prop} (F : Fr h₀ L s.heap m) (N : News h₀ L s.heap news) (hm : (e, ({ cls := .type "tuple", data := .seq #[] k } : Obj)) ∈ news)
    (h : ∀ D h' tk', Fr h₀ L h' m → News h₀ L h' ((D, revT e) :: news) → (∀ p ∈ news, p.1 < D) → Q (.ref D) { s with heap := h', toks := tk' }) : wpAny (model prog w) A (call (.type "reversed") [.ref e]) Q E s := by
  refine rv_call ⟨_, (N _ hm).1, rfl, k, rfl⟩ ?_
  exact h _ _ _ (F.push _) (News.push F N _) fun p hp => Heap.lt_size (N p hp).1
theorem rv_loop {I e : Addr} {m₀ : Str → Option Value} {news : List (Addr × Obj)} {Q : Flow → Shared → Prop}
    (hh : A.handled = none) (F : Fr h₀ env.locals s.heap m₀) (N : News h₀ env.locals s.heap ((I, revT e) :: news)) (hoff : ∀ p ∈ news, p.1 ≠ I)
    (done : ∀ h tk, Fr h₀ env.locals h m₀ → News h₀ env.locals h news → Q .next { s with heap := h, toks := tk }) :
    wpAny (model prog w) A (pyIter (.ref I)) (fun it s₂ => LoopAtV prog w A h₀ env x body Q E it s₂) E s := by
  have hI := N _ (List.mem_cons_self ..)
  refine rv_pyIter hI.1 ?_
  refine ⟨I, _, _, 0, _, _, m₀, news, fun _ m₁ n₁ => m₁ = m₀ ∧ n₁ = news, rfl, rv_walks (e := e) hh I, ?_, ?_, ?_, ⟨rfl, hI.1⟩, F, (fun p hp => N p (List.mem_cons_of_mem _ hp)), ⟨rfl, rfl⟩, ?_, ?_⟩
  · intro hmm
    exact hI.2.1 (List.mem_singleton.mp hmm).symm
  · intro b hb
    rw [List.mem_singleton.mp hb]
    exact hI.2.2
  · intro p hp hq
    exact hoff p hp (List.mem_singleton.mp hq)
  · intro i v m₁ news₁ s₁ own _ hi
    exact absurd hi (Nat.not_lt_zero _)
  · rintro h' tk m' news' F' N' _ ⟨rfl, rfl⟩
    exact done h' tk F' N'
/-- a loop over a tuple without items -/
theorem tn_loop {e : Addr} {k : Nat} {m₀ : Str → Option Value} {news : List (Addr × Obj)} {Q : Flow → Shared → Prop}
    (hh : A.handled = none) (F : Fr h₀ env.locals s.heap m₀) (N : News h₀ env.locals s.heap news) (hm : (e, ({ cls := .type "tuple", data := .seq #[] k } : Obj)) ∈ news)
    (done : ∀ h tk, Fr h₀ env.locals h m₀ → News h₀ env.locals h news → Q .next { s with heap := h, toks := tk }) :
    wpAny (model prog w) A (pyIter (.ref e)) (fun it s₂ => LoopAtV prog w A h₀ env x body Q E it s₂) E s := by
  have hI := N _ hm
  have ht : s.heap.IsTuple e #[] := ⟨_, hI.1, rfl, k, rfl⟩
  refine wpAny_pyIter_tuple ht ?_
  have hne : e ≠ s.heap.objs.size := Nat.ne_of_lt (Heap.lt_size hI.1)
  refine ⟨_, _, _, _, _, _, m₀, news, fun _ m₁ n₁ => m₁ = m₀ ∧ n₁ = news, rfl, Walks.tuple (prog := prog) (w := w) hh s.heap.objs.size e hne #[], ?_, ?_, ?_, ⟨⟨_, Heap.get?_push_size _ rfl, rfl, rfl⟩, ⟨_, Heap.get?_push_of_some _ hI.1, rfl, k, rfl⟩⟩, F.push _, (fun p hp => ⟨Heap.get?_push_of_some _ (N p hp).1, (N p hp).2⟩), ⟨rfl, rfl⟩, ?_, ?_⟩
  · intro hmm
    rcases List.mem_cons.mp hmm with q | q
    · exact absurd F.ns.lt (q ▸ Nat.lt_irrefl _)
    · exact hI.2.1 (List.mem_singleton.mp q).symm
  · intro b hb
    rw [List.mem_singleton.mp hb]
    exact next_is_new F
  · intro p hp hq
    exact absurd (Heap.lt_size (N p hp).1) ((List.mem_singleton.mp hq) ▸ Nat.lt_irrefl _)
  · intro i v m₁ news₁ s₁ own _ hi
    exact absurd hi (Nat.not_lt_zero _)
  · rintro h' tk m' news' F' N' _ ⟨rfl, rfl⟩
    exact done h' tk F' N'
end
end Mine
end
section
open PySem PySem.W PyProof.Rows PySem.Spec PySem.Calls PySem.NumText
set_option autoImplicit false
namespace Mine
abbrev prg : Program := PySem.Challenge.rw_sj0100_01.row.prog
/-- the rows of a bank's parallel lists -/
structure BRows (L : Led) (os gs ss ds : List Value) (rows : List BKey) : Prop where
  n1 : os.length = rows.length
  n2 : gs.length = rows.length
  n3 : ss.length = rows.length
  n4 : ds.length = rows.length
  at_ : ∀ (i : Nat) (k : BKey), rows[i]? = some k → (∃ t, os[i]? = some (Value.str k.op t)) ∧ (∃ e, gs[i]? = some (Value.ref e) ∧ TupIn L e []) ∧ (∃ u, ss[i]? = some (Value.int k.sort u)) ∧ (∃ v, ds[i]? = some v ∧ DataIn L k.data v)
theorem BRows.mono {L L' : Led} {os gs ss ds : List Value} {rows : List BKey} (x : BRows L os gs ss ds rows) (h : ∀ p ∈ L, p ∈ L') : BRows L' os gs ss ds rows :=
  ⟨x.n1, x.n2, x.n3, x.n4, fun i k hk => by
    obtain ⟨a, ⟨e, b1, b2⟩, c, v, d1, d2⟩ := x.at_ i k hk
    exact ⟨a, ⟨e, b1, b2.mono h⟩, c, v, d1, d2.mono h⟩⟩
theorem BRows.push {L : Led} {os gs ss ds : List Value} {rows : List BKey} (x : BRows L os gs ss ds rows) {k : BKey} {t u : Tok} {e : Addr} {v : Value} (he : TupIn L e []) (hv : DataIn L k.data v) :
    BRows L (os ++ [.str k.op t]) (gs ++ [.ref e]) (ss ++ [.int k.sort u]) (ds ++ [v]) (rows ++ [k]) := by
  refine ⟨by simp [x.n1], by simp [x.n2], by simp [x.n3], by simp [x.n4], fun i k' hk => ?_⟩
  rw [List.getElem?_append] at hk
  split at hk
  · rename_i hlt
    obtain ⟨⟨t, a⟩, ⟨e, b1, b2⟩, ⟨u, c⟩, v, d1, d2⟩ := x.at_ i k' hk
    refine ⟨⟨t, ?_⟩, ⟨e, ?_, b2⟩, ⟨u, ?_⟩, v, ?_, d2⟩
    · rw [List.getElem?_append_left (by rw [x.n1]; exact hlt)]; exact a
    · rw [List.getElem?_append_left (by rw [x.n2]; exact hlt)]; exact b1
    · rw [List.getElem?_append_left (by rw [x.n3]; exact hlt)]; exact c
    · rw [List.getElem?_append_left (by rw [x.n4]; exact hlt)]; exact d1
  · rename_i hlt
    have hi : i = rows.length := by
      have := (List.getElem?_eq_some_iff.mp hk).1
      simp at this
      omega
    subst hi
    simp at hk
    subst hk
    have key : ∀ (l : List Value) (z : Value), l.length = rows.length → (l ++ [z])[rows.length]? = some z := fun l z e => by rw [← e]; simp
    exact ⟨⟨t, key _ _ x.n1⟩, ⟨e, key _ _ x.n2, he⟩, ⟨u, key _ _ x.n3⟩, v, key _ _ x.n4, hv⟩
/-- the bank's table: numbers of rows -/
structure BTab (w : World) (L : Led) (os gs ss ds : List Value) (odn : Obj) (rows : List BKey) (xs : List (BKey × Addr × Value)) : Prop where
  rows_ : BRows L os gs ss ds rows
  dict : DictB prg w odn xs
  num : NumB L rows xs
  few : xs.length ≤ rows.length
  one : 1 ≤ rows.length
/-- what lies at the bank's place: the object, its fields, four lists, the table, then tuples -/
abbrev bankL (b db lo la ls ld dn : Addr) (es : List DictEntry) (nn : Nat) (os gs ss ds : List Value) (k1 k2 k3 k4 : Nat) (odn : Obj) (tl : Led) : Led :=
  (b, instObj 724 db) :: (db, dictOf es nn) :: (lo, listOf os.toArray k1) :: (la, listOf gs.toArray k2) :: (ls, listOf ss.toArray k3) :: (ld, listOf ds.toArray k4) :: (dn, odn) :: tl
structure BEs (lo la ls ld dn : Addr) (es : List DictEntry) : Prop where
  e1 : getL (Str.ofString "term_ops") es = some (some (.ref lo))
  e2 : getL (Str.ofString "term_args") es = some (some (.ref la))
  e3 : getL (Str.ofString "term_sorts") es = some (some (.ref ls))
  e4 : getL (Str.ofString "term_datas") es = some (some (.ref ld))
  e5 : getL (Str.ofString "numbers") es = some (some (.ref dn))
section
variable {w : World} {A : Around} {E : Value → Shared → Prop} {s : Shared} {h₀ : Heap} {L dn q e : Addr} {news tl : Led} {odn : Obj} {xs : List (BKey × Addr × Value)}
theorem dn_method {pl : Sem Bool} {Q : Value × List Value → Shared → Prop} (N : News h₀ L s.heap news) (hp : (dn, odn) ∈ news) (hd : DictB prg w odn xs) (h : Q (.builtin "dict.get", [.ref dn]) s) : wpAny (model prg w) A (getMethod (.ref dn) "get" pl) Q E s :=
  getMethod_builtin ⟨_, (N _ hp).1, hd.1.1⟩ PySem.F.plainAttrs_dict PySem.F.slot_dict_get PySem.F.type_dict_get (fun a e => by cases e; exact ⟨_, (N _ hp).1, hd.1.2.1⟩) h
theorem keyIn_of {key : BKey} {t1 t2 : Tok} {v : Value} {n : Nat} (hok : key.ok) (hte : TupIn tl e []) (hv : DataIn tl key.data v) (hm : (q, ({ cls := .type "tuple", data := .seq #[.str key.op t1, .ref e, .int key.sort t2, v] n } : Obj)) ∈ news) (hs : ∀ p ∈ tl, p ∈ news) : KeyIn news key q :=
  ⟨hok, t1, e, t2, v, ⟨n, hm⟩, hte.mono hs, hv.mono hs⟩
theorem eq_no' {prog : Program} {Q : Value → Shared → Prop} {i : Nat} {t u : Tok} (hi : 1 ≤ i) (h : Q (.bool false) s) : wpAny (model prog w) A (compareOp .Eq (.int (i : Int) t) (.int 0 u)) Q E s := by
  refine PyProof.Rows.eq_int ?_
  rw [beq_eq_false_iff_ne.mpr (by omega)]
  exact h
end
abbrev MakeP (w : World) (b db lo la ls ld dn : Addr) (es : List DictEntry) (nn : Nat) (led tl : Led) (rows : List BKey) (key : BKey) (r : Value) (sub' : Led) : Prop :=
  ∃ (i : Nat) (t : Tok) (os' gs' ss' ds' : List Value) (k1' k2' k3' k4' : Nat) (odn' : Obj) (nw : Led) (rows' : List BKey) (xs' : List (BKey × Addr × Value)), r = .int (i : Int) t ∧ 1 ≤ i ∧ rows'[i]? = some key ∧ BTab w (nw ++ tl) os' gs' ss' ds' odn' rows' xs' ∧ rows'.length ≤ rows.length + 1 ∧ sub' = bankL b db lo la ls ld dn es nn os' gs' ss' ds' k1' k2' k3' k4' odn' (nw ++ tl) ∧ ∀ p ∈ nw, ∀ q ∈ led, q.1 ≠ p.1
section
variable {α : Type} {a b c d e f g x p : α} {t u : List α}
theorem mem_rot7 (h : p ∈ a :: b :: c :: d :: e :: f :: g :: x :: t) : p ∈ x :: a :: b :: c :: d :: e :: f :: g :: t := (List.perm_middle (l₁ := [a, b, c, d, e, f, g]) (a := x) (l₂ := t)).mem_iff.mp h
theorem mem_rot7' (h : p ∈ x :: a :: b :: c :: d :: e :: f :: g :: t) : p ∈ a :: b :: c :: d :: e :: f :: g :: x :: t := (List.perm_middle (l₁ := [a, b, c, d, e, f, g]) (a := x) (l₂ := t)).mem_iff.mpr h
theorem mem_app7 (h : p ∈ a :: b :: c :: d :: e :: f :: g :: (t ++ u)) : p ∈ a :: b :: c :: d :: e :: f :: g :: (u ++ t) := ((List.perm_append_comm (l₁ := t) (l₂ := u)).append_left [a, b, c, d, e, f, g]).mem_iff.mp h
end
theorem off9 {jj cc bb dd lo la ls ld dn : Addr} {T : Led} (h : ∀ x ∈ [jj, cc, bb, dd, lo, la, ls, ld, dn], ∀ p ∈ T, p.1 ≠ x) : (∀ p ∈ T, p.1 ≠ jj) ∧ (∀ p ∈ T, p.1 ≠ cc) ∧ (∀ p ∈ T, p.1 ≠ bb) ∧ (∀ p ∈ T, p.1 ≠ dd) ∧ (∀ p ∈ T, p.1 ≠ lo) ∧ (∀ p ∈ T, p.1 ≠ la) ∧ (∀ p ∈ T, p.1 ≠ ls) ∧ (∀ p ∈ T, p.1 ≠ ld) ∧ (∀ p ∈ T, p.1 ≠ dn) := ⟨h _ (.head _), h _ (.tail _ (.head _)), h _ (.tail _ (.tail _ (.head _))), h _ (.tail _ (.tail _ (.tail _ (.head _)))), h _ (.tail _ (.tail _ (.tail _ (.tail _ (.head _))))), h _ (.tail _ (.tail _ (.tail _ (.tail _ (.tail _ (.head _)))))), h _ (.tail _ (.tail _ (.tail _ (.tail _ (.tail _ (.tail _ (.head _))))))), h _ (.tail _ (.tail _ (.tail _ (.tail _ (.tail _ (.tail _ (.tail _ (.head _)))))))), h _ (.tail _ (.tail _ (.tail _ (.tail _ (.tail _ (.tail _ (.tail _ (.tail _ (.head _)))))))))⟩
theorem to9 {jj cc bb dd lo la ls ld dn : Addr} {T : Led} (h : (∀ p ∈ T, p.1 ≠ jj) ∧ (∀ p ∈ T, p.1 ≠ cc) ∧ (∀ p ∈ T, p.1 ≠ bb) ∧ (∀ p ∈ T, p.1 ≠ dd) ∧ (∀ p ∈ T, p.1 ≠ lo) ∧ (∀ p ∈ T, p.1 ≠ la) ∧ (∀ p ∈ T, p.1 ≠ ls) ∧ (∀ p ∈ T, p.1 ≠ ld) ∧ (∀ p ∈ T, p.1 ≠ dn)) : ∀ x ∈ [jj, cc, bb, dd, lo, la, ls, ld, dn], ∀ p ∈ T, p.1 ≠ x := List.forall_mem_cons.mpr ⟨h.1, List.forall_mem_cons.mpr ⟨h.2.1, List.forall_mem_cons.mpr ⟨h.2.2.1, List.forall_mem_cons.mpr ⟨h.2.2.2.1, List.forall_mem_cons.mpr ⟨h.2.2.2.2.1, List.forall_mem_cons.mpr ⟨h.2.2.2.2.2.1, List.forall_mem_cons.mpr ⟨h.2.2.2.2.2.2.1, List.forall_mem_cons.mpr ⟨h.2.2.2.2.2.2.2.1, List.forall_mem_cons.mpr ⟨h.2.2.2.2.2.2.2.2, List.forall_mem_nil _⟩⟩⟩⟩⟩⟩⟩⟩⟩
theorem lt9 {jj cc bb dd lo la ls ld dn I : Nat} (h : jj < I ∧ cc < I ∧ dd < I ∧ bb < I ∧ lo < I ∧ la < I ∧ ls < I ∧ ld < I ∧ dn < I) : ∀ x ∈ [jj, cc, bb, dd, lo, la, ls, ld, dn], x < I := List.forall_mem_cons.mpr ⟨h.1, List.forall_mem_cons.mpr ⟨h.2.1, List.forall_mem_cons.mpr ⟨h.2.2.2.1, List.forall_mem_cons.mpr ⟨h.2.2.1, List.forall_mem_cons.mpr ⟨h.2.2.2.2.1, List.forall_mem_cons.mpr ⟨h.2.2.2.2.2.1, List.forall_mem_cons.mpr ⟨h.2.2.2.2.2.2.1, List.forall_mem_cons.mpr ⟨h.2.2.2.2.2.2.2.1, List.forall_mem_cons.mpr ⟨h.2.2.2.2.2.2.2.2, List.forall_mem_nil _⟩⟩⟩⟩⟩⟩⟩⟩⟩
section
variable {b db lo la ls ld dn D : Addr} {l : List Addr} {T : Led} {q : Addr × Obj}
theorem off7 (h : ∀ x ∈ [b, db, lo, la, ls, ld, dn], ∀ p ∈ T, p.1 ≠ x) : (∀ p ∈ T, p.1 ≠ b) ∧ (∀ p ∈ T, p.1 ≠ db) ∧ (∀ p ∈ T, p.1 ≠ lo) ∧ (∀ p ∈ T, p.1 ≠ la) ∧ (∀ p ∈ T, p.1 ≠ ls) ∧ (∀ p ∈ T, p.1 ≠ ld) ∧ (∀ p ∈ T, p.1 ≠ dn) :=
  ⟨h _ (.head _), h _ (.tail _ (.head _)), h _ (.tail _ (.tail _ (.head _))), h _ (.tail _ (.tail _ (.tail _ (.head _)))), h _ (.tail _ (.tail _ (.tail _ (.tail _ (.head _))))), h _ (.tail _ (.tail _ (.tail _ (.tail _ (.tail _ (.head _)))))), h _ (.tail _ (.tail _ (.tail _ (.tail _ (.tail _ (.tail _ (.head _))))))) ⟩
theorem to7 (h : (∀ p ∈ T, p.1 ≠ b) ∧ (∀ p ∈ T, p.1 ≠ db) ∧ (∀ p ∈ T, p.1 ≠ lo) ∧ (∀ p ∈ T, p.1 ≠ la) ∧ (∀ p ∈ T, p.1 ≠ ls) ∧ (∀ p ∈ T, p.1 ≠ ld) ∧ (∀ p ∈ T, p.1 ≠ dn)) : ∀ x ∈ [b, db, lo, la, ls, ld, dn], ∀ p ∈ T, p.1 ≠ x := by
  simp only [List.mem_cons, List.not_mem_nil, or_false, forall_eq_or_imp, forall_eq]
  exact h
theorem lt7 (h1 : b < D) (h2 : db < D) (h3 : lo < D) (h4 : la < D) (h5 : ls < D) (h6 : ld < D) (h7 : dn < D) : ∀ x ∈ [b, db, lo, la, ls, ld, dn], x < D :=
  List.forall_mem_cons.mpr ⟨h1, List.forall_mem_cons.mpr ⟨h2, List.forall_mem_cons.mpr ⟨h3, List.forall_mem_cons.mpr ⟨h4, List.forall_mem_cons.mpr ⟨h5, List.forall_mem_cons.mpr ⟨h6, List.forall_mem_cons.mpr ⟨h7, List.forall_mem_nil _⟩⟩⟩⟩⟩⟩⟩
theorem off_cons (h1 : ∀ x ∈ l, x < q.1) (h2 : ∀ x ∈ l, ∀ p ∈ T, p.1 ≠ x) : ∀ x ∈ l, ∀ p ∈ q :: T, p.1 ≠ x := fun x hx p hp => by
  rcases List.mem_cons.mp hp with rfl | h
  · exact Nat.ne_of_gt (h1 x hx)
  · exact h2 x hx p h
theorem off_app {U : Led} (h1 : ∀ x ∈ l, ∀ p ∈ T, p.1 ≠ x) (h2 : ∀ x ∈ l, ∀ p ∈ U, p.1 ≠ x) : ∀ x ∈ l, ∀ p ∈ T ++ U, p.1 ≠ x := fun x hx p hp => (List.mem_append.mp hp).elim (h1 x hx p) (h2 x hx p)
end
theorem make_miss {w : World} {b db lo la ls ld dn e D : Addr} {es : List DictEntry} {nn : Nat} {os gs ss ds : List Value} {k1 k2 k3 k4 n : Nat} {odn o' : Obj} {tl : Led} {rows : List BKey} {xs : List (BKey × Addr × Value)} {key : BKey} {t1 t2 tz : Tok} {v : Value} {g h : Heap} {L : Addr} {tup : Obj}
    (ht : BTab w tl os gs ss ds odn rows xs) (hte : TupIn tl e []) (hv : DataIn tl key.data v) (hok : key.ok) (etup : tup = { cls := .type "tuple", data := .seq #[.str key.op t1, .ref e, .int key.sort t2, v] n }) (hl : AllLt D (bankL b db lo la ls ld dn es nn os gs ss ds k1 k2 k3 k4 odn tl))
    (hd : DictB prg w o' (xs ++ [(key, D, .int (rows.length : Int) tz)])) (N : News g L h ((D, tup) :: (b, instObj 724 db) :: (db, dictOf es nn) :: (lo, listOf (os.toArray.push (.str key.op t1)) (k1 + 1)) :: (la, listOf (gs.toArray.push (.ref e)) (k2 + 1)) :: (ls, listOf (ss.toArray.push (.int key.sort t2)) (k3 + 1)) :: (ld, listOf (ds.toArray.push v) (k4 + 1)) :: (dn, o') :: tl)) :
    ∃ sub', News g L h sub' ∧ MakeP w b db lo la ls ld dn es nn (bankL b db lo la ls ld dn es nn os gs ss ds k1 k2 k3 k4 odn tl) tl rows key (.int (rows.length : Int) tz) sub' := by
  subst etup
  have hs : ∀ p ∈ tl, p ∈ [(D, ({ cls := .type "tuple", data := .seq #[.str key.op t1, .ref e, .int key.sort t2, v] n } : Obj))] ++ tl := fun p hp => List.mem_append_right _ hp
  have hK : KeyIn ([(D, ({ cls := .type "tuple", data := .seq #[.str key.op t1, .ref e, .int key.sort t2, v] n } : Obj))] ++ tl) key D := keyIn_of hok hte hv (.head _) hs
  have hrow : (rows ++ [key])[rows.length]? = some key := List.getElem?_concat_length ..
  rw [List.push_toArray, List.push_toArray, List.push_toArray, List.push_toArray] at N
  refine ⟨_, fun p hp => N p (mem_rot7 hp), rows.length, tz, os ++ [.str key.op t1], gs ++ [.ref e], ss ++ [.int key.sort t2], ds ++ [v], k1 + 1, k2 + 1, k3 + 1, k4 + 1, o', [(D, { cls := .type "tuple", data := .seq #[.str key.op t1, .ref e, .int key.sort t2, v] n })], rows ++ [key], _, rfl, ht.one, hrow, ⟨(ht.rows_.mono hs).push (hte.mono hs) (hv.mono hs), hd, ?_, ?_, ?_⟩, ?_, rfl, ?_⟩
  · intro x hx
    rcases List.mem_append.mp hx with hx | hx
    · obtain ⟨a, i, t, e1, e2, e3⟩ := ht.num x hx
      refine ⟨a.mono hs, i, t, e1, e2, ?_⟩
      rw [List.getElem?_append_left (List.getElem?_eq_some_iff.mp e3).1]
      exact e3
    · rw [List.mem_singleton.mp hx]
      exact ⟨hK, rows.length, tz, rfl, ht.one, hrow⟩
  · rw [List.length_append, List.length_append]
    exact Nat.add_le_add_right ht.few 1
  · rw [List.length_append]
    exact Nat.le_add_left 1 _
  · exact Nat.le_of_eq List.length_append
  · intro p hp q hq
    rw [List.mem_singleton.mp hp]
    exact tbn_neAll hl q hq
theorem make_hit {w : World} {b db lo la ls ld dn D : Addr} {es : List DictEntry} {nn : Nat} {os gs ss ds : List Value} {k1 k2 k3 k4 i : Nat} {odn tup : Obj} {tl : Led} {rows : List BKey} {xs : List (BKey × Addr × Value)} {key : BKey} {tz : Tok} {g h : Heap} {L : Addr}
    (ht : BTab w tl os gs ss ds odn rows xs) (h1 : 1 ≤ i) (h2 : rows[i]? = some key) (N : News g L h ((D, tup) :: bankL b db lo la ls ld dn es nn os gs ss ds k1 k2 k3 k4 odn tl)) :
    ∃ sub', News g L h sub' ∧ MakeP w b db lo la ls ld dn es nn (bankL b db lo la ls ld dn es nn os gs ss ds k1 k2 k3 k4 odn tl) tl rows key (.int (i : Int) tz) sub' :=
  ⟨_, fun p hp => N p (.tail _ hp), i, tz, os, gs, ss, ds, k1, k2, k3, k4, odn, [], rows, xs, rfl, h1, h2, ht, Nat.le_succ _, rfl, fun _ h => nomatch h⟩
local macro_rules | `(tactic| size_fits) => `(tactic| (simp only [List.size_toArray, PySem.sizeLine_eq]; omega))
local macro_rules | `(tactic| k_get) => `(tactic| with_reducible assumption)
local macro_rules | `(tactic| k_all) => `(tactic| first | exact List.forall_mem_nil _ | with_reducible assumption | (refine' List.forall_mem_cons.mpr ⟨?a, ?b⟩; (case a => k_ne); (case b => k_all)))
set_option maxRecDepth 100000 in
set_option maxHeartbeats 8000000 in
theorem make_con (w : World) (b db lo la ls ld dn e : Addr) (es : List DictEntry) (nn : Nat) (os gs ss ds : List Value) (k1 k2 k3 k4 : Nat) (odn : Obj) (tl : Led) (rows : List BKey) (xs : List (BKey × Addr × Value)) (key : BKey) (t1 t2 : Tok) (v : Value)
    (he1 : getL (Str.ofString "term_ops") es = some (some (.ref lo))) (he2 : getL (Str.ofString "term_args") es = some (some (.ref la))) (he3 : getL (Str.ofString "term_sorts") es = some (some (.ref ls))) (he4 : getL (Str.ofString "term_datas") es = some (some (.ref ld))) (he5 : getL (Str.ofString "numbers") es = some (some (.ref dn)))
    (ht : BTab w tl os gs ss ds odn rows xs) (hsmall : rows.length ≤ 900) (hte : TupIn tl e []) (hv : DataIn tl key.data v) (hok : key.ok) (hdn : (dn == sysModules) = false)
    (ha : @LT.lt Nat _ db b ∧ @LT.lt Nat _ b lo ∧ @LT.lt Nat _ lo la ∧ @LT.lt Nat _ la ls ∧ @LT.lt Nat _ ls ld ∧ @LT.lt Nat _ ld dn) (hb : ∀ x ∈ [b, db, lo, la, ls, ld, dn], ∀ p ∈ tl, p.1 ≠ x) :
    Con w 338 [.ref b, .str key.op t1, .ref e, .int key.sort t2, v] (bankL b db lo la ls ld dn es nn os gs ss ds k1 k2 k3 k4 odn tl)
      (MakeP w b db lo la ls ld dn es nn (bankL b db lo la ls ld dn es nn os gs ss ds k1 k2 k3 k4 odn tl) tl rows key) 6 128 := by
  have ht0 := ht
  obtain ⟨hrows, hdict, hnum, hfew, hone⟩ := ht0
  have n1 := hrows.n1
  have n2 := hrows.n2
  have n3 := hrows.n3
  have n4 := hrows.n4
  obtain ⟨a1, a2, a3, a4, a5, a6⟩ := ha
  obtain ⟨_, c2, c3, c4, c5, c6⟩ := chain7 a1 a2 a3 a4 a5 a6
  obtain ⟨o1, o2, o3, o4, o5, o6, o7⟩ := off7 hb
  k_with_none
  k_with "compareOp Eq int int" => (refine eq_no' (by with_reducible assumption) ?_)
  k_with "getMethod ref" => ((with_reducible show wpAny _ _ (getMethod (Value.ref _) (Str.ofString "get") _) _ _ _); k_dflt (refine dn_method (by k_asm) (by k_mem) (by assumption) ?_))
  k_with "call builtin:dict.get" => (k_dflt (refine' num_get ?u ?N ?m (by assumption) (by assumption) (by assumption) ?s ?k ?hit ?miss; (case u => k_units); (case N => k_asm); (case m => k_mem); (case s => (intro p hp; k_ownIn)); (case k => exact keyIn_of (by assumption) (by assumption) (by assumption) (by k_mem) (by intro p hp; k_ownIn)); (case' hit => (intro i9 t9 tk9 h91 h92; (try dsimp only))); (case' miss => (intro tk9 h9; (try dsimp only)))))
  k_with "call builtin:len" => (k_dflt (refine kst_len (by k_asm) (by k_mem) (by assumption) (by omega) ?_))
  k_with "setItem ref ref" => (k_dflt (refine' num_set (w := _) ?u ?F ?N ?U (by assumption) (by assumption) ?s ?k (by assumption) (by omega) ?g; (case u => k_units); (case F => k_asm); (case N => k_asm); (case U => k_updF); (case s => (intro p hp; k_ownIn)); (case k => exact keyIn_of (by assumption) (by assumption) (by assumption) (by k_mem) (by intro p hp; k_ownIn)); (case' g => (intro h9 o9 tk9 F9 N9 d9; (try dsimp only at N9); (try dsimp only)))))
  k_with "call builtin:list.append" => ((k_dflt (refine' append_K ?k1 ?k2 ?k3 ?_ ?z; (case k1 => k_asm); (case k2 => k_asm); (case k3 => k_upd); (case z => (simp only [List.size_toArray, PySem.sizeLine_eq]; omega)))); intro h9 F9 N9; (try dsimp only))
  w_on
  unfold Con
  k_fill
  intro p loose mean mg mb dp un gd cn cs L a ccd cl outer A₀ base h₀ m s Q E B F X N Tp hk hd hu hret
  w_strict ((refine' con_enter ?k1 ?k2 ?k3 ?k4 ?k5 ?kR ?kA ?kF ?kK ?k6 ?k7 ?k8 ?k9 ?kB ?_ ?c2 ?c3 ?c4 ?c5; (case kR => assumption); (case kA => exact rfl); (case kF => exact rfl); (case kK => assumption); (case k1 => k_asm); (case k2 => k_asm); (case k3 => k_asm); (case k4 => k_asm); (case k5 => k_asm); (case k6 => k_is); (case k7 => k_is); (case k8 => ktr_room); (case k9 => exact BindsTo.of_eq rfl); (case c5 => decide); (case kB => exact locs rfl); (case c2 => exact rfl); (case c3 => exact rfl); (case c4 => exact rfl); k_whole; intro g' L' h' tk' F' N' B' X' T' l0; simp only [AllLt, and_true] at l0; (try dsimp only); (try k_lift B'); (try k_fold)); k_steps)
  all_goals ((try dsimp only); (try k_unfold); (try dsimp only))
  · obtain ⟨sub', hN, hP⟩ := make_miss ht hte hv hok rfl (by assumption) (by assumption) (by assumption)
    exact leaveS (by assumption) hN hP
  · obtain ⟨sub', hN, hP⟩ := make_hit ht (by assumption) (by assumption) (by assumption)
    exact leaveS (by assumption) hN hP
end Mine
end
section
open PySem PySem.W PyProof.Rows PySem.Spec PySem.Calls PySem.NumText
set_option autoImplicit false
namespace Mine
local macro_rules | `(tactic| walk_at "no such key") => `(tactic| fail)
/-- fits in 65536 bits -/
def Sm (a : Int) : Prop := 0 ≤ a ∧ a < 2 ^ 65536
theorem Sm.shr {a : Int} (h : Sm a) : a.fdiv (2 ^ Int.toNat 65536) = 0 := by
  rw [Int.fdiv_eq_ediv_of_nonneg _ (Int.le_of_lt (Int.pow_pos (by decide)))]
  exact Int.ediv_eq_zero_of_lt h.1 h.2
theorem shr_small {prog : Program} {w : World} {A : Around} {E : Value → Shared → Prop} {s : Shared} {Q : Value → Shared → Prop} {a : Int} {t u : Tok} (hs : Sm a) (h : Q (.int 0 s.toks) { s with toks := s.toks + 1 }) : wpAny (model prog w) A (binaryOp .RShift (.int a t) (.int 65536 u)) Q E s := by
  refine rshift_int (by decide) ?_
  rw [hs.shr]
  exact h
theorem NumB.mono {tl tl' : Led} {rows : List BKey} {xs : List (BKey × Addr × Value)} (h : NumB tl rows xs) (hs : ∀ p ∈ tl, p ∈ tl') : NumB tl' rows xs := fun x hx => ⟨(h x hx).1.mono hs, (h x hx).2⟩
theorem BTab.mono {w : World} {tl tl' : Led} {os gs ss ds : List Value} {odn : Obj} {rows : List BKey} {xs : List (BKey × Addr × Value)} (h : BTab w tl os gs ss ds odn rows xs) (hs : ∀ p ∈ tl, p ∈ tl') : BTab w tl' os gs ss ds odn rows xs :=
  ⟨h.rows_.mono hs, h.dict, h.num.mono hs, h.few, h.one⟩
abbrev tupE : Obj := { cls := .type "tuple", data := .seq #[] }
theorem make_tail {w : World} {b db lo la ls ld dn D : Addr} {es : List DictEntry} {nn : Nat} {os gs ss ds : List Value} {k1 k2 k3 k4 : Nat} {odn : Obj} {U : Led} {rows : List BKey} {key : BKey} {v : Value} {sub' : Led}
    (h : MakeP w b db lo la ls ld dn es nn (bankL b db lo la ls ld dn es nn os gs ss ds k1 k2 k3 k4 odn ((D, tupE) :: U)) ((D, tupE) :: U) rows key v sub') (hD : AllLt D (bankL b db lo la ls ld dn es nn os gs ss ds k1 k2 k3 k4 odn U)) :
    MakeP w b db lo la ls ld dn es nn (bankL b db lo la ls ld dn es nn os gs ss ds k1 k2 k3 k4 odn U) U rows key v sub' := by
  obtain ⟨i, t, os', gs', ss', ds', k1', k2', k3', k4', odn', nw, rows', xs', e1, hi1, hi2, hT, hlen, e2, hnw⟩ := h
  have e3 : nw ++ (D, tupE) :: U = (nw ++ [(D, tupE)]) ++ U := (List.append_cons nw (D, tupE) U)
  rw [e3] at hT e2
  refine ⟨i, t, os', gs', ss', ds', k1', k2', k3', k4', odn', nw ++ [(D, tupE)], rows', xs', e1, hi1, hi2, hT, hlen, e2, fun p hp q hq => ?_⟩
  rcases List.mem_append.mp hp with hp | hp
  · exact hnw p hp q (mem_rot7' (.tail _ hq))
  · rw [List.mem_singleton.mp hp]
    exact tbn_neAll hD q hq
local macro_rules | `(tactic| k_get) => `(tactic| with_reducible assumption)
local macro_rules | `(tactic| k_all) => `(tactic| first | exact List.forall_mem_nil _ | with_reducible assumption | (refine' List.forall_mem_cons.mpr ⟨?a, ?b⟩; (case a => k_ne); (case b => k_all)))
set_option maxRecDepth 100000 in
set_option maxHeartbeats 8000000 in
theorem num_con (w : World) (b db lo la ls ld dn a₁ : Addr) (es : List DictEntry) (nn : Nat) (os gs ss ds : List Value) (k1 k2 k3 k4 : Nat) (odn : Obj) (tl : Led) (rows : List BKey) (xs : List (BKey × Addr × Value)) (x y : Int) (tx ty : Tok) (k : Nat) (t2 : Tok)
    (he1 : getL (Str.ofString "term_ops") es = some (some (.ref lo))) (he2 : getL (Str.ofString "term_args") es = some (some (.ref la))) (he3 : getL (Str.ofString "term_sorts") es = some (some (.ref ls))) (he4 : getL (Str.ofString "term_datas") es = some (some (.ref ld))) (he5 : getL (Str.ofString "numbers") es = some (some (.ref dn))) (he6 : getL (Str.ofString "make") es = some none) (he7 : getL (Str.ofString "is_number_sort") es = some none)
    (ht : BTab w ((a₁, tupO x y tx ty k) :: tl) os gs ss ds odn rows xs) (hsmall : rows.length ≤ 900) (hx : Sm (if x < 0 then -x else x)) (hy : Sm y) (hdn : (dn == sysModules) = false)
    (ha : @LT.lt Nat _ db b ∧ @LT.lt Nat _ b lo ∧ @LT.lt Nat _ lo la ∧ @LT.lt Nat _ la ls ∧ @LT.lt Nat _ ls ld ∧ @LT.lt Nat _ ld dn ∧ @LT.lt Nat _ dn a₁) (hb : ∀ x ∈ [b, db, lo, la, ls, ld, dn], ∀ p ∈ tl, p.1 ≠ x) :
    Con w 532 [.ref b, .ref a₁, .int 2 t2] (bankL b db lo la ls ld dn es nn os gs ss ds k1 k2 k3 k4 odn ((a₁, tupO x y tx ty k) :: tl))
      (MakeP w b db lo la ls ld dn es nn (bankL b db lo la ls ld dn es nn os gs ss ds k1 k2 k3 k4 odn ((a₁, tupO x y tx ty k) :: tl)) ((a₁, tupO x y tx ty k) :: tl) rows ⟨Str.ofString "num", 2, .two x y⟩) 12 256 := by
  obtain ⟨a1, a2, a3, a4, a5, a6, a7⟩ := ha
  obtain ⟨_, c2, c3, c4, c5, c6⟩ := chain7 a1 a2 a3 a4 a5 a6
  have c7 := below7 c6 a7
  obtain ⟨o1, o2, o3, o4, o5, o6, o7⟩ := off7 hb
  k_with_none
  k_with "binaryOp RShift int int" => (refine shr_small (by with_reducible assumption) ?_)
  k_with "call ref" => k_extra "stop make"
  k_with "stop make" => (with_reducible show wpAny _ _ (call (Value.ref 338) _) _ _ _); refine stop_here ?_
  w_on
  unfold Con
  k_fill
  intro p loose mean mg mb dp un gd cn cs L a ccd cl outer A₀ base h₀ m s Q E B F X N Tp hk hd hu hret
  w_strict ((refine' con_enter ?k1 ?k2 ?k3 ?k4 ?k5 ?kR ?kA ?kF ?kK ?k6 ?k7 ?k8 ?k9 ?kB ?_ ?c2 ?c3 ?c4 ?c5; (case kR => assumption); (case kA => exact rfl); (case kF => exact rfl); (case kK => assumption); (case k1 => k_asm); (case k2 => k_asm); (case k3 => k_asm); (case k4 => k_asm); (case k5 => k_asm); (case k6 => k_is); (case k7 => k_is); (case k8 => ktr_room); (case k9 => exact BindsTo.of_eq rfl); (case c5 => decide); (case kB => exact locs rfl); (case c2 => exact rfl); (case c3 => exact rfl); (case c4 => exact rfl); k_whole; intro g' L' h' tk' F' N' B' X' T' l0; simp only [AllLt, and_true] at l0; (try dsimp only); (try k_lift B'); (try k_fold)); k_steps)
  refine ⟨?_⟩
  rename_i D9 h9 F9 N9 l9
  refine' con_led (make_con w b db lo la ls ld dn D9 es nn os gs ss ds k1 k2 k3 k4 odn ((D9, tupE) :: (a₁, tupO x y tx ty k) :: tl) rows xs ⟨Str.ofString "num", 2, .two x y⟩ _ _ _ he1 he2 he3 he4 he5 (ht.mono fun p hp => .tail _ hp) hsmall ⟨_, .head _⟩ ⟨a₁, tx, ty, rfl, k, .tail _ (.head _)⟩ (show (2 : Int) ≠ 0 by decide) hdn ⟨a1, a2, a3, a4, a5, a6⟩ ?hb) ?B F9 ?X N9 ?hs ?T rfl ?d ?u ?r
  case B => k_asm
  case X => k_asm
  case T => k_asm
  case d => ktr_room
  case u => ktr_units
  case hs => exact fun p hp => mem_rot7 hp
  case hb =>
    obtain ⟨q1, q2, q3, q4, q5, q6, q7, _⟩ := l9
    obtain ⟨z1, z2, z3, z4, z5, z6, z7⟩ := c7
    exact off_cons (lt7 q1 q2 q3 q4 q5 q6 q7) (off_cons (lt7 z2 z1 z3 z4 z5 z6 z7) hb)
  case r =>
    intro v sub' h' tk' F' P' hN hfr
    (try dsimp only)
    k_unfold
    (try dsimp only)
    exact leaveS F' (hN _ fun p hp => .inl hp) (make_tail P' l9)
set_option maxRecDepth 100000 in
set_option maxHeartbeats 8000000 in
theorem num_con1 (w : World) (b db lo la ls ld dn a₁ : Addr) (es : List DictEntry) (nn : Nat) (os gs ss ds : List Value) (k1 k2 k3 k4 : Nat) (odn : Obj) (tl : Led) (rows : List BKey) (xs : List (BKey × Addr × Value)) (x : Int) (tx ty : Tok) (k : Nat) (t2 : Tok)
    (he1 : getL (Str.ofString "term_ops") es = some (some (.ref lo))) (he2 : getL (Str.ofString "term_args") es = some (some (.ref la))) (he3 : getL (Str.ofString "term_sorts") es = some (some (.ref ls))) (he4 : getL (Str.ofString "term_datas") es = some (some (.ref ld))) (he5 : getL (Str.ofString "numbers") es = some (some (.ref dn))) (he6 : getL (Str.ofString "make") es = some none) (he7 : getL (Str.ofString "is_number_sort") es = some none)
    (ht : BTab w ((a₁, tupO x 1 tx ty k) :: tl) os gs ss ds odn rows xs) (hsmall : rows.length ≤ 900) (hx : Sm (if x < 0 then -x else x)) (hy : Sm 1) (hdn : (dn == sysModules) = false)
    (ha : @LT.lt Nat _ db b ∧ @LT.lt Nat _ b lo ∧ @LT.lt Nat _ lo la ∧ @LT.lt Nat _ la ls ∧ @LT.lt Nat _ ls ld ∧ @LT.lt Nat _ ld dn ∧ @LT.lt Nat _ dn a₁) (hb : ∀ x ∈ [b, db, lo, la, ls, ld, dn], ∀ p ∈ tl, p.1 ≠ x) :
    Con w 532 [.ref b, .ref a₁, .int 1 t2] (bankL b db lo la ls ld dn es nn os gs ss ds k1 k2 k3 k4 odn ((a₁, tupO x 1 tx ty k) :: tl))
      (MakeP w b db lo la ls ld dn es nn (bankL b db lo la ls ld dn es nn os gs ss ds k1 k2 k3 k4 odn ((a₁, tupO x 1 tx ty k) :: tl)) ((a₁, tupO x 1 tx ty k) :: tl) rows ⟨Str.ofString "num", 1, .two x 1⟩) 12 256 := by
  obtain ⟨a1, a2, a3, a4, a5, a6, a7⟩ := ha
  obtain ⟨_, c2, c3, c4, c5, c6⟩ := chain7 a1 a2 a3 a4 a5 a6
  have c7 := below7 c6 a7
  obtain ⟨o1, o2, o3, o4, o5, o6, o7⟩ := off7 hb
  k_with_none
  k_with "binaryOp RShift int int" => (refine shr_small (by with_reducible assumption) ?_)
  k_with "call ref" => k_extra "stop make"
  k_with "stop make" => (with_reducible show wpAny _ _ (call (Value.ref 338) _) _ _ _); refine stop_here ?_
  w_on
  unfold Con
  k_fill
  intro p loose mean mg mb dp un gd cn cs L a ccd cl outer A₀ base h₀ m s Q E B F X N Tp hk hd hu hret
  w_strict ((refine' con_enter ?k1 ?k2 ?k3 ?k4 ?k5 ?kR ?kA ?kF ?kK ?k6 ?k7 ?k8 ?k9 ?kB ?_ ?c2 ?c3 ?c4 ?c5; (case kR => assumption); (case kA => exact rfl); (case kF => exact rfl); (case kK => assumption); (case k1 => k_asm); (case k2 => k_asm); (case k3 => k_asm); (case k4 => k_asm); (case k5 => k_asm); (case k6 => k_is); (case k7 => k_is); (case k8 => ktr_room); (case k9 => exact BindsTo.of_eq rfl); (case c5 => decide); (case kB => exact locs rfl); (case c2 => exact rfl); (case c3 => exact rfl); (case c4 => exact rfl); k_whole; intro g' L' h' tk' F' N' B' X' T' l0; simp only [AllLt, and_true] at l0; (try dsimp only); (try k_lift B'); (try k_fold)); k_steps)
  refine ⟨?_⟩
  rename_i D9 h9 F9 N9 l9
  refine' con_led (make_con w b db lo la ls ld dn D9 es nn os gs ss ds k1 k2 k3 k4 odn ((D9, tupE) :: (a₁, tupO x 1 tx ty k) :: tl) rows xs ⟨Str.ofString "num", 1, .two x 1⟩ _ _ _ he1 he2 he3 he4 he5 (ht.mono fun p hp => .tail _ hp) hsmall ⟨_, .head _⟩ ⟨a₁, tx, ty, rfl, k, .tail _ (.head _)⟩ (show (1 : Int) ≠ 0 by decide) hdn ⟨a1, a2, a3, a4, a5, a6⟩ ?hb) ?B F9 ?X N9 ?hs ?T rfl ?d ?u ?r
  case B => k_asm
  case X => k_asm
  case T => k_asm
  case d => ktr_room
  case u => ktr_units
  case hs => exact fun p hp => mem_rot7 hp
  case hb =>
    obtain ⟨q1, q2, q3, q4, q5, q6, q7, _⟩ := l9
    obtain ⟨z1, z2, z3, z4, z5, z6, z7⟩ := c7
    exact off_cons (lt7 q1 q2 q3 q4 q5 q6 q7) (off_cons (lt7 z2 z1 z3 z4 z5 z6 z7) hb)
  case r =>
    intro v sub' h' tk' F' P' hN hfr
    (try dsimp only)
    k_unfold
    (try dsimp only)
    exact leaveS F' (hN _ fun p hp => .inl hp) (make_tail P' l9)
end Mine
end
section
open PySem PySem.W PyProof.Rows PySem.Spec PySem.Calls PySem.NumText
set_option autoImplicit false
namespace Mine
section
variable {prog : Program} {w : World} {A : Around} {E : Value → Shared → Prop} {s : Shared} {h₀ : Heap} {L D : Addr} {news : Led} {vs : List Value} {n : Nat}
theorem list_at {Q : Value → Shared → Prop} {i : Nat} {u : Tok} {v : Value} (N : News h₀ L s.heap news) (hm : (D, listOf vs.toArray n) ∈ news) (hv : vs[i]? = some v) (hfit : i ≤ 10000) (h : Q v s) : wpAny (model prog w) A (getItem (.ref D) (.int (i : Int) u)) Q E s :=
  wpAny_getItem_list (PySem.IsL.isList (n := n) (N _ hm).1) (by omega) (by omega) (by simpa using hv) h
theorem list_sub {Q : Value → Shared → Prop} {i : Nat} {u : Tok} {v : Value} {value slice : PySem.Expr} (N : News h₀ L s.heap news) (hm : (D, listOf vs.toArray n) ∈ news) (hv : vs[i]? = some v) (hfit : i ≤ 10000) (h : Q v s)
    (hs : subscripted slice false (.ref D) (.int (i : Int) u) = operate [.ref D, .int (i : Int) u] (getItem (.ref D) (.int (i : Int) u)) := by with_unfolding_all rfl) : wpAny (model prog w) A (subscriptTail value slice (.ref D) (.int (i : Int) u)) Q E s :=
  tail_any (PySem.IsL.isList (n := n) (N _ hm).1).typeIs slot_list_getitem.lookup (list_at N hm hv hfit h) hs
end
local macro_rules | `(tactic| k_get) => `(tactic| with_reducible assumption)
abbrev bankR (b db lo la ls ld e a₁ : Addr) (es : List DictEntry) (nn : Nat) (os gs ss ds : List Value) (k1 k2 k3 k4 : Nat) (ke : Nat) (x y : Int) (tx ty : Tok) (k : Nat) : Led :=
  [(b, instObj 724 db), (db, dictOf es nn), (lo, listOf os.toArray k1), (la, listOf gs.toArray k2), (ls, listOf ss.toArray k3), (ld, listOf ds.toArray k4), (e, ({ cls := .type "tuple", data := .seq #[] ke } : Obj)), (a₁, tupO x y tx ty k)]
set_option maxRecDepth 100000 in
set_option maxHeartbeats 8000000 in
theorem parts_con (w : World) (b db lo la ls ld e a₁ : Addr) (es : List DictEntry) (nn : Nat) (os gs ss ds : List Value) (k1 k2 k3 k4 ke : Nat) (x y : Int) (tx ty : Tok) (k : Nat) (i : Nat) (t : Tok) (t0 : Tok) (z : Int) (u : Tok)
    (he1 : getL (Str.ofString "term_ops") es = some (some (.ref lo))) (he2 : getL (Str.ofString "term_args") es = some (some (.ref la))) (he3 : getL (Str.ofString "term_sorts") es = some (some (.ref ls))) (he4 : getL (Str.ofString "term_datas") es = some (some (.ref ld))) (hm1 : getL (Str.ofString "parts") es = some none) (hm2 : getL (Str.ofString "parts_of_all") es = some none) (hm3 : getL (Str.ofString "args") es = some none) (hm4 : getL (Str.ofString "op") es = some none) (hm5 : getL (Str.ofString "data") es = some none) (hm6 : getL (Str.ofString "sort") es = some none)
    (hi : i ≤ 10000) (r1 : os[i]? = some (Value.str (Str.ofString "num") t0)) (r2 : gs[i]? = some (Value.ref e)) (r3 : ss[i]? = some (Value.int z u)) (r4 : ds[i]? = some (Value.ref a₁)) :
    Con w 394 [.ref b, .int (i : Int) t] (bankR b db lo la ls ld e a₁ es nn os gs ss ds k1 k2 k3 k4 ke x y tx ty k)
      (fun v sub' => (∀ p ∈ bankR b db lo la ls ld e a₁ es nn os gs ss ds k1 k2 k3 k4 ke x y tx ty k, p ∈ sub') ∧ ∃ D o, v = .ref D ∧ (∃ k', o = listOf #[.int (i : Int) t] k') ∧ (D, o) ∈ sub' ∧ LCg.Off1 D (bankR b db lo la ls ld e a₁ es nn os gs ss ds k1 k2 k3 k4 ke x y tx ty k)) 12 256 := by
  dsimp only [bankR]
  k_with_none
  k_with "getItem ref int" => (k_dflt (refine list_at (by k_asm) (by k_mem) (by assumption) (by assumption) ?_))
  k_with "subscriptTail Name Name ref int" => (k_dflt (refine list_sub (by k_asm) (by k_mem) (by assumption) (by assumption) ?_))
  k_with "subscriptTail Attribute Name Name ref int" => (k_dflt (refine list_sub (by k_asm) (by k_mem) (by assumption) (by assumption) ?_))
  k_with "call builtin:list.append" => ((k_dflt (refine' append_K ?k1 ?k2 ?k3 ?_ ?z; (case k1 => k_asm); (case k2 => k_asm); (case k3 => k_upd); (case z => (simp only [List.size_toArray, PySem.sizeLine_eq, List.size_toArray, List.length_nil, List.length_cons]; omega)))); intro h9 F9 N9; (try dsimp only))
  k_with "call type:reversed" => ((k_dflt (refine rv_made (by k_asm) (by k_asm) (by k_mem) ?_)); intro D9 h9 tk9 F9 N9 l9; (have off9 := fun p hp => Nat.ne_of_lt (l9 p hp)); clear l9; (try dsimp only))
  k_with "pyIter ref" => ((with_reducible show wpAny _ _ (pyIter (Value.ref _)) (fun it s₂ => LoopAtV _ _ _ _ _ _ _ _ _ it s₂) _ _); (k_dflt (refine rv_loop (by rfl) (by k_asm) (by assumption) (by assumption) ?_)); intro h9 tk9 F9 N9; (try dsimp only))
  k_with "pyIter ref" => ((with_reducible show wpAny _ _ (pyIter (Value.ref _)) (fun it s₂ => LoopAtV _ _ _ _ _ _ _ _ _ it s₂) _ _); (k_dflt (refine tn_loop (by rfl) (by k_asm) (by k_asm) (by k_mem) ?_)); intro h9 tk9 F9 N9; (try dsimp only))
  w_on
  unfold Con
  k_fill
  intro p loose mean mg mb dp un gd cn cs L a ccd cl outer A₀ base h₀ m s Q E B F X N Tp hk hd hu hret
  w_strict ((refine' con_enter ?k1 ?k2 ?k3 ?k4 ?k5 ?kR ?kA ?kF ?kK ?k6 ?k7 ?k8 ?k9 ?kB ?_ ?c2 ?c3 ?c4 ?c5; (case kR => assumption); (case kA => exact rfl); (case kF => exact rfl); (case kK => assumption); (case k1 => k_asm); (case k2 => k_asm); (case k3 => k_asm); (case k4 => k_asm); (case k5 => k_asm); (case k6 => k_is); (case k7 => k_is); (case k8 => ktr_room); (case k9 => exact BindsTo.of_eq rfl); (case c5 => decide); (case kB => exact locs rfl); (case c2 => exact rfl); (case c3 => exact rfl); (case c4 => exact rfl); k_whole; intro g' L' h' tk' F' N' B' X' T' l0; simp only [AllLt, and_true] at l0; (try dsimp only); (try k_lift B'); (try k_fold)); k_steps)
  ((try dsimp only); (try k_unfold); (try dsimp only); (refine leaveS (by assumption) (by assumption) ?_))
  refine ⟨by lcg_sub, _, _, rfl, ⟨_, rfl⟩, by k_mem, ?_⟩
  simp only [bankR, LCg.Off1, and_true]
  repeat' apply And.intro
  all_goals k_ne
theorem off1_at {D : Addr} : ∀ {l : Led}, LCg.Off1 D l → ∀ p ∈ l, p.1 ≠ D
  | [], _ => fun _ h => nomatch h
  | q :: _, h => fun p hp => by
    rcases List.mem_cons.mp hp with rfl | hp
    · exact h.1
    · exact off1_at h.2 p hp
section
variable {w : World} {f : Addr} {vs : List Value} {sub news : Led} {d u : Nat} {p : Program} {loose : List Str} {mean : ExcName → Option Value} {mg mb : Str → Option Value} {dp un : Nat} {gd : Option (List Code)} {cn : Str} {cs : Scope} {L a : Addr} {ccd : Value} {cl : List (Str × Addr)} {outer : List Env} {A₀ : Around} {base h₀ : Heap} {m : Str → Option Value} {s : Shared} {Q E : Value → Shared → Prop}
theorem con_rn {P : Obj → Prop} (c : Con w f vs sub (fun v sub' => (∀ p ∈ sub, p ∈ sub') ∧ ∃ D o, v = .ref D ∧ P o ∧ (D, o) ∈ sub' ∧ LCg.Off1 D sub) d u) (B : Below A₀ base outer h₀) (F : Fr h₀ L s.heap m) (X : (Mine.hd.heap_1 w.params).In h₀) (N : News h₀ L s.heap news) (hs : ∀ p ∈ sub, p ∈ news) (T : Top p loose mean mg mb h₀) (hk : cs.kind = .function) (hd : dp + d < recursionLimit) (hu : un + u < cLine)
    (r : ∀ (D : Addr) o h' tk', P o → Fr h₀ L h' m → News h₀ L h' ((D, o) :: news) → LCg.Off1 D news → Q (.ref D) { s with heap := h', toks := tk' }) :
    wpAny (model PySem.Challenge.rw_sj0100_01.row.prog w) (ktrTop dp un gd cn cs L a ccd cl outer) (call (.ref f) vs) Q E s :=
  con_led c B F X N hs T hk hd hu fun v sub' h' tk' F' P' N' fr => by
    obtain ⟨hsub, D, o, rfl, hP, hm, hoff⟩ := P'
    refine r D o h' tk' hP F' (N' _ fun p hp => ?_) (off1_of (fr (D, o) hm (off1_at hoff)))
    rcases List.mem_cons.mp hp with rfl | hp
    · exact .inl hm
    · by_cases hq : p.1 ∈ sub.map (·.1)
      · obtain ⟨p2, h2, e2⟩ := List.mem_map.mp hq
        have e3 : p2 = p := by
          have h4 := (N p2 (hs p2 h2)).1
          have e2' : p2.1 = p.1 := e2
          rw [e2', (N p hp).1] at h4
          exact Prod.ext e2 (Option.some.inj h4).symm
        exact .inl (hsub p (e3 ▸ h2))
      · exact .inr ⟨hp, hq⟩
end
end Mine
end
section
open PySem PySem.W PyProof.Rows PySem.Spec PySem.Calls PySem.NumText
set_option autoImplicit false
namespace Mine
local macro_rules | `(tactic| walk_at "no such key") => `(tactic| fail)
abbrev sortOf (r : Bool) : Int := if r then 2 else 1
set_option maxRecDepth 100000 in
set_option maxHeartbeats 8000000 in
theorem ntext2_con (w : World) (a₁ : Addr) (x y : Int) (tx ty : Tok) (k : Nat) (hx : (dg x.natAbs).length ≤ 40000) (hy : (dg y.natAbs).length ≤ 40000) (hy1 : 1 ≤ y) (u : Tok) :
    Con w 739 [.ref a₁, .int 2 u] [(a₁, tupO x y tx ty k)] (fun v sub' => (∀ p ∈ [(a₁, tupO x y tx ty k)], p ∈ sub') ∧ ∃ t', v = .str (T (realL x y)) t') 8 192 := by
  have hR := real_con w a₁ x y tx ty k hx hy hy1
  k_with_none
  k_with "call ref" => (k_dflt ((refine' con_read (by assumption) ?kP ?k1 ?k2 ?k3 ?k4 ?kS ?k5 ?kK ?kd ?ku ?_; (case kP => exact fun _ _ h => h.1); (case k1 => k_asm); (case k2 => k_asm); (case k3 => k_asm); (case k4 => k_asm); (case kS => lcg_sub); (case k5 => k_asm); (case kK => first | exact rfl | assumption); (case kd => ktr_room); (case ku => ktr_units))); intro v9 sub9 h9 tk9 F9 N9 p9; obtain ⟨_, t9, e9⟩ := p9; subst e9; (try dsimp only); (try k_fold))
  w_on
  unfold Con
  k_fill
  intro p loose mean mg mb dp un gd cn cs L a ccd cl outer A₀ base h₀ m s Q E B F X N Tp hk hd hu hret
  w_strict ((refine' con_enter ?k1 ?k2 ?k3 ?k4 ?k5 ?kR ?kA ?kF ?kK ?k6 ?k7 ?k8 ?k9 ?kB ?_ ?c2 ?c3 ?c4 ?c5; (case kR => assumption); (case kA => exact rfl); (case kF => exact rfl); (case kK => assumption); (case k1 => k_asm); (case k2 => k_asm); (case k3 => k_asm); (case k4 => k_asm); (case k5 => k_asm); (case k6 => k_is); (case k7 => k_is); (case k8 => ktr_room); (case k9 => exact BindsTo.of_eq rfl); (case c5 => decide); (case kB => exact locs rfl); (case c2 => exact rfl); (case c3 => exact rfl); (case c4 => exact rfl); k_whole; intro g' L' h' tk' F' N' B' X' T' l0; simp only [AllLt, and_true] at l0; (try dsimp only); (try k_lift B'); (try k_fold)); k_steps)
  ((try dsimp only); (try k_unfold); (try dsimp only); (refine leaveS (by assumption) (by assumption) ?_))
  exact ⟨by lcg_sub, _, rfl⟩
set_option maxRecDepth 100000 in
set_option maxHeartbeats 8000000 in
theorem ntext1_con (w : World) (a₁ : Addr) (x y : Int) (tx ty : Tok) (k : Nat) (hx : (dg x.natAbs).length ≤ 40000) (hy : (dg y.natAbs).length ≤ 40000) (hy1 : 1 ≤ y) (u : Tok) :
    Con w 739 [.ref a₁, .int 1 u] [(a₁, tupO x y tx ty k)] (fun v sub' => (∀ p ∈ [(a₁, tupO x y tx ty k)], p ∈ sub') ∧ ∃ t', v = .str (T (ratioL x y)) t') 8 192 := by
  have hR := ratio_con w a₁ x y tx ty k hx hy hy1
  k_with_none
  k_with "call ref" => (k_dflt ((refine' con_read (by assumption) ?kP ?k1 ?k2 ?k3 ?k4 ?kS ?k5 ?kK ?kd ?ku ?_; (case kP => exact fun _ _ h => h.1); (case k1 => k_asm); (case k2 => k_asm); (case k3 => k_asm); (case k4 => k_asm); (case kS => lcg_sub); (case k5 => k_asm); (case kK => first | exact rfl | assumption); (case kd => ktr_room); (case ku => ktr_units))); intro v9 sub9 h9 tk9 F9 N9 p9; obtain ⟨_, t9, e9⟩ := p9; subst e9; (try dsimp only); (try k_fold))
  w_on
  unfold Con
  k_fill
  intro p loose mean mg mb dp un gd cn cs L a ccd cl outer A₀ base h₀ m s Q E B F X N Tp hk hd hu hret
  w_strict ((refine' con_enter ?k1 ?k2 ?k3 ?k4 ?k5 ?kR ?kA ?kF ?kK ?k6 ?k7 ?k8 ?k9 ?kB ?_ ?c2 ?c3 ?c4 ?c5; (case kR => assumption); (case kA => exact rfl); (case kF => exact rfl); (case kK => assumption); (case k1 => k_asm); (case k2 => k_asm); (case k3 => k_asm); (case k4 => k_asm); (case k5 => k_asm); (case k6 => k_is); (case k7 => k_is); (case k8 => ktr_room); (case k9 => exact BindsTo.of_eq rfl); (case c5 => decide); (case kB => exact locs rfl); (case c2 => exact rfl); (case c3 => exact rfl); (case c4 => exact rfl); k_whole; intro g' L' h' tk' F' N' B' X' T' l0; simp only [AllLt, and_true] at l0; (try dsimp only); (try k_lift B'); (try k_fold)); k_steps)
  ((try dsimp only); (try k_unfold); (try dsimp only); (refine leaveS (by assumption) (by assumption) ?_))
  exact ⟨by lcg_sub, _, rfl⟩
theorem ntext_con (w : World) (a₁ : Addr) (x y : Int) (tx ty : Tok) (k : Nat) (hx : (dg x.natAbs).length ≤ 40000) (hy : (dg y.natAbs).length ≤ 40000) (hy1 : 1 ≤ y) (r : Bool) (u : Tok) :
    Con w 739 [.ref a₁, .int (sortOf r) u] [(a₁, tupO x y tx ty k)] (fun v sub' => (∀ p ∈ [(a₁, tupO x y tx ty k)], p ∈ sub') ∧ ∃ t', v = .str (T (textL r x y)) t') 8 192 := by
  cases r
  · exact ntext1_con w a₁ x y tx ty k hx hy hy1 u
  · exact ntext2_con w a₁ x y tx ty k hx hy hy1 u
set_option maxRecDepth 100000 in
set_option maxHeartbeats 8000000 in
theorem value2_con (w : World) (b : Addr) (a₁ : Addr) (x y : Int) (tx ty : Tok) (k : Nat) (hx : (dg x.natAbs).length ≤ 40000) (hy : (dg y.natAbs).length ≤ 40000) (hy1 : 1 ≤ y) (u : Tok) :
    Con w 800 [.ref b, .ref a₁, .int 2 u] [(a₁, tupO x y tx ty k)] (fun v sub' => (∀ p ∈ [(a₁, tupO x y tx ty k)], p ∈ sub') ∧ ∃ t', v = .str (T (realL x y)) t') 10 256 := by
  have hR := ntext2_con w a₁ x y tx ty k hx hy hy1 u
  k_with_none
  k_with "call ref" => (k_dflt ((refine' con_read (by assumption) ?kP ?k1 ?k2 ?k3 ?k4 ?kS ?k5 ?kK ?kd ?ku ?_; (case kP => exact fun _ _ h => h.1); (case k1 => k_asm); (case k2 => k_asm); (case k3 => k_asm); (case k4 => k_asm); (case kS => lcg_sub); (case k5 => k_asm); (case kK => first | exact rfl | assumption); (case kd => ktr_room); (case ku => ktr_units))); intro v9 sub9 h9 tk9 F9 N9 p9; obtain ⟨_, t9, e9⟩ := p9; subst e9; (try dsimp only); (try k_fold))
  w_on
  unfold Con
  k_fill
  intro p loose mean mg mb dp un gd cn cs L a ccd cl outer A₀ base h₀ m s Q E B F X N Tp hk hd hu hret
  w_strict ((refine' con_enter ?k1 ?k2 ?k3 ?k4 ?k5 ?kR ?kA ?kF ?kK ?k6 ?k7 ?k8 ?k9 ?kB ?_ ?c2 ?c3 ?c4 ?c5; (case kR => assumption); (case kA => exact rfl); (case kF => exact rfl); (case kK => assumption); (case k1 => k_asm); (case k2 => k_asm); (case k3 => k_asm); (case k4 => k_asm); (case k5 => k_asm); (case k6 => k_is); (case k7 => k_is); (case k8 => ktr_room); (case k9 => exact BindsTo.of_eq rfl); (case c5 => decide); (case kB => exact locs rfl); (case c2 => exact rfl); (case c3 => exact rfl); (case c4 => exact rfl); k_whole; intro g' L' h' tk' F' N' B' X' T' l0; simp only [AllLt, and_true] at l0; (try dsimp only); (try k_lift B'); (try k_fold)); k_steps)
  ((try dsimp only); (try k_unfold); (try dsimp only); (refine leaveS (by assumption) (by assumption) ?_))
  exact ⟨by lcg_sub, _, rfl⟩
set_option maxRecDepth 100000 in
set_option maxHeartbeats 8000000 in
theorem value1_con (w : World) (b : Addr) (a₁ : Addr) (x y : Int) (tx ty : Tok) (k : Nat) (hx : (dg x.natAbs).length ≤ 40000) (hy : (dg y.natAbs).length ≤ 40000) (hy1 : 1 ≤ y) (u : Tok) :
    Con w 800 [.ref b, .ref a₁, .int 1 u] [(a₁, tupO x y tx ty k)] (fun v sub' => (∀ p ∈ [(a₁, tupO x y tx ty k)], p ∈ sub') ∧ ∃ t', v = .str (T (ratioL x y)) t') 10 256 := by
  have hR := ntext1_con w a₁ x y tx ty k hx hy hy1 u
  k_with_none
  k_with "call ref" => (k_dflt ((refine' con_read (by assumption) ?kP ?k1 ?k2 ?k3 ?k4 ?kS ?k5 ?kK ?kd ?ku ?_; (case kP => exact fun _ _ h => h.1); (case k1 => k_asm); (case k2 => k_asm); (case k3 => k_asm); (case k4 => k_asm); (case kS => lcg_sub); (case k5 => k_asm); (case kK => first | exact rfl | assumption); (case kd => ktr_room); (case ku => ktr_units))); intro v9 sub9 h9 tk9 F9 N9 p9; obtain ⟨_, t9, e9⟩ := p9; subst e9; (try dsimp only); (try k_fold))
  w_on
  unfold Con
  k_fill
  intro p loose mean mg mb dp un gd cn cs L a ccd cl outer A₀ base h₀ m s Q E B F X N Tp hk hd hu hret
  w_strict ((refine' con_enter ?k1 ?k2 ?k3 ?k4 ?k5 ?kR ?kA ?kF ?kK ?k6 ?k7 ?k8 ?k9 ?kB ?_ ?c2 ?c3 ?c4 ?c5; (case kR => assumption); (case kA => exact rfl); (case kF => exact rfl); (case kK => assumption); (case k1 => k_asm); (case k2 => k_asm); (case k3 => k_asm); (case k4 => k_asm); (case k5 => k_asm); (case k6 => k_is); (case k7 => k_is); (case k8 => ktr_room); (case k9 => exact BindsTo.of_eq rfl); (case c5 => decide); (case kB => exact locs rfl); (case c2 => exact rfl); (case c3 => exact rfl); (case c4 => exact rfl); k_whole; intro g' L' h' tk' F' N' B' X' T' l0; simp only [AllLt, and_true] at l0; (try dsimp only); (try k_lift B'); (try k_fold)); k_steps)
  ((try dsimp only); (try k_unfold); (try dsimp only); (refine leaveS (by assumption) (by assumption) ?_))
  exact ⟨by lcg_sub, _, rfl⟩
end Mine
end
section
open PySem PySem.W PyProof.Rows PySem.Spec PySem.Calls PySem.NumText
set_option autoImplicit false
namespace Mine
local macro_rules | `(tactic| k_get) => `(tactic| with_reducible assumption)
theorem realL_len {x y : Int} (hx : (dg x.natAbs).length ≤ 40000) (hy : (dg y.natAbs).length ≤ 40000) : (realL x y).length ≤ 90000 := by
  unfold realL
  dsimp only
  split <;> split <;> (try simp only [List.length_append, List.length_cons, List.length_nil]) <;> omega
theorem ratioL_len {x y : Int} (hx : (dg x.natAbs).length ≤ 40000) (hy : (dg y.natAbs).length ≤ 40000) : (ratioL x y).length ≤ 90000 := by
  unfold ratioL
  dsimp only
  split <;> split <;> (try simp only [List.length_append, List.length_cons, List.length_nil]) <;> omega
theorem textL_len {r : Bool} {x y : Int} (hx : (dg x.natAbs).length ≤ 40000) (hy : (dg y.natAbs).length ≤ 40000) : (textL r x y).length ≤ 90000 := by
  cases r
  · exact ratioL_len hx hy
  · exact realL_len hx hy
section
variable {prog : Program} {w : World} {A : Around} {E : Value → Shared → Prop} {s : Shared}
theorem add_J {Q : Value → Shared → Prop} {x : PySem.Str} {l : List Nat} {t u : Tok} (hx : x = T []) (hl : l.length ≤ 90000) (h : ∀ t' k, Q (.str (T l) t') { s with toks := k }) : wpAny (model prog w) A (binaryOp .Add (.str x t) (.str (T l) u)) Q E s := by
  subst hx
  exact add_T (by simp only [List.length_nil]; omega) h
theorem add_E {Q : Value → Shared → Prop} {x : PySem.Str} {l : List Nat} {t u : Tok} (hx : x = T []) (hl : l.length ≤ 90000) (h : ∀ t' k, Q (.str (T l) t') { s with toks := k }) : wpAny (model prog w) A (binaryOp .Add (.str (T l) t) (.str x u)) Q E s := by
  subst hx
  refine add_T (by simp only [List.length_nil]; omega) ?_
  rw [List.append_nil]
  exact h
end
set_option maxRecDepth 100000 in
set_option maxHeartbeats 8000000 in
theorem term_con (w : World) (b db lo la ls ld e a₁ : Addr) (es : List DictEntry) (nn : Nat) (os gs ss ds : List Value) (k1 k2 k3 k4 ke : Nat) (x y : Int) (tx ty : Tok) (k : Nat) (i : Nat) (t : Tok) (t0 : Tok) (u : Tok) (r : Bool)
    (he1 : getL (Str.ofString "term_ops") es = some (some (.ref lo))) (he2 : getL (Str.ofString "term_args") es = some (some (.ref la))) (he3 : getL (Str.ofString "term_sorts") es = some (some (.ref ls))) (he4 : getL (Str.ofString "term_datas") es = some (some (.ref ld))) (hm1 : getL (Str.ofString "parts") es = some none) (hm2 : getL (Str.ofString "parts_of_all") es = some none) (hm3 : getL (Str.ofString "args") es = some none) (hm4 : getL (Str.ofString "op") es = some none) (hm5 : getL (Str.ofString "data") es = some none) (hm6 : getL (Str.ofString "sort") es = some none)
    (hi : i ≤ 10000) (r1 : os[i]? = some (Value.str (Str.ofString "num") t0)) (r2 : gs[i]? = some (Value.ref e)) (r3 : ss[i]? = some (Value.int (sortOf r) u)) (r4 : ds[i]? = some (Value.ref a₁)) (hx : (dg x.natAbs).length ≤ 40000) (hy : (dg y.natAbs).length ≤ 40000) (hy1 : 1 ≤ y) :
    Con w 786 [.ref b, .int (i : Int) t] (bankR b db lo la ls ld e a₁ es nn os gs ss ds k1 k2 k3 k4 ke x y tx ty k)
      (fun v sub' => (∀ p ∈ bankR b db lo la ls ld e a₁ es nn os gs ss ds k1 k2 k3 k4 ke x y tx ty k, p ∈ sub') ∧ ∃ t', v = .str (T (textL r x y)) t') 30 1024 := by
  have hP := parts_con w b db lo la ls ld e a₁ es nn os gs ss ds k1 k2 k3 k4 ke x y tx ty k i t t0 (sortOf r) u he1 he2 he3 he4 hm1 hm2 hm3 hm4 hm5 hm6 hi r1 r2 r3 r4
  have hR := ntext_con w a₁ x y tx ty k hx hy hy1 r u
  dsimp only [bankR] at hP ⊢
  k_with_none
  k_with "getItem ref int" => (k_dflt (refine list_at (by k_asm) (by k_mem) (by assumption) (by assumption) ?_))
  k_with "subscriptTail Name Name ref int" => (k_dflt (refine list_sub (by k_asm) (by k_mem) (by assumption) (by assumption) ?_))
  k_with "subscriptTail Attribute Name Name ref int" => (k_dflt (refine list_sub (by k_asm) (by k_mem) (by assumption) (by assumption) ?_))
  k_with "call builtin:list.append" => ((k_dflt (refine' append_K ?k1 ?k2 ?k3 ?_ ?z; (case k1 => k_asm); (case k2 => k_asm); (case k3 => k_upd); (case z => (simp only [List.size_toArray, PySem.sizeLine_eq, List.size_toArray, List.length_nil, List.length_cons]; omega)))); intro h9 F9 N9; (try dsimp only))
  k_with "call type:reversed" => ((k_dflt (refine rv_made (by k_asm) (by k_asm) (by k_mem) ?_)); intro D9 h9 tk9 F9 N9 l9; (have off9 := fun p hp => Nat.ne_of_lt (l9 p hp)); clear l9; (try dsimp only))
  k_with "pyIter ref" => ((with_reducible show wpAny _ _ (pyIter (Value.ref _)) (fun it s₂ => LoopAtV _ _ _ _ _ _ _ _ _ it s₂) _ _); (k_dflt (refine rv_loop (by rfl) (by k_asm) (by assumption) (by assumption) ?_)); intro h9 tk9 F9 N9; (try dsimp only))
  k_with "pyIter ref" => ((with_reducible show wpAny _ _ (pyIter (Value.ref _)) (fun it s₂ => LoopAtV _ _ _ _ _ _ _ _ _ it s₂) _ _); (k_dflt (refine tn_loop (by rfl) (by k_asm) (by k_asm) (by k_mem) ?_)); intro h9 tk9 F9 N9; (try dsimp only))
  k_with "call ref" => k_extra "stop parts"
  k_with "call ref" => ((with_reducible show wpAny _ _ (call (Value.ref 739) _) _ _ _); k_dflt ((refine' con_read (by assumption) ?kP ?k1 ?k2 ?k3 ?k4 ?kS ?k5 ?kK ?kd ?ku ?_; (case kP => exact fun _ _ h => h.1); (case k1 => k_asm); (case k2 => k_asm); (case k3 => k_asm); (case k4 => k_asm); (case kS => lcg_sub); (case k5 => k_asm); (case kK => first | exact rfl | assumption); (case kd => ktr_room); (case ku => ktr_units))); intro v9 sub9 h9 tk9 F9 N9 p9; obtain ⟨_, t9, e9⟩ := p9; subst e9; (try dsimp only); (try k_fold))
  k_with "binaryOp Add str str" => (first | (k_dflt (refine add_J (by decide +kernel) (textL_len (by assumption) (by assumption)) ?_); intro _ _) | (k_dflt (refine add_E (by decide +kernel) (textL_len (by assumption) (by assumption)) ?_); intro _ _))
  k_with "stop parts" => (with_reducible show wpAny _ _ (call (Value.ref 394) _) _ _ _); refine stop_here ?_
  w_on
  unfold Con
  k_fill
  intro p loose mean mg mb dp un gd cn cs L a ccd cl outer A₀ base h₀ m s Q E B F X N Tp hk hd hu hret
  w_strict ((refine' con_enter ?k1 ?k2 ?k3 ?k4 ?k5 ?kR ?kA ?kF ?kK ?k6 ?k7 ?k8 ?k9 ?kB ?_ ?c2 ?c3 ?c4 ?c5; (case kR => assumption); (case kA => exact rfl); (case kF => exact rfl); (case kK => assumption); (case k1 => k_asm); (case k2 => k_asm); (case k3 => k_asm); (case k4 => k_asm); (case k5 => k_asm); (case k6 => k_is); (case k7 => k_is); (case k8 => ktr_room); (case k9 => exact BindsTo.of_eq rfl); (case c5 => decide); (case kB => exact locs rfl); (case c2 => exact rfl); (case c3 => exact rfl); (case c4 => exact rfl); k_whole; intro g' L' h' tk' F' N' B' X' T' l0; simp only [AllLt, and_true] at l0; (try dsimp only); (try k_lift B'); (try k_fold)); k_steps)
  refine ⟨?_⟩
  refine' con_rn hP ?k1 ?k2 ?k3 ?k4 ?kS ?k5 ?kK ?kd ?ku ?_
  case k1 => k_asm
  case k2 => k_asm
  case k3 => k_asm
  case k4 => k_asm
  case kS => lcg_sub
  case k5 => k_asm
  case kK => first | exact rfl | assumption
  case kd => ktr_room
  case ku => ktr_units
  intro D9 o9 h9 tk9 p9 F9 N9 f9
  obtain ⟨k9, rfl⟩ := p9
  simp only [LCg.Off1, and_true] at f9
  (try dsimp only)
  (try k_fold)
  w_strict k_steps
  ((try dsimp only); (try k_unfold); (try dsimp only); (refine leaveS (by assumption) (by assumption) ?_))
  exact ⟨by lcg_sub, _, rfl⟩
end Mine
end
section
open PySem PySem.W PyProof.Rows PySem.Spec PySem.Calls PySem.NumText
set_option autoImplicit false
namespace Mine
/-- the contract of a def that is called through a bound method -/
def ConC (w : World) (f : Addr) (vs : List Value) (sub : Led) (Post : Value → Led → Prop) (d u : Nat) : Prop :=
  ∀ (p : Program) (loose : List Str) (mean : ExcName → Option Value) (mg mb : Str → Option Value) (dp un : Nat) (gd : Option (List Code)) (cn : Str) (cs : Scope) (L a : Addr) (ccd : Value) (cl : List (Str × Addr)) (outer : List Env) (A₀ : Around) (base h₀ : Heap) (m : Str → Option Value) (s : Shared) (Q E : Value → Shared → Prop),
    Below A₀ base outer h₀ → Fr h₀ L s.heap m → (Mine.hd.heap_1 w.params).In h₀ → News h₀ L s.heap sub → Top p loose mean mg mb h₀ → cs.kind = .function → dp + d < recursionLimit → un + u < cLine →
    Ret h₀ L m s sub Post Q → codeAny (model PySem.Challenge.rw_sj0100_01.row.prog w) (ktrTop dp un gd cn cs L a ccd cl outer) (.call (.ref f) ⟨vs, []⟩) (fun r s' => match r with | .ok (.ret v) => Q v s' | .ok _ => False | .error e => E e s') s
section
variable {prog : Program} {w : World} {A₀ A : Around} {s : Shared} {base h₀ : Heap} {outer : List Env} {L : Addr} {m : Str → Option Value} {env : Env} {sub : Led} {K : Frag} {p : Program} {loose : List Str} {mean : ExcName → Option Value} {mg mb : Str → Option Value}
  {Q E : Value → Shared → Prop} {name qual : Str} {params : Arguments} {body : List Stmt} {scope : Scope} {dV kV doc pm cdv ct oc : Value} {an od : Option Addr} {osl : Array (Option Value)} {f : Addr} {vs : List Value} {binds : List (Str × Value)} {Post : Value → Led → Prop}
theorem con_enterM (B : Below A₀ base outer h₀) (F : Fr h₀ L s.heap m) (X₀ : K.In h₀) (N : News h₀ L s.heap sub) (T : Top p loose mean mg mb h₀) (hret : Ret h₀ L m s sub Post Q)
    (hA : A.frames = some (env :: outer)) (hf : env.frame = some L) (hke : env.scope.kind = .function)
    (ho : K.lookup f = some ⟨oc, od, .func (fnOf name qual params body scope dV kV doc pm an cdv ct), osl⟩) (hcd : codeIn K cdv qual = true) (hroom : A.depth < recursionLimit)
    (hbind : BindsTo s (fnOf name qual params body scope dV kV doc pm an cdv ct) ⟨vs, []⟩ ((params.args.map (·.arg)).zip vs)) (hloc : ∀ y ∈ ((params.args.map (·.arg)).zip vs), scope.names.lookup y.1 = some .local)
    (h : ∀ g L' h₁ tk, Fr g L' h₁ (fun y => ((params.args.map (·.arg)).zip vs).reverse.lookup y) → News g L' h₁ sub → Below A base (env :: outer) g → K.In g → Top p loose mean mg mb g → AllLt L' sub →
      wpAny (model prog w) (A.deeper (envOf qual scope L' f cdv)) (execs body (envOf qual scope L' f cdv))
        (fun fl s' => LeaveS g s Post (match fl with | .ret v => v | _ => .none) s')
        (fun e s' => wpAny (model prog w) (A.deeper (envOf qual scope L' f cdv)) (leaving (envOf qual scope L' f cdv) e) (fun _ s'' => E e s'') (fun e' s'' => E e' s'') s')
        { s with heap := h₁, toks := tk })
    (hco : scope.isCoroutine = false) (hgen : scope.isGenerator = false) (hk : scope.kind = .function)
    (hcell : ∀ x ∈ scope.names, x.2 ≠ .cell) : codeAny (model prog w) A (.call (.ref f) ⟨vs, []⟩) (fun r s' => match r with | .ok (.ret v) => Q v s' | .ok _ => False | .error e => E e s') s := by
  obtain ⟨FG, BG, st, _⟩ := groundX (R := fun _ _ => True) B F N hA hf hke
  refine codeAny_call_def (fd := fnOf name qual params body scope dV kV doc pm an cdv ct) (body := body) (binds := ((params.args.map (·.arg)).zip vs)) hroom ((X₀.keeps F.keep) _ _ ho) rfl (T.nolimit.keeps F.keep) (codeRec_of (X₀.keeps F.keep) hcd) rfl hbind hcell hloc (fun h₁ hns hk₁ => ?_) hco hgen hk
  exact wpAny_mono (h _ s.heap.objs.size h₁ _ ⟨hns, fun b o e => hk₁ b o (of_hideAll _ e), Nat.le_of_eq (hideAll_size _ _)⟩
    (fun p hp => ⟨hk₁ _ _ (N p hp).1, Nat.ne_of_lt (Heap.lt_size (N p hp).1), hideAll_none _ (List.mem_map_of_mem hp)⟩) BG (X₀.keeps st) (T.keeps st) (allLt_of fun p hp => Heap.lt_size (N p hp).1)) (fun fl s' hl => ret_of F N hret hl) fun _ _ y => y
end
structure NoM (es : List DictEntry) : Prop where
  m1 : getL (Str.ofString "make") es = some none
  m2 : getL (Str.ofString "is_number_sort") es = some none
  m3 : getL (Str.ofString "num") es = some none
  m4 : getL (Str.ofString "parts") es = some none
  m5 : getL (Str.ofString "parts_of_all") es = some none
  m6 : getL (Str.ofString "args") es = some none
  m7 : getL (Str.ofString "op") es = some none
  m8 : getL (Str.ofString "data") es = some none
  m9 : getL (Str.ofString "sort") es = some none
abbrev ListB (b db lo la ls ld dn : Addr) : List Addr := [b, db, lo, la, ls, ld, dn]
abbrev OrdB (b db lo la ls ld dn : Addr) : Prop := @LT.lt Nat _ db b ∧ @LT.lt Nat _ b lo ∧ @LT.lt Nat _ lo la ∧ @LT.lt Nat _ la ls ∧ @LT.lt Nat _ ls ld ∧ @LT.lt Nat _ ld dn
/-- a bank at (b, db), its ledger, its rows -/
def BankP (w : World) (b db : Addr) (P : List DictEntry → Prop) (c : Nat) (led : Led) : Prop :=
  ∃ (lo la ls ld dn : Addr) (es : List DictEntry) (nn : Nat) (os gs ss ds : List Value) (k1 k2 k3 k4 : Nat) (odn : Obj) (tl : Led) (rows : List BKey) (xs : List (BKey × Addr × Value)),
    led = bankL b db lo la ls ld dn es nn os gs ss ds k1 k2 k3 k4 odn tl ∧ BTab w tl os gs ss ds odn rows xs ∧ rows.length ≤ c ∧ BEs lo la ls ld dn es ∧ NoM es ∧ P es ∧ OrdB b db lo la ls ld dn ∧ (∀ x ∈ ListB b db lo la ls ld dn, ∀ p ∈ tl, p.1 ≠ x) ∧ (dn == sysModules) = false
theorem dict_nil {w : World} {o : Obj} (h : Obj.IsDictOf (PySem.strKind prg w) o []) : DictB prg w o [] := by
  obtain ⟨es, ep, hx, hd, _, hp, _⟩ := h
  refine ⟨hx, es, ep, hd, ?_, List.nodup_nil⟩
  generalize es.toList = l at hp
  cases hp
  rfl
theorem row0 {w : World} {tl : Led} {odn : Obj} {e0 : Addr} {t1 t2 t3 : Tok} (hd : DictB prg w odn []) (he : TupIn tl e0 []) : BTab w tl [Value.str (Str.ofString "") t1] [Value.ref e0] [Value.int 0 t2] [Value.int 0 t3] odn [⟨Str.ofString "", 0, .one 0⟩] [] := by
  refine ⟨⟨rfl, rfl, rfl, rfl, fun i k hk => ?_⟩, hd, (fun _ h => nomatch h), Nat.zero_le _, Nat.le_refl _⟩
  cases i with
  | zero =>
    simp at hk
    subst hk
    exact ⟨⟨t1, rfl⟩, ⟨e0, rfl, he⟩, ⟨t2, rfl⟩, _, rfl, t3, rfl⟩
  | succ i => simp at hk
section
variable {name nm : PySem.Str} {hsh : Int} {t : Tok} {v : Value}
theorem find_put (hne : nm ≠ name) : ∀ es : List DictEntry, ((putL name hsh (.str name t) v es).find? (·.key.isStr nm)).map (·.val) = (es.find? (·.key.isStr nm)).map (·.val) ∧ (putL name hsh (.str name t) v es).any (·.refKey) = es.any (·.refKey)
  | [] => by
    have h1 : (Value.str name t).isStr nm = false := by simp [Value.isStr, Ne.symm hne]
    have h2 : (⟨hsh, .str name t, v⟩ : DictEntry).refKey = false := rfl
    simp [putL, List.find?_cons, h1, h2]
  | e :: r => by
    have ih := find_put hne r
    unfold putL
    by_cases he : e.key.isStr name = true
    · rw [if_pos he]
      have h1 : e.key.isStr nm = false := by
        cases hk : e.key with
        | str x u =>
          rw [hk] at he
          simp only [Value.isStr, beq_iff_eq] at he ⊢
          subst he
          exact beq_eq_false_iff_ne.mpr (Ne.symm hne)
        | _ => rfl
      have h3 : (⟨e.hash, e.key, v⟩ : DictEntry).refKey = e.refKey := rfl
      simp [List.find?_cons, h1, h3]
    · rw [if_neg he]
      simp only [List.find?_cons, List.any_cons, ih.2]
      cases e.key.isStr nm with
      | true => simp
      | false => simp [ih.1]
theorem getL_map (nm : PySem.Str) (es : List DictEntry) : getL nm es = match (es.find? (·.key.isStr nm)).map (·.val) with | some x => some (some x) | none => if es.any (·.refKey) then none else some none := by
  unfold getL
  cases es.find? (·.key.isStr nm) <;> rfl
theorem getL_put (hne : nm ≠ name) (es : List DictEntry) : getL nm (putL name hsh (.str name t) v es) = getL nm es := by
  rw [getL_map, getL_map, (find_put hne es).1, (find_put hne es).2]
theorem len_put : ∀ es : List DictEntry, (putL name hsh (.str name t) v es).length ≤ es.length + 1
  | [] => by simp [putL]
  | e :: r => by
    have := @len_put r
    unfold putL
    split
    · simp
    · simp only [List.length_cons]; omega
theorem BEs.to {lo la ls ld dn : Addr} {es es2 : List DictEntry} (h : BEs lo la ls ld dn es) (hg : ∀ nm, nm ≠ name → getL nm es2 = getL nm es) (hn : ∀ x ∈ [Str.ofString "term_ops", Str.ofString "term_args", Str.ofString "term_sorts", Str.ofString "term_datas", Str.ofString "numbers"], x ≠ name) : BEs lo la ls ld dn es2 := by
  simp only [List.mem_cons, List.not_mem_nil, or_false, forall_eq_or_imp, forall_eq] at hn
  obtain ⟨n1, n2, n3, n4, n5⟩ := hn
  exact ⟨(hg _ n1).trans h.e1, (hg _ n2).trans h.e2, (hg _ n3).trans h.e3, (hg _ n4).trans h.e4, (hg _ n5).trans h.e5⟩
theorem NoM.to {es es2 : List DictEntry} (h : NoM es) (hg : ∀ nm, nm ≠ name → getL nm es2 = getL nm es) (hn : ∀ x ∈ [Str.ofString "make", Str.ofString "is_number_sort", Str.ofString "num", Str.ofString "parts", Str.ofString "parts_of_all", Str.ofString "args", Str.ofString "op", Str.ofString "data", Str.ofString "sort"], x ≠ name) : NoM es2 := by
  simp only [List.mem_cons, List.not_mem_nil, or_false, forall_eq_or_imp, forall_eq] at hn
  obtain ⟨n1, n2, n3, n4, n5, n6, n7, n8, n9⟩ := hn
  exact ⟨(hg _ n1).trans h.m1, (hg _ n2).trans h.m2, (hg _ n3).trans h.m3, (hg _ n4).trans h.m4, (hg _ n5).trans h.m5, (hg _ n6).trans h.m6, (hg _ n7).trans h.m7, (hg _ n8).trans h.m8, (hg _ n9).trans h.m9⟩
theorem bank_next {g h : Heap} {L D b db lo la ls ld dn : Addr} {o odn : Obj} {es : List DictEntry} {n' : Nat} {os gs ss ds : List Value} {k1 k2 k3 k4 : Nat} {tl : Led} (N : News g L h ((D, o) :: bankL b db lo la ls ld dn es n' os gs ss ds k1 k2 k3 k4 odn tl)) :
    News g L h (bankL b db lo la ls ld dn es n' os gs ss ds k1 k2 k3 k4 odn ((D, o) :: tl)) := fun p hp => N p (mem_rot7 hp)
theorem bank_snoc {g h : Heap} {L b db lo la ls ld dn : Addr} {odn : Obj} {es : List DictEntry} {n' : Nat} {os gs ss ds : List Value} {k1 k2 k3 k4 : Nat} {nw tl : Led} (N : News g L h (bankL b db lo la ls ld dn es n' os gs ss ds k1 k2 k3 k4 odn (nw ++ tl))) :
    News g L h (bankL b db lo la ls ld dn es n' os gs ss ds k1 k2 k3 k4 odn (tl ++ nw)) := fun p hp => N p (mem_app7 hp)
theorem off_led {b db lo la ls ld dn : Addr} {odn : Obj} {es : List DictEntry} {n' : Nat} {os gs ss ds : List Value} {k1 k2 k3 k4 : Nat} {nw tl : Led} (h : ∀ p ∈ nw, ∀ q ∈ bankL b db lo la ls ld dn es n' os gs ss ds k1 k2 k3 k4 odn tl, q.1 ≠ p.1) : ∀ x ∈ [b, db, lo, la, ls, ld, dn], ∀ p ∈ nw, p.1 ≠ x :=
  to7 ⟨fun p hp e => h p hp _ (.head _) e.symm, fun p hp e => h p hp _ (.tail _ (.head _)) e.symm, fun p hp e => h p hp _ (.tail _ (.tail _ (.head _))) e.symm, fun p hp e => h p hp _ (.tail _ (.tail _ (.tail _ (.head _)))) e.symm, fun p hp e => h p hp _ (.tail _ (.tail _ (.tail _ (.tail _ (.head _))))) e.symm, fun p hp e => h p hp _ (.tail _ (.tail _ (.tail _ (.tail _ (.tail _ (.head _)))))) e.symm, fun p hp e => h p hp _ (.tail _ (.tail _ (.tail _ (.tail _ (.tail _ (.tail _ (.head _))))))) e.symm⟩
end
section
variable {prog : Program} {w : World} {A A₀ : Around} {E : Value → Shared → Prop} {hh0 : Heap} {gn : Array GenState} {dr : Drawn} {tk0 : Nat} {os0 : OsState} {K : Frag} {x C dx L : Addr} {h₀ : Heap} {m : Str → Option Value} {news : Led} {news' : List DictEntry → Nat → Led} {ox od : Obj} {es es' : List DictEntry} {n n' : Nat} {name : PySem.Str} {v : Value}
theorem set_bank {Q : Unit → Shared → Prop} (F : Fr h₀ L hh0 m) (X₀ : K.In h₀) (N : News h₀ L hh0 news) (I : InstAt hh0 x ox C (some (dictOf es n))) (hd : ox.dict = some dx)
    (hs : findIn K (.ref C) "__setattr__" = some (some (.builtin "object.__setattr__"))) (hp : plainOver K C = true) (ht : takerIn K C name = some none) (hh : hasDictIn K C = true) (hl : getL name es = some none)
    (hz : es.length ≤ 22) (U : ∀ e' n', Upd dx (dictOf es n) (dictOf e' n') news (news' e' n'))
    (h : ∀ h' e' n' tk', Fr h₀ L h' m → News h₀ L h' (news' e' n') → (∀ nm, nm ≠ name → getL nm e' = getL nm es) → e'.length ≤ es.length + 1 → Q () ⟨h', gn, dr, tk', os0⟩) :
    wpAny (model prog w) A (setAttr (.ref x) name v) Q E ⟨hh0, gn, dr, tk0, os0⟩ :=
  set_dict (s := ⟨hh0, gn, dr, tk0, os0⟩) F X₀ N I hd hs hp ht hh (by rw [hl]; rfl) rfl (U _ _) (Nat.le_trans (len_put es) (by omega)) fun h' F' N' => h h' _ _ _ F' N' (fun _ hn => getL_put hn es) (len_put es)
theorem getL_to {name nm : PySem.Str} {es es2 : List DictEntry} (hg : ∀ nm, nm ≠ name → getL nm es2 = getL nm es) (hn : nm ≠ name) : getL nm es2 = getL nm es := hg nm hn
end
local macro_rules | `(tactic| walk_at "setAttr ref") => `(tactic| ((k_dflt (refine' set_bank ?k1 ?k2 ?k3 ?k4 ?k5 ?k6 ?k7 ?k8 ?k9 ?k10 ?kz ?k12 ?_; (case k1 => k_asm); (case k2 => k_asm); (case k3 => k_asm); (case k4 => k_inst); (case k10 => with_reducible assumption); (case kz => omega); (case k5 => exact rfl); (case k6 => k_is); (case k7 => k_is); (case k8 => k_is); (case k9 => k_is); (case k12 => (intro e9 n9; k_upd)))); intro h9 e9 n9 tk9 F9 N9 hg9 hl9; (try dsimp only at N9); (try dsimp only)))
local macro_rules | `(tactic| k_get) => `(tactic| first | with_reducible assumption | exact (getL_to (by assumption) (by decide +kernel)).trans (by with_reducible assumption))
local macro_rules | `(tactic| walk_at "call ref") => `(tactic| k_extra "stop make")
local macro_rules | `(tactic| k_all) => `(tactic| first | exact List.forall_mem_nil _ | with_reducible assumption | (refine' List.forall_mem_cons.mpr ⟨?a, ?b⟩; (case a => k_ne); (case b => k_all)))
set_option maxRecDepth 100000 in
set_option maxHeartbeats 8000000 in
theorem init_con (w : World) (b db : Addr) (hlt : @LT.lt Nat _ db b) :
    ConC w 205 [.ref b] [(b, instObj 724 db), (db, dictOf [] 0)] (fun v sub' => v = .none ∧ BankP w b db (fun es => getL (Str.ofString "bv_numbers") es = some none ∧ es.length ≤ 20) 3 sub') 20 512 := by
  k_with_none
  k_with "stop make" => (with_reducible show wpAny _ _ (call (Value.ref 338) _) _ _ _); refine stop_here ?_
  w_on
  unfold ConC
  k_fill
  intro p loose mean mg mb dp un gd cn cs L a ccd cl outer A₀ base h₀ m s Q E B F X N Tp hk hd hu hret
  w_strict ((refine' con_enterM ?k1 ?k2 ?k3 ?k4 ?k5 ?kR ?kA ?kF ?kK ?k6 ?k7 ?k8 ?k9 ?kB ?_ ?c2 ?c3 ?c4 ?c5; (case kR => assumption); (case kA => exact rfl); (case kF => exact rfl); (case kK => assumption); (case k1 => k_asm); (case k2 => k_asm); (case k3 => k_asm); (case k4 => k_asm); (case k5 => k_asm); (case k6 => k_is); (case k7 => k_is); (case k8 => ktr_room); (case k9 => exact BindsTo.of_eq rfl); (case c5 => decide); (case kB => exact locs rfl); (case c2 => exact rfl); (case c3 => exact rfl); (case c4 => exact rfl); k_whole; intro g' L' h' tk' F' N' B' X' T' l0; simp only [AllLt, and_true] at l0; (try dsimp only); (try k_lift B'); (try k_fold)); k_steps)
  refine ⟨?_⟩
  rename_i lA hA01 q01 hA02 _ _ _ lB hA03 q02 hA04 _ _ _ lC hA05 q03 hA06 _ _ _ lD hA07 q04 hA08 _ _ _ lE hA09 q05 hA10 _ _ _ hA11 _ _ _ lo hA12 q06 hA13 _ _ _ e0 hA14 q07 la hA15 q08 hA16 _ _ _ ls hA17 q09 hA18 _ _ _ ld hA19 q10 hA20 _ _ _ dn hA21 on lon hsn fsn hin fin q11 hA22 eT hN FN NN q12
  dsimp only at NN
  clear fsn hin fin
  have hD := dict_nil hsn
  obtain ⟨es, nn, t1, t2, t3, oA, oB, oC, oD, oE, N1, he, hno, hv1, hv2, hv3, hlen⟩ : ∃ (es : List DictEntry) (nn : Nat) (t1 t2 t3 : Tok) (oA oB oC oD oE : Obj), News _ _ hN (bankL b db lo la ls ld dn es nn [.str (Str.ofString "") t1] [.ref e0] [.int 0 t2] [.int 0 t3] 0 0 0 0 on [(eT, tupE), (e0, tupE), (lE, oE), (lD, oD), (lC, oC), (lB, oB), (lA, oA)]) ∧
      BEs lo la ls ld dn es ∧ NoM es ∧ getL (Str.ofString "true_number") es = some none ∧ getL (Str.ofString "false_number") es = some none ∧ getL (Str.ofString "bv_numbers") es = some none ∧ es.length ≤ 15 := by
    refine ⟨?es, ?nn, ?t1, ?t2, ?t3, ?oA, ?oB, ?oC, ?oD, ?oE, fun p hp => NN p ?mm, ?rest⟩
    case mm =>
      revert p hp
      lcg_sub
    case rest => exact ⟨⟨rfl, rfl, rfl, rfl, rfl⟩, ⟨rfl, rfl, rfl, rfl, rfl, rfl, rfl, rfl, rfl⟩, rfl, rfl, rfl, Nat.le_of_ble_eq_true rfl⟩
  clear NN hsn
  have hb0 : ∀ x ∈ [b, db, lo, la, ls, ld, dn], ∀ p ∈ [(eT, tupE), (e0, tupE), (lE, oE), (lD, oD), (lC, oC), (lB, oB), (lA, oA)], p.1 ≠ x := to7 (by refine ⟨?_, ?_, ?_, ?_, ?_, ?_, ?_⟩ <;> k_all)
  have hm1 := hno.m1
  refine' con_led (make_con w b db lo la ls ld dn eT es nn [.str (Str.ofString "") t1] [.ref e0] [.int 0 t2] [.int 0 t3] 0 0 0 0 on [(eT, tupE), (e0, tupE), (lE, oE), (lD, oD), (lC, oC), (lB, oB), (lA, oA)] [⟨Str.ofString "", 0, .one 0⟩] [] ⟨Str.ofString "true", 0, .one 0⟩ _ _ _ he.e1 he.e2 he.e3 he.e4 he.e5 (row0 hD ⟨_, .tail _ (.head _)⟩) (by decide) ⟨_, .head _⟩ ⟨_, rfl⟩ ⟨rfl, rfl⟩ lon ?ha hb0) ?B FN ?X N1 (fun p hp => hp) ?T rfl ?d ?u ?r
  case B => k_asm
  case X => k_asm
  case T => k_asm
  case d => ktr_room
  case u => ktr_units
  case ha => refine ⟨hlt, ?_, ?_, ?_, ?_, ?_⟩ <;> omega
  case r =>
    intro v sub' h' tk' F' P' hN' hfr
    obtain ⟨i1, u1, os, gs, ss, ds, k1, k2, k3, k4, od1, nw, rows, xs, rfl, hi1, hi2, hT, hrl, rfl, hnw⟩ := P'
    have N2 := bank_snoc (hN' _ fun p hp => .inl hp)
    clear hN' hfr N1 FN
    have hw := off_led hnw
    obtain ⟨w1, w2, w3, w4, w5, w6, w7⟩ := off7 hw
    simp only [List.cons_append, List.nil_append] at N2
    (try dsimp only)
    (try k_unfold)
    (try dsimp only)
    (try k_fold)
    w_strict k_steps
    refine ⟨?_⟩
    rename_i hS es2 nn2 tkS hg hl2 eT2 hN2 FN2 NN2 q2
    have N3 := bank_next NN2
    clear NN2
    have he2 := he.to hg (by decide +kernel)
    have hno2 := hno.to hg (by decide +kernel)
    have hv4 : getL (Str.ofString "false_number") es2 = some none := (hg _ (by decide +kernel)).trans hv2
    have hv5 : getL (Str.ofString "bv_numbers") es2 = some none := (hg _ (by decide +kernel)).trans hv3
    have hb2 : ∀ x ∈ [b, db, lo, la, ls, ld, dn], ∀ p ∈ (eT2, tupE) :: ([(eT, tupE), (e0, tupE), (lE, oE), (lD, oD), (lC, oC), (lB, oB), (lA, oA)] ++ nw), p.1 ≠ x :=
      off_cons (lt7 (by cell_ties) (by cell_ties) (by cell_ties) (by cell_ties) (by cell_ties) (by cell_ties) (by cell_ties)) (off_app hb0 hw)
    have ho2 : OrdB b db lo la ls ld dn := by refine ⟨hlt, ?_, ?_, ?_, ?_, ?_⟩ <;> omega
    have hT2 : BTab w ((eT2, tupE) :: ([(eT, tupE), (e0, tupE), (lE, oE), (lD, oD), (lC, oC), (lB, oB), (lA, oA)] ++ nw)) os gs ss ds od1 rows xs := hT.mono fun p hp => by
      rcases List.mem_append.mp hp with h | h
      · exact .tail _ (List.mem_append_right _ h)
      · exact .tail _ (List.mem_append_left _ h)
    have hrl2 : rows.length ≤ 2 := hrl
    refine' con_led (make_con w b db lo la ls ld dn eT2 es2 _ os gs ss ds k1 k2 k3 k4 od1 ((eT2, tupE) :: ([(eT, tupE), (e0, tupE), (lE, oE), (lD, oD), (lC, oC), (lB, oB), (lA, oA)] ++ nw)) rows xs ⟨Str.ofString "false", 0, .one 0⟩ _ _ _ he2.e1 he2.e2 he2.e3 he2.e4 he2.e5 hT2 (by omega) ⟨_, .head _⟩ ⟨_, rfl⟩ ⟨rfl, rfl⟩ lon ho2 hb2) ?B FN2 ?X N3 (fun p hp => hp) ?T rfl ?d ?u ?r
    case B => k_asm
    case X => k_asm
    case T => k_asm
    case d => ktr_room
    case u => ktr_units
    case r =>
      intro v sub' h' tk' F' P' hN' hfr
      obtain ⟨i1, u1, os, gs, ss, ds, k1, k2, k3, k4, od1, nw2, rows2, xs, rfl, hi1, hi2, hT, hrl, rfl, hnw⟩ := P'
      have N2 := bank_snoc (hN' _ fun p hp => .inl hp)
      clear hN' hfr N3 FN2
      have hb3 : ∀ x ∈ [b, db, lo, la, ls, ld, dn], ∀ p ∈ ((eT2, tupE) :: ([(eT, tupE), (e0, tupE), (lE, oE), (lD, oD), (lC, oC), (lB, oB), (lA, oA)] ++ nw)) ++ nw2, p.1 ≠ x := off_app hb2 (off_led hnw)
      have hT3 := hT.mono (tl' := ((eT2, tupE) :: ([(eT, tupE), (e0, tupE), (lE, oE), (lD, oD), (lC, oC), (lB, oB), (lA, oA)] ++ nw)) ++ nw2) fun p hp => by
        rcases List.mem_append.mp hp with h | h
        · exact List.mem_append_right _ h
        · exact List.mem_append_left _ h
      generalize ((eT2, tupE) :: ([(eT, tupE), (e0, tupE), (lE, oE), (lD, oD), (lC, oC), (lB, oB), (lA, oA)] ++ nw)) ++ nw2 = tl3 at N2 hb3 hT3
      have y2 : ∀ p ∈ tl3, p.1 ≠ db := hb3 db (.tail _ (.head _))
      clear hT hT2 hnw hb2 hw w1 w2 w3 w4 w5 w6 w7
      (try dsimp only)
      (try k_unfold)
      (try dsimp only)
      (try k_fold)
      w_strict k_steps
      (try dsimp only)
      (try k_unfold)
      (try dsimp only)
      rename_i hS3 es3 nn3 tkS3 FN3 NN3 hg3 hl3
      exact leaveS FN3 NN3 ⟨rfl, lo, la, ls, ld, dn, es3, nn3, os, gs, ss, ds, k1, k2, k3, k4, od1, tl3, rows2, xs, rfl, hT3, by omega, he2.to hg3 (by decide +kernel), hno2.to hg3 (by decide +kernel), ⟨(hg3 _ (by decide +kernel)).trans hv5, by omega⟩, ho2, hb3, lon⟩
end Mine
end
section
open PySem PySem.W PyProof.Rows PySem.Spec PySem.Calls PySem.NumText
set_option autoImplicit false
namespace Mine
section
variable {prog : Program} {w : World} {A : Around} {E : Value → Shared → Prop} {s : Shared} {h₀ : Heap} {env : Env}
def LapEnd (h₀ : Heap) (L : Addr) (x : PySem.Str) (stored : List PySem.Str) (m₀ : PySem.Str → Option Value) (J : Led → Prop) (I : Addr) (oI : Obj) (s : Shared) (f : Flow) (s' : Shared) : Prop :=
  f = .next ∧ ∃ h' tk' m' nx', s' = { s with heap := h', toks := tk' } ∧ Fr h₀ L h' m' ∧ News h₀ L h' ((I, oI) :: nx') ∧ (∀ q ∈ nx', q.1 ≠ I) ∧ (∀ z, z ≠ x → stored.contains z = false → m' z = m₀ z) ∧ J nx'
theorem lap_loop {r : Addr} {t₀ u₀ v₀ : Tok} {x : PySem.Str} {body : List Stmt} {Q : Flow → Shared → Prop} {m₀ : PySem.Str → Option Value} {news : Led} (stored : List PySem.Str) (J : Nat → Led → Prop)
    (hh : A.handled = none) (hr : IsRange s.heap r 0 2 1 t₀ u₀ v₀) (F : Fr h₀ env.locals s.heap m₀) (N : News h₀ env.locals s.heap news) (hj : J 0 news)
    (turn : ∀ i nx t (u : PySem.Str → Option Value) h tk I oI, i < 2 → J i nx → (∀ q ∈ news, @LT.lt Nat _ q.1 I) → (∀ q ∈ nx, q.1 ≠ I) → Fr h₀ env.locals h (fun q => if q = x then some (.int (i : Int) t) else if stored.contains q then u q else m₀ q) → News h₀ env.locals h ((I, oI) :: nx) →
      wpAny (model prog w) A (execs body env) (LapEnd h₀ env.locals x stored m₀ (J (i + 1)) I oI { s with heap := h, toks := tk }) E { s with heap := h, toks := tk })
    (done : ∀ nx (u : PySem.Str → Option Value) h tk, J 2 nx → Fr h₀ env.locals h (fun q => if q = x then u q else if stored.contains q then u q else m₀ q) → News h₀ env.locals h nx → Q .next { s with heap := h, toks := tk }) :
    wpAny (model prog w) A (pyIter (.ref r)) (fun it s₂ => LoopAtV prog w A h₀ env x body Q E it s₂) E s := by
  have hsmall : Builtin.Range.small 0 2 1 = true := by decide +kernel
  have hn : Builtin.Range.rangeSize 0 2 1 = 2 := by decide +kernel
  refine wpAny_pyIter_range hr hsmall ?_
  have W := Walks.range (prog := prog) (w := w) hh s.heap.objs.size 0 1 2
  refine ⟨s.heap.objs.size, _, _, 2, _, _, m₀, news, fun i m nx => J i nx ∧ ∀ z, z ≠ x → stored.contains z = false → m z = m₀ z, rfl, W, ?_, ?_, ?_, (by show IsRangeIter _ _ _ _ _; rw [hn]; simpa using Heap.get?_push_size _ rfl), F.push _, (fun p hp => ⟨Heap.get?_push_of_some _ (N p hp).1, (N p hp).2⟩), ⟨hj, fun _ _ _ => rfl⟩, ?_, ?_⟩
  · intro hm
    exact absurd F.ns.lt ((List.mem_singleton.mp hm) ▸ Nat.lt_irrefl _)
  · intro b hb
    rw [List.mem_singleton.mp hb]
    exact next_is_new F
  · intro p hp hI
    exact absurd (Heap.lt_size (N p hp).1) ((List.mem_singleton.mp hI) ▸ Nat.lt_irrefl _)
  · rintro i v m₁ nx s₁ own ⟨h, tk, rfl⟩ hi ⟨t, rfl⟩ ⟨hJ, hm⟩ hoff hown hget hall hst F₁ N₁
    have e1 : (0 : Int) + (i : Int) * 1 = (i : Int) := by omega
    rw [e1] at F₁
    obtain ⟨oI, hgI, hI⟩ : ∃ oI, h.get? s.heap.objs.size = some oI ∧ (s.heap.objs.size, oI) ∈ own := ⟨_, hst, hall s.heap.objs.size (List.mem_singleton.mpr rfl) (next_is_new F) _ hst⟩
    have hoff' : ∀ q ∈ nx, q.1 ≠ s.heap.objs.size := fun q hq e => hoff q hq (List.mem_singleton.mpr e)
    have F₂ : Fr h₀ env.locals h (fun q => if q = x then some (.int (i : Int) t) else if stored.contains q then m₁ q else m₀ q) := by
      have e : (fun q => if q = x then some (Value.int (i : Int) t) else if stored.contains q then m₁ q else m₀ q) = fun q => if q = x then some (Value.int (i : Int) t) else m₁ q := by
        funext q
        by_cases h1 : q = x
        · simp [h1]
        · simp only [if_neg h1]
          cases h2 : stored.contains q with
          | true => simp
          | false => simp [hm q h1 h2]
      rw [e]
      exact F₁
    refine wpAny_mono (turn i nx t m₁ h tk s.heap.objs.size oI hi hJ (fun q hq => Heap.lt_size (N q hq).1) hoff' F₂ (fun p hp => ?_)) (fun f s₂ e => ?_) fun _ _ e => e
    · rcases List.mem_cons.mp hp with rfl | hp
      · exact N₁ _ (List.mem_append_left _ hI)
      · exact N₁ _ (List.mem_append_right _ hp)
    · obtain ⟨rfl, h', tk', m', nx', rfl, F', N', ho, hr', hJ'⟩ := e
      refine .next ⟨rfl, h', tk', m', nx', rfl, F', fun p hp => ?_, fun p hp hI' => ho p hp (List.mem_singleton.mp hI'), hJ', hr'⟩
      rcases List.mem_append.mp hp with hp | hp
      · have h2 : h.get? p.1 = some p.2 := hget p hp
        have h1 : p.1 = s.heap.objs.size := List.mem_singleton.mp (hown p hp)
        have h4 := N' _ (List.mem_cons_self ..)
        rw [h1] at h2
        have h5 := Option.some.inj (h2.symm.trans hgI)
        have h6 : p = (s.heap.objs.size, oI) := Prod.ext h1 h5
        rw [h6]
        exact h4
      · exact N' _ (List.mem_cons_of_mem _ hp)
  · rintro h' tk m' nx' F' N' _ ⟨hJ, hm⟩
    refine done nx' m' h' tk hJ ?_ N'
    have e : (fun q => if q = x then m' q else if stored.contains q then m' q else m₀ q) = m' := by
      funext q
      by_cases h1 : q = x
      · simp [h1]
      · simp only [if_neg h1]
        cases h2 : stored.contains q with
        | true => simp
        | false => simp [hm q h1 h2]
    rw [e]
    exact F'
/-- a value whose ways meet -/
def XMid (w : World) (h₀ : Heap) (L : Addr) (m : PySem.Str → Option Value) (s : Shared) (a c : Addr) (n : Int) (led : Obj → Led) (P : Int → Prop) (v : Value) (s' : Shared) : Prop :=
  ∃ (x : Int) (t : Tok) (h' : Heap) (tk' : Nat) (o' : Obj) (n' : Int) (tn' : Tok), v = .int x t ∧ P x ∧ s' = { s with heap := h', toks := tk' } ∧ Fr h₀ L h' m ∧ News h₀ L h' (led o') ∧ JugO w o' c n' tn' ∧ n ≤ n' ∧ n' ≤ n + 5 ∧ a = a
theorem join_x {m : PySem.Str → Option Value} {L : Addr} {t : Sem Value} {Q : Value → Shared → Prop} {a c : Addr} {n : Int} (led : Obj → Led) (P : Int → Prop) (F : Fr h₀ L s.heap m)
    (h1 : wpAny (model prog w) A t (XMid w h₀ L m s a c n led P) E s) (h2 : ∀ (x : Int) t h' tk' o' n' tn', P x → Fr h₀ L h' m → News h₀ L h' (led o') → JugO w o' c n' tn' → n ≤ n' → n' ≤ n + 5 → Q (.int x t) { s with heap := h', toks := tk' }) : wpAny (model prog w) A t Q E s := by
  refine wpAny_mono h1 (fun v s' e => ?_) fun _ _ e => e
  obtain ⟨x, t, h', tk', o', n', tn', rfl, hp, rfl, F', N', hj, h3, h4, _⟩ := e
  exact h2 x t h' tk' o' n' tn' hp F' N' hj h3 h4
theorem xmid {m : PySem.Str → Option Value} {L a c : Addr} {n n' : Int} {led : Obj → Led} {P : Int → Prop} {x : Int} {t : Tok} {h' : Heap} {tk' : Nat} {o' : Obj} {tn' : Tok} (F : Fr h₀ L h' m) (N : News h₀ L h' (led o')) (hj : JugO w o' c n' tn') (hp : P x) (h3 : n ≤ n') (h4 : n' ≤ n + 5) : XMid w h₀ L m s a c n led P (.int x t) { s with heap := h', toks := tk' } :=
  ⟨x, t, h', tk', o', n', tn', rfl, hp, rfl, F, N, hj, h3, h4, rfl⟩
end
section
variable {w : World} {f q : Addr} {self : Value} {vs : List Value} {sub news : Led} {Post : Value → Led → Prop} {d u : Nat} {p : Program} {loose : List Str} {mean : ExcName → Option Value} {mg mb : Str → Option Value} {dp un : Nat} {gd : Option (List Code)} {cn : Str} {cs : Scope} {L a : Addr} {ccd : Value} {cl : List (Str × Addr)} {outer : List Env} {A₀ : Around} {base h₀ : Heap} {m : Str → Option Value} {s : Shared} {Q E : Value → Shared → Prop}
theorem con_ledM (c : ConC w f (self :: vs) sub Post d u) (hq : (q, methodObj (.ref f) self) ∈ news) (B : Below A₀ base outer h₀) (F : Fr h₀ L s.heap m) (X : (Mine.hd.heap_1 w.params).In h₀) (N : News h₀ L s.heap news) (hs : ∀ p ∈ sub, p ∈ news) (T : Top p loose mean mg mb h₀) (hk : cs.kind = .function) (hd : dp + d < recursionLimit) (hu : un + u < cLine)
    (r : ∀ v sub' h' tk', Fr h₀ L h' m → Post v sub' → (∀ news' : Led, (∀ p ∈ news', p ∈ sub' ∨ (p ∈ news ∧ p.1 ∉ sub.map (·.1))) → News h₀ L h' news') → (∀ q ∈ sub', (∀ p ∈ sub, p.1 ≠ q.1) → ∀ p ∈ news, p.1 ≠ q.1) → Q v { s with heap := h', toks := tk' }) :
    wpAny (model PySem.Challenge.rw_sj0100_01.row.prog w) (ktrTop dp un gd cn cs L a ccd cl outer) (call (.ref q) vs) Q E s :=
  call_meth N hq (c p loose mean mg mb dp un gd cn cs L a ccd cl outer A₀ base h₀ m s Q E B F X (fun p hp => N p (hs p hp)) T hk hd hu fun v sub' h' tk' F' K' N' fr P' => r v sub' h' tk' F' P' (fun _ hn => news_after N K' N' hn) fun q hq hne p hp e => by
    rcases fr q hq with h | h
    · obtain ⟨p2, h2, e2⟩ := List.mem_map.mp h
      exact hne p2 h2 e2
    · rw [← e, (N p hp).1] at h; cases h)
end
/-- what stands between the laps -/
def LapJ (w : World) (jj cc bb dd lo la ls ld dn : Addr) (es : List DictEntry) (nn : Nat) (vs : List Value) (kc : Nat) (i : Nat) (nx : Led) : Prop :=
  ∃ (o : Obj) (n : Int) (tn : Tok) (os gs ss ds : List Value) (k1 k2 k3 k4 : Nat) (odn : Obj) (tl : Led) (rows : List BKey) (xs : List (BKey × Addr × Value)), nx = (jj, o) :: (cc, listOf vs.toArray kc) :: bankL bb dd lo la ls ld dn es nn os gs ss ds k1 k2 k3 k4 odn tl ∧ JugO w o cc n tn ∧ 0 ≤ n ∧ n ≤ 100 + 100 * (i : Int) ∧
    BTab w tl os gs ss ds odn rows xs ∧ rows.length ≤ 3 + 2 * i ∧ (∀ x ∈ [jj, cc, bb, dd, lo, la, ls, ld, dn], ∀ p ∈ tl, p.1 ≠ x)
/-- the two numbers of a ratio, as the contracts want them -/
structure GoodXY (x y : Int) : Prop where
  hx : (dg x.natAbs).length ≤ 40000
  hy : (dg y.natAbs).length ≤ 40000
  h1 : 1 ≤ y
  sx : Sm (if x < 0 then -x else x)
  sy : Sm y
theorem sm_ten {r : Nat} (h : r < 10 ^ 9200) : Sm (r : Int) := by
  have hb : (10 : Nat) ^ 9200 ≤ 2 ^ 65536 := by decide +kernel
  refine ⟨by omega, ?_⟩
  have h2 : r < 2 ^ 65536 := Nat.lt_of_lt_of_le h hb
  have h3 : ((2 : Int) ^ 65536) = ((2 ^ 65536 : Nat) : Int) := by rw [Int.natCast_pow]; rfl
  rw [h3]
  exact Int.ofNat_lt.mpr h2
theorem good_xy {x : Int} {r r2 : Nat} (hx : x.natAbs = r) (h : r < 10 ^ 9200) (h1 : 1 ≤ r2) (h2 : r2 < 10 ^ 9200) : GoodXY x (r2 : Int) := by
  have e : (if x < 0 then -x else x) = ((x.natAbs : Nat) : Int) := by split <;> omega
  refine ⟨?_, ?_, by omega, ?_, sm_ten h2⟩
  · rw [hx]
    exact Nat.le_trans (dg_len_le (by decide) h) (by decide)
  · rw [Int.natAbs_natCast]
    exact Nat.le_trans (dg_len_le (by decide) h2) (by decide)
  · rw [e, hx]
    exact sm_ten h
end Mine
end
section
open PySem PySem.W PyProof.Rows PySem.Spec PySem.Calls PySem.NumText
set_option autoImplicit false
namespace Mine
theorem ratio_g {w : World} {a₁ : Addr} {x y : Int} {tx ty : Tok} {k : Nat} (h : GoodXY x y) : Con w 184 [.ref a₁] [(a₁, tupO x y tx ty k)] (fun v sub' => (∀ p ∈ [(a₁, tupO x y tx ty k)], p ∈ sub') ∧ ∃ t', v = .str (T (ratioL x y)) t') 6 128 := ratio_con w a₁ x y tx ty k h.hx h.hy h.h1
theorem real_g {w : World} {a₁ : Addr} {x y : Int} {tx ty : Tok} {k : Nat} (h : GoodXY x y) : Con w 191 [.ref a₁] [(a₁, tupO x y tx ty k)] (fun v sub' => (∀ p ∈ [(a₁, tupO x y tx ty k)], p ∈ sub') ∧ ∃ t', v = .str (T (realL x y)) t') 6 128 := real_con w a₁ x y tx ty k h.hx h.hy h.h1
theorem writtenP_g {w : World} {a₁ : Addr} {x y : Int} {tx ty t u : Tok} {k z : Nat} (h : GoodXY x y) (hz1 : 80 ≤ z) (hz2 : z ≤ 100) : Con w 865 [.str (T (ratioL x y)) t, .ref a₁, .bool false, .int (z : Int) u] [(a₁, tupO x y tx ty k)] (fun v sub' => (∀ p ∈ [(a₁, tupO x y tx ty k)], p ∈ sub') ∧ v = .bool true) 12 256 :=
  written_con w a₁ x y tx ty k h.hx h.h1 h.hy false z hz1 hz2 t u
theorem writtenR_g {w : World} {a₁ : Addr} {x y : Int} {tx ty t u : Tok} {k z : Nat} (h : GoodXY x y) (hz1 : 80 ≤ z) (hz2 : z ≤ 100) : Con w 865 [.str (T (realL x y)) t, .ref a₁, .bool true, .int (z : Int) u] [(a₁, tupO x y tx ty k)] (fun v sub' => (∀ p ∈ [(a₁, tupO x y tx ty k)], p ∈ sub') ∧ v = .bool true) 12 256 :=
  written_con w a₁ x y tx ty k h.hx h.h1 h.hy true z hz1 hz2 t u
theorem value2_g {w : World} {b a₁ : Addr} {x y : Int} {tx ty u : Tok} {k : Nat} (h : GoodXY x y) : Con w 800 [.ref b, .ref a₁, .int 2 u] [(a₁, tupO x y tx ty k)] (fun v sub' => (∀ p ∈ [(a₁, tupO x y tx ty k)], p ∈ sub') ∧ ∃ t', v = .str (T (realL x y)) t') 10 256 := value2_con w b a₁ x y tx ty k h.hx h.hy h.h1 u
theorem value1_g {w : World} {b a₁ : Addr} {x y : Int} {tx ty u : Tok} {k : Nat} (h : GoodXY x y) : Con w 800 [.ref b, .ref a₁, .int 1 u] [(a₁, tupO x y tx ty k)] (fun v sub' => (∀ p ∈ [(a₁, tupO x y tx ty k)], p ∈ sub') ∧ ∃ t', v = .str (T (ratioL x y)) t') 10 256 := value1_con w b a₁ x y tx ty k h.hx h.hy h.h1 u
section
variable {w : World} {f q : Addr} {self : Value} {vs : List Value} {sub news : Led} {Post : Value → Led → Prop} {d u : Nat} {p : Program} {loose : List Str} {mean : ExcName → Option Value} {mg mb : Str → Option Value} {dp un : Nat} {gd : Option (List Code)} {cn : Str} {cs : Scope} {L a : Addr} {ccd : Value} {cl : List (Str × Addr)} {outer : List Env} {A₀ : Around} {base h₀ : Heap} {m : Str → Option Value} {s : Shared} {Q E : Value → Shared → Prop}
  {b db lo la ls ld dn a₁ : Addr} {es : List DictEntry} {nn : Nat} {os gs ss ds : List Value} {k1 k2 k3 k4 : Nat} {odn : Obj} {tl pre : Led} {rows : List BKey} {xs : List (BKey × Addr × Value)} {x y : Int} {tx ty t2 : Tok} {k : Nat} {key : BKey}
theorem num_lap {tup : Obj} (c : Con w 532 vs (bankL b db lo la ls ld dn es nn os gs ss ds k1 k2 k3 k4 odn ((a₁, tup) :: tl)) (MakeP w b db lo la ls ld dn es nn (bankL b db lo la ls ld dn es nn os gs ss ds k1 k2 k3 k4 odn ((a₁, tup) :: tl)) ((a₁, tup) :: tl) rows key) 12 256)
    (B : Below A₀ base outer h₀) (F : Fr h₀ L s.heap m) (X : (Mine.hd.heap_1 w.params).In h₀) (N : News h₀ L s.heap (pre ++ bankL b db lo la ls ld dn es nn os gs ss ds k1 k2 k3 k4 odn tl)) (hm : (a₁, tup) ∈ pre) (T : Top p loose mean mg mb h₀) (hk : cs.kind = .function) (hd : dp + 12 < recursionLimit) (hu : un + 256 < cLine)
    (hpre : ∀ q ∈ pre, q ≠ (a₁, tup) → q.1 ∉ (bankL b db lo la ls ld dn es nn os gs ss ds k1 k2 k3 k4 odn ((a₁, tup) :: tl)).map (·.1))
    (r : ∀ (i : Nat) t os' gs' ss' ds' k1' k2' k3' k4' odn' tl' rows' xs' h' tk', 1 ≤ i → rows'[i]? = some key → BTab w tl' os' gs' ss' ds' odn' rows' xs' → rows'.length ≤ rows.length + 1 → (∀ p ∈ tl', p ∈ (a₁, tup) :: tl ∨ ∀ q ∈ pre ++ bankL b db lo la ls ld dn es nn os gs ss ds k1 k2 k3 k4 odn tl, p.1 ≠ q.1) →
      Fr h₀ L h' m → News h₀ L h' (pre ++ bankL b db lo la ls ld dn es nn os' gs' ss' ds' k1' k2' k3' k4' odn' tl') → Q (.int (i : Int) t) { s with heap := h', toks := tk' }) :
    wpAny (model PySem.Challenge.rw_sj0100_01.row.prog w) (ktrTop dp un gd cn cs L a ccd cl outer) (call (.ref 532) vs) Q E s := by
  have hsub : ∀ q ∈ bankL b db lo la ls ld dn es nn os gs ss ds k1 k2 k3 k4 odn ((a₁, tup) :: tl), q ∈ pre ++ bankL b db lo la ls ld dn es nn os gs ss ds k1 k2 k3 k4 odn tl := fun q hq => by
    rcases List.mem_cons.mp (mem_rot7 hq) with rfl | h
    · exact List.mem_append_left _ hm
    · exact List.mem_append_right _ h
  refine con_led c B F X N hsub T hk hd hu fun v sub' h' tk' F' P' hN hfr => ?_
  obtain ⟨i, t, os', gs', ss', ds', k1', k2', k3', k4', odn', nw, rows', xs', rfl, hi1, hi2, hT, hrl, rfl, hnw⟩ := P'
  refine r i t os' gs' ss' ds' k1' k2' k3' k4' odn' _ rows' xs' h' tk' hi1 hi2 hT hrl (fun q hq => ?_) F' (hN _ fun q hq => ?_)
  · rcases List.mem_append.mp hq with hq | hq
    · refine .inr fun p hp e => ?_
      have h2 : q ∈ bankL b db lo la ls ld dn es nn os' gs' ss' ds' k1' k2' k3' k4' odn' (nw ++ ((a₁, tup) :: tl)) := .tail _ (.tail _ (.tail _ (.tail _ (.tail _ (.tail _ (.tail _ (List.mem_append_left _ hq)))))))
      exact hfr q h2 (hnw q hq) p hp e.symm
    · exact .inl hq
  · rcases List.mem_append.mp hq with hq | hq
    · by_cases e : q = (a₁, tup)
      · refine .inl ?_
        subst e
        exact .tail _ (.tail _ (.tail _ (.tail _ (.tail _ (.tail _ (.tail _ (List.mem_append_right _ (.head _))))))))
      · exact .inr ⟨List.mem_append_left _ hq, hpre q hq e⟩
    · exact .inl hq
theorem notin_bank {c : Addr} {tup : Obj} (h1 : c ≠ b) (h2 : c ≠ db) (h3 : c ≠ lo) (h4 : c ≠ la) (h5 : c ≠ ls) (h6 : c ≠ ld) (h7 : c ≠ dn) (h8 : c ≠ a₁) (ht : ∀ p ∈ tl, p.1 ≠ c) : c ∉ (bankL b db lo la ls ld dn es nn os gs ss ds k1 k2 k3 k4 odn ((a₁, tup) :: tl)).map (·.1) := fun h => by
  obtain ⟨p, hp, e⟩ := List.mem_map.mp h
  subst e
  simp only [bankL, List.mem_cons] at hp
  rcases hp with rfl | rfl | rfl | rfl | rfl | rfl | rfl | rfl | hp
  · exact h1 rfl
  · exact h2 rfl
  · exact h3 rfl
  · exact h4 rfl
  · exact h5 rfl
  · exact h6 rfl
  · exact h7 rfl
  · exact h8 rfl
  · exact ht p hp rfl
theorem off_new {z : Addr} {tup : Obj} {tl' : Led} (h : ∀ p ∈ tl', p ∈ (a₁, tup) :: tl ∨ ∀ q ∈ news, p.1 ≠ q.1) (o : Obj) (hx : (z, o) ∈ news) (ha : a₁ ≠ z) (ht : ∀ p ∈ tl, p.1 ≠ z) : ∀ p ∈ tl', p.1 ≠ z := fun p hp => by
  rcases h p hp with h | h
  · rcases List.mem_cons.mp h with rfl | h
    · exact ha
    · exact ht p h
  · exact h _ hx
theorem term_lap {i : Nat} {t : Tok} {r : Bool} (hg : GoodXY x y) (he : BEs lo la ls ld dn es) (hno : NoM es) (hT : BTab w tl os gs ss ds odn rows xs) (hrl : rows.length ≤ 900) (hi : rows[i]? = some ⟨Str.ofString "num", sortOf r, .two x y⟩)
    (B : Below A₀ base outer h₀) (F : Fr h₀ L s.heap m) (X : (Mine.hd.heap_1 w.params).In h₀) (N : News h₀ L s.heap (pre ++ bankL b db lo la ls ld dn es nn os gs ss ds k1 k2 k3 k4 odn tl)) (T : Top p loose mean mg mb h₀) (hk : cs.kind = .function) (hd : dp + 30 < recursionLimit) (hu : un + 1024 < cLine)
    (q : ∀ t' h' tk', Fr h₀ L h' m → News h₀ L h' (pre ++ bankL b db lo la ls ld dn es nn os gs ss ds k1 k2 k3 k4 odn tl) → Q (.str (Mine.T (textL r x y)) t') { s with heap := h', toks := tk' }) :
    wpAny (model PySem.Challenge.rw_sj0100_01.row.prog w) (ktrTop dp un gd cn cs L a ccd cl outer) (call (.ref 786) [.ref b, .int (i : Int) t]) Q E s := by
  obtain ⟨⟨t0, ho⟩, ⟨e, hge, n9, he9⟩, ⟨u9, hs9⟩, v9, hd9, a9, tx9, ty9, rfl, k9, hk9⟩ := hT.rows_.at_ i _ hi
  have hlt : i < rows.length := (List.getElem?_eq_some_iff.mp hi).1
  refine con_read (term_con w b db lo la ls ld e a9 es nn os gs ss ds k1 k2 k3 k4 n9 x y tx9 ty9 k9 i t t0 u9 r he.e1 he.e2 he.e3 he.e4 hno.m4 hno.m5 hno.m6 hno.m7 hno.m8 hno.m9 (by omega) ho hge hs9 hd9 hg.hx hg.hy hg.h1) (fun _ _ h => h.1) B F X N (fun p hp => ?_) T hk hd hu fun v sub' h' tk' F' N' P' => ?_
  · revert p
    exact List.forall_mem_cons.mpr ⟨List.mem_append_right _ (.head _), List.forall_mem_cons.mpr ⟨List.mem_append_right _ (.tail _ (.head _)), List.forall_mem_cons.mpr ⟨List.mem_append_right _ (.tail _ (.tail _ (.head _))), List.forall_mem_cons.mpr ⟨List.mem_append_right _ (.tail _ (.tail _ (.tail _ (.head _)))), List.forall_mem_cons.mpr ⟨List.mem_append_right _ (.tail _ (.tail _ (.tail _ (.tail _ (.head _))))), List.forall_mem_cons.mpr ⟨List.mem_append_right _ (.tail _ (.tail _ (.tail _ (.tail _ (.tail _ (.head _)))))), List.forall_mem_cons.mpr ⟨List.mem_append_right _ (.tail _ (.tail _ (.tail _ (.tail _ (.tail _ (.tail _ (.tail _ (he9)))))))), List.forall_mem_cons.mpr ⟨List.mem_append_right _ (.tail _ (.tail _ (.tail _ (.tail _ (.tail _ (.tail _ (.tail _ (hk9)))))))), List.forall_mem_nil _⟩⟩⟩⟩⟩⟩⟩⟩
  · obtain ⟨_, t', rfl⟩ := P'
    exact q t' h' tk' F' N'
end
theorem newsNil {g h : Heap} {L : Addr} {l : Led} (_ : News g L h l) : News g L h [] := fun _ hp => nomatch hp
theorem lap_end {w : World} {h₀ h' : Heap} {L jj cc bb dd lo la ls ld dn I : Addr} {oI o8 : Obj} {x : PySem.Str} {stored : List PySem.Str} {m₀ m' : PySem.Str → Option Value} {es : List DictEntry} {nn kc i tk' : Nat} {vs os gs ss ds : List Value} {k1 k2 k3 k4 : Nat} {odn : Obj} {pre tl : Led} {rows : List BKey} {xs : List (BKey × Addr × Value)} {n : Int} {tn : Tok} {s : Shared}
    (F : Fr h₀ L h' m') (N : News h₀ L h' (pre ++ (I, oI) :: (jj, o8) :: (cc, listOf vs.toArray kc) :: bankL bb dd lo la ls ld dn es nn os gs ss ds k1 k2 k3 k4 odn tl)) (hr : ∀ z, z ≠ x → stored.contains z = false → m' z = m₀ z) (hj : JugO w o8 cc n tn) (h0 : 0 ≤ n) (h1 : n ≤ 200 + 100 * (i : Int)) (hT : BTab w tl os gs ss ds odn rows xs) (hrl : rows.length ≤ 5 + 2 * i)
    (hoff : ∀ x ∈ [jj, cc, bb, dd, lo, la, ls, ld, dn], ∀ p ∈ tl, p.1 ≠ x) (hI : ∀ p ∈ tl, p.1 ≠ I) (hI2 : ∀ x ∈ [jj, cc, bb, dd, lo, la, ls, ld, dn], x ≠ I) :
    LapEnd h₀ L x stored m₀ (LapJ w jj cc bb dd lo la ls ld dn es nn vs kc (i + 1)) I oI s .next { s with heap := h', toks := tk' } := by
  refine ⟨rfl, h', tk', m', (jj, o8) :: (cc, listOf vs.toArray kc) :: bankL bb dd lo la ls ld dn es nn os gs ss ds k1 k2 k3 k4 odn tl, rfl, F, fun p hp => N p (List.mem_append_right _ hp), fun q hq => ?_, hr, o8, n, tn, os, gs, ss, ds, k1, k2, k3, k4, odn, tl, rows, xs, rfl, hj, h0, by omega, hT, by omega, hoff⟩
  simp only [bankL, List.mem_cons] at hq
  rcases hq with rfl | rfl | rfl | rfl | rfl | rfl | rfl | rfl | rfl | hq
  · exact hI2 _ (.head _)
  · exact hI2 _ (.tail _ (.head _))
  · exact hI2 _ (.tail _ (.tail _ (.head _)))
  · exact hI2 _ (.tail _ (.tail _ (.tail _ (.head _))))
  · exact hI2 _ (.tail _ (.tail _ (.tail _ (.tail _ (.head _)))))
  · exact hI2 _ (.tail _ (.tail _ (.tail _ (.tail _ (.tail _ (.head _))))))
  · exact hI2 _ (.tail _ (.tail _ (.tail _ (.tail _ (.tail _ (.tail _ (.head _)))))))
  · exact hI2 _ (.tail _ (.tail _ (.tail _ (.tail _ (.tail _ (.tail _ (.tail _ (.head _))))))))
  · exact hI2 _ (.tail _ (.tail _ (.tail _ (.tail _ (.tail _ (.tail _ (.tail _ (.tail _ (.head _)))))))))
  · exact hI q hq
end Mine
end
section
open PySem PySem.W PyProof.Rows PySem.Spec PySem.Calls PySem.NumText
set_option autoImplicit false
namespace Mine
local macro_rules | `(tactic| k_qdec) => `(tactic| decide +kernel)
local macro_rules | `(tactic| o_head $c) => `(tactic| (refine' con_two ($c) ?k1 ?k2 ?k3 ?k4 ?kU ?kE ?k5 ?kK ?kd ?ku ?_; (case k1 => k_asm); (case k2 => k_asm); (case k3 => k_asm); (case k4 => k_asm); (case kU => k_updF); (case kE => k_mem); (case k5 => k_asm); (case kK => first | exact rfl | assumption); (case kd => ktr_room); (case ku => ktr_units)))
local macro_rules | `(tactic| walk_at "execs cons") => `(tactic| first | (k_here; k_gentoks) | ((with_reducible refine PySem.wpAny_execs_cons ?_); (try dsimp only)))
local macro_rules | `(tactic| walk_at "call ref") => `(tactic| (k_dflt (o_head (next_con _ _ _ _ _ _ _ _ _ _ _ (by assumption) (by assumption) (by assumption) (by assumption) (by assumption) (by omega) (by omega) (by decide) (by decide))); intro v9 o9 h9 tk9 p9 F9 N9; obtain ⟨r9, t9, tn9, e9, hr0, hr1, hj9⟩ := p9; subst e9; dsimp only [JugO, JP] at hj9; (try dsimp only at N9); (try dsimp only); (try k_fold)))
local macro_rules | `(tactic| walk_at "call ref") => `(tactic| (k_dflt (o_head (top_con _ _ _ _ _ _ _ _ _ (by assumption) (by assumption) (by assumption) (by assumption) (by assumption) (by omega) (by omega))); intro v9 o9 h9 tk9 p9 F9 N9; obtain ⟨r9, n9, t9, tn9, e9, hr9, hn1, hn2, hj9⟩ := p9; subst e9; dsimp only [JugO, JP] at hj9; (try dsimp only at N9); (try dsimp only); (try k_fold)))
local macro_rules | `(tactic| walk_at "call ref") => `(tactic| (k_dflt (o_head (bottom_con _ _ _ _ _ _ _ _ _ _ _ (by assumption) (by assumption) (by assumption) (by assumption) (by assumption) (by omega) (by omega))); intro v9 o9 h9 tk9 p9 F9 N9; obtain ⟨r9, n9, t9, tn9, e9, hr9, hr8, hn1, hn2, hj9⟩ := p9; subst e9; dsimp only [JugO, JP] at hj9; (try dsimp only at N9); (try dsimp only); (try k_fold)))
local macro_rules | `(tactic| walk_at "compareOp NotEq str str") => `(tactic| (k_dflt (refine ne_same rfl ?_)))
local macro_rules | `(tactic| walk_at "call ref") => `(tactic| k_extra "stop num")
local macro_rules | `(tactic| walk_at "call ref") => `(tactic| k_extra "stop init")
local macro_rules | `(tactic| walk_at "pyIter ref") => `(tactic| k_extra "stop loop")
local macro_rules | `(tactic| walk_at "setAttr ref") => `(tactic| ((k_dflt (refine' set_bank ?k1 ?k2 ?k3 ?k4 ?k5 ?k6 ?k7 ?k8 ?k9 ?k10 ?kz ?k12 ?_; (case k1 => k_asm); (case k2 => k_asm); (case k3 => k_asm); (case k4 => k_inst); (case k10 => with_reducible assumption); (case kz => omega); (case k5 => exact rfl); (case k6 => k_is); (case k7 => k_is); (case k8 => k_is); (case k9 => k_is); (case k12 => (intro e9 n9; k_upd)))); intro h9 e9 n9 tk9 F9 N9 hg9 hl9; (try dsimp only at N9); (try dsimp only)))
local macro_rules | `(tactic| k_get) => `(tactic| first | with_reducible assumption | exact (getL_to (by assumption) (by decide +kernel)).trans (by with_reducible assumption))
local macro_rules | `(tactic| k_all) => `(tactic| first | exact List.forall_mem_nil _ | with_reducible assumption | (refine' List.forall_mem_cons.mpr ⟨?a, ?b⟩; (case a => k_ne); (case b => k_all)))
def walkOf {P S Q R : Prop} (_ : P ∧ S ∧ Q → R) : Prop := Q
set_option maxRecDepth 100000 in
set_option maxHeartbeats 2000000 in
theorem law_walk : walkOf Mine.hd := by
  unfold walkOf
  k_with_none
  k_with "call ref" => ((with_reducible show wpAny _ _ (call (Value.ref 184) _) _ _ _); k_dflt ((refine' con_read (ratio_g (by assumption)) ?kP ?k1 ?k2 ?k3 ?k4 ?kS ?k5 ?kK ?kd ?ku ?_; (case kP => exact fun _ _ h => h.1); (case k1 => k_asm); (case k2 => k_asm); (case k3 => k_asm); (case k4 => k_asm); (case kS => lcg_sub); (case k5 => k_asm); (case kK => first | exact rfl | assumption); (case kd => ktr_room); (case ku => ktr_units))); rintro _ _ _ _ _ _ ⟨_, _, rfl⟩; (try dsimp only); (try k_fold))
  k_with "call ref" => ((with_reducible show wpAny _ _ (call (Value.ref 191) _) _ _ _); k_dflt ((refine' con_read (real_g (by assumption)) ?kP ?k1 ?k2 ?k3 ?k4 ?kS ?k5 ?kK ?kd ?ku ?_; (case kP => exact fun _ _ h => h.1); (case k1 => k_asm); (case k2 => k_asm); (case k3 => k_asm); (case k4 => k_asm); (case kS => lcg_sub); (case k5 => k_asm); (case kK => first | exact rfl | assumption); (case kd => ktr_room); (case ku => ktr_units))); rintro _ _ _ _ _ _ ⟨_, _, rfl⟩; (try dsimp only); (try k_fold))
  k_with "call ref" => ((with_reducible show wpAny _ _ (call (Value.ref 800) _) _ _ _); k_dflt ((refine' con_read (value2_g (by assumption)) ?kP ?k1 ?k2 ?k3 ?k4 ?kS ?k5 ?kK ?kd ?ku ?_; (case kP => exact fun _ _ h => h.1); (case k1 => k_asm); (case k2 => k_asm); (case k3 => k_asm); (case k4 => k_asm); (case kS => lcg_sub); (case k5 => k_asm); (case kK => first | exact rfl | assumption); (case kd => ktr_room); (case ku => ktr_units))); rintro _ _ _ _ _ _ ⟨_, _, rfl⟩; (try dsimp only); (try k_fold))
  k_with "call ref" => ((with_reducible show wpAny _ _ (call (Value.ref 800) _) _ _ _); k_dflt ((refine' con_read (value1_g (by assumption)) ?kP ?k1 ?k2 ?k3 ?k4 ?kS ?k5 ?kK ?kd ?ku ?_; (case kP => exact fun _ _ h => h.1); (case k1 => k_asm); (case k2 => k_asm); (case k3 => k_asm); (case k4 => k_asm); (case kS => lcg_sub); (case k5 => k_asm); (case kK => first | exact rfl | assumption); (case kd => ktr_room); (case ku => ktr_units))); rintro _ _ _ _ _ _ ⟨_, _, rfl⟩; (try dsimp only); (try k_fold))
  k_with "call ref" => ((with_reducible show wpAny _ _ (call (Value.ref 865) _) _ _ _); k_dflt ((refine' con_read (writtenP_g (by assumption) (by assumption) (by assumption)) ?kP ?k1 ?k2 ?k3 ?k4 ?kS ?k5 ?kK ?kd ?ku ?_; (case kP => exact fun _ _ h => h.1); (case k1 => k_asm); (case k2 => k_asm); (case k3 => k_asm); (case k4 => k_asm); (case kS => lcg_sub); (case k5 => k_asm); (case kK => first | exact rfl | assumption); (case kd => ktr_room); (case ku => ktr_units))); rintro _ _ _ _ _ _ ⟨_, rfl⟩; (try dsimp only); (try k_fold))
  k_with "call ref" => ((with_reducible show wpAny _ _ (call (Value.ref 865) _) _ _ _); k_dflt ((refine' con_read (writtenR_g (by assumption) (by assumption) (by assumption)) ?kP ?k1 ?k2 ?k3 ?k4 ?kS ?k5 ?kK ?kd ?ku ?_; (case kP => exact fun _ _ h => h.1); (case k1 => k_asm); (case k2 => k_asm); (case k3 => k_asm); (case k4 => k_asm); (case kS => lcg_sub); (case k5 => k_asm); (case kK => first | exact rfl | assumption); (case kd => ktr_room); (case ku => ktr_units))); rintro _ _ _ _ _ _ ⟨_, rfl⟩; (try dsimp only); (try k_fold))
  k_with "stop init" => (with_reducible show wpAny _ _ (call (Value.ref _) []) _ _ _); (fail_if_success (with_reducible show wpAny _ _ (call (Value.ref 724) _) _ _ _)); refine stop_here ?_
  k_with "stop loop" => refine stop_here ?_
  k_with "eval IfExp" => refine stop_here ?_
  w_on
  w_strict (k_go0; (all_goals try k_fold); k_steps)
  refine ⟨?_⟩
  rename_i jj hA1 o0 loj hdj l16 scl ws hA2 hI hC hLn l15 cc kc hA3 l14 hA4 oj hj hA5 F4 N4 bb dd hA6 F3 N3 l13 l2 gg LL hA7 FG F2 N2 BB XX TT l12 lf2 lf1 lf0 so hA8 F1 N1 l11 qq hA9 FF NN l1
  refine' con_ledM (init_con _ bb dd l2) (List.Mem.head _) ?B FF ?X NN ?hs ?T rfl ?d ?u ?r
  case B => k_asm
  case X => k_asm
  case T => k_asm
  case d => ktr_room
  case u => exact Nat.le_of_ble_eq_true rfl
  case hs => lcg_sub
  case r =>
    intro v sub' h' tk' F' P' hN hfr
    obtain ⟨rfl, lo, la, ls, ld, dn, es, nn, os, gs, ss, ds, k1, k2, k3, k4, odn, tl, rows, xs, rfl, hT, hrl, he, hno, ⟨hbv, hel⟩, hord, htl, hdn⟩ := P'
    obtain ⟨a1, a2, a3, a4, a5, a6⟩ := hord
    have c1 : @LT.lt Nat _ jj cc := by omega
    have c2 : @LT.lt Nat _ cc dd := by omega
    obtain ⟨_, oc3, oc4, oc5, oc6, oc7, oc8, oc9⟩ := chain9 c1 c2 a1 a2 a3 a4 a5 a6
    have htl' := htl
    simp only [ListB, List.mem_cons, List.not_mem_nil, or_false, forall_eq_or_imp, forall_eq] at htl'
    obtain ⟨w1, w2, w3, w4, w5, w6, w7⟩ := htl'
    have hmem : ∀ p ∈ tl, p ∈ bankL bb dd lo la ls ld dn es nn os gs ss ds k1 k2 k3 k4 odn tl := fun p hp => .tail _ (.tail _ (.tail _ (.tail _ (.tail _ (.tail _ (.tail _ hp))))))
    have hb2 : ∀ p ∈ tl, ∀ q ∈ [(bb, instObj 724 dd), (dd, dictOf [] 0)], q.1 ≠ p.1 := fun p hp q hq => by
      simp only [List.mem_cons, List.not_mem_nil, or_false] at hq
      rcases hq with rfl | rfl
      · exact (w1 p hp).symm
      · exact (w2 p hp).symm
    have wj : ∀ p ∈ tl, p.1 ≠ jj := fun p hp => (hfr p (hmem p hp) (hb2 p hp) (jj, oj) (by k_mem)).symm
    have wc : ∀ p ∈ tl, p.1 ≠ cc := fun p hp => (hfr p (hmem p hp) (hb2 p hp) (cc, listOf ws.toArray kc) (by k_mem)).symm
    have N9 := hN ((jj, oj) :: (cc, listOf ws.toArray kc) :: bankL bb dd lo la ls ld dn es nn os gs ss ds k1 k2 k3 k4 odn tl) (fun p hp => by
      rcases List.mem_cons.mp hp with rfl | hp
      · refine .inr ⟨by k_mem, ?_⟩
        simp only [List.map_cons, List.map_nil, List.mem_cons, List.not_mem_nil, or_false]
        exact not_or.mpr ⟨Nat.ne_of_lt (by omega), Nat.ne_of_lt (by omega)⟩
      rcases List.mem_cons.mp hp with rfl | hp
      · refine .inr ⟨by k_mem, ?_⟩
        simp only [List.map_cons, List.map_nil, List.mem_cons, List.not_mem_nil, or_false]
        exact not_or.mpr ⟨Nat.ne_of_lt (by omega), Nat.ne_of_lt (by omega)⟩
      · exact .inl hp)
    have cj : cc ≠ jj := (Nat.ne_of_lt c1).symm
    have hns : (List.take 40 _).length ≤ 63 := Nat.le_trans (Nat.le_of_eq hC) (Nat.le_trans (Nat.min_le_left _ _) (by decide))
    clear hN hfr hmem hb2 NN FF l1 l11 N1 F1 hdj
    (try dsimp only)
    (try k_unfold)
    (try dsimp only)
    (try k_fold)
    w_strict k_steps
    refine ⟨?_⟩
    rename_i dv hB1 ob FB1 NB1 lob hsb fsb hib fib q1 hB2 es2 n2 tkA FB2 NB2 hg hl2 Gc kX oj2 hB3 tkB r9 t9 tn9 hr0 hr1 hj2 DD hB4 q2 hB5 hB6 hB7 FB3 NB3 hB8 tkD tA uA vA aR aF aN aK
    obtain ⟨z, hz⟩ : ∃ z : Nat, 80 + r9 = (z : Int) := ⟨(80 + r9).toNat, by omega⟩
    rw [hz] at aF
    have hz1 : 80 ≤ z := by omega
    have hz2 : z ≤ 100 := by omega
    have he2 := he.to hg (by decide +kernel)
    have hno2 := hno.to hg (by decide +kernel)
    have hoff : ∀ x ∈ [jj, cc, bb, dd, lo, la, ls, ld, dn], ∀ p ∈ tl, p.1 ≠ x := to9 ⟨wj, wc, w1, w2, w3, w4, w5, w6, w7⟩
    have hj0 : LapJ _ jj cc bb dd lo la ls ld dn es2 n2 ws kc 0 ((jj, oj2) :: (cc, listOf ws.toArray kc) :: bankL bb dd lo la ls ld dn es2 n2 os gs ss ds k1 k2 k3 k4 odn tl) :=
      ⟨oj2, 0 + 1, tn9, os, gs, ss, ds, k1, k2, k3, k4, odn, tl, rows, xs, rfl, hj2, by decide, by decide, hT, by omega, hoff⟩
    clear hoff wj wc w1 w2 w3 w4 w5 w6 w7 htl hT hrl hbv hel q1 q2 NB1 FB1 NB2 FB2 FB3 NB3 lob hsb fsb hib fib hr0 hr1 hz hg hl2 he hno hj2
    refine lap_loop (x := Str.ofString "lap") [Str.ofString "top", Str.ofString "bottom", Str.ofString "value", Str.ofString "plain", Str.ofString "real"] (LapJ _ jj cc bb dd lo la ls ld dn es2 n2 ws kc) rfl aR aF (fun p hp => aN p (.tail _ (.tail _ hp))) hj0 ?_ ?_
    · intro i nx t u h tk I oI hi hJ hIlt hIne F7 N7
      obtain ⟨o, n, tn, os, gs, ss, ds, k1, k2, k3, k4, odn, tl, rows, xs, rfl, hj, hn0, hn1, hT, hrl, hoff⟩ := hJ
      have i1 : @LT.lt Nat _ dn I := hIlt (dn, _) (.tail _ (.tail _ (.tail _ (.tail _ (.tail _ (.tail _ (.tail _ (.tail _ (.head _)))))))))
      have i2 := below9 oc9 i1
      have iT : ∀ p ∈ tl, p.1 ≠ I := fun p hp => hIne p (.tail _ (.tail _ (.tail _ (.tail _ (.tail _ (.tail _ (.tail _ (.tail _ (.tail _ hp)))))))))
      obtain ⟨wj, wc, w1, w2, w3, w4, w5, w6, w7⟩ := off9 hoff
      clear hj0 hIlt hIne aF aN aR aK
      have hi' : (i : Int) ≤ 1 := by omega
      (try k_fold)
      w_strict k_steps
      refine ⟨?_⟩
      rename_i o91 h91 tk91 r1 nA tA tnA hrA hnA1 hnA2 hjA qk1 ek1 hX tkX oB hB tkB r2 nB tB tnB hrB hrB2 hnB1 hnB2 hjB hC FC NC
      k_with_none
      k_with "call ref" => ((with_reducible show wpAny _ _ (call (Value.ref 184) _) _ _ _); k_dflt ((refine' con_read (ratio_g (by assumption)) ?kP ?k1 ?k2 ?k3 ?k4 ?kS ?k5 ?kK ?kd ?ku ?_; (case kP => exact fun _ _ h => h.1); (case k1 => k_asm); (case k2 => k_asm); (case k3 => k_asm); (case k4 => k_asm); (case kS => lcg_sub); (case k5 => k_asm); (case kK => first | exact rfl | assumption); (case kd => ktr_room); (case ku => ktr_units))); rintro _ _ _ _ _ _ ⟨_, _, rfl⟩; (try dsimp only); (try k_fold))
      k_with "call ref" => ((with_reducible show wpAny _ _ (call (Value.ref 191) _) _ _ _); k_dflt ((refine' con_read (real_g (by assumption)) ?kP ?k1 ?k2 ?k3 ?k4 ?kS ?k5 ?kK ?kd ?ku ?_; (case kP => exact fun _ _ h => h.1); (case k1 => k_asm); (case k2 => k_asm); (case k3 => k_asm); (case k4 => k_asm); (case kS => lcg_sub); (case k5 => k_asm); (case kK => first | exact rfl | assumption); (case kd => ktr_room); (case ku => ktr_units))); rintro _ _ _ _ _ _ ⟨_, _, rfl⟩; (try dsimp only); (try k_fold))
      k_with "call ref" => ((with_reducible show wpAny _ _ (call (Value.ref 800) _) _ _ _); k_dflt ((refine' con_read (value2_g (by assumption)) ?kP ?k1 ?k2 ?k3 ?k4 ?kS ?k5 ?kK ?kd ?ku ?_; (case kP => exact fun _ _ h => h.1); (case k1 => k_asm); (case k2 => k_asm); (case k3 => k_asm); (case k4 => k_asm); (case kS => lcg_sub); (case k5 => k_asm); (case kK => first | exact rfl | assumption); (case kd => ktr_room); (case ku => ktr_units))); rintro _ _ _ _ _ _ ⟨_, _, rfl⟩; (try dsimp only); (try k_fold))
      k_with "call ref" => ((with_reducible show wpAny _ _ (call (Value.ref 800) _) _ _ _); k_dflt ((refine' con_read (value1_g (by assumption)) ?kP ?k1 ?k2 ?k3 ?k4 ?kS ?k5 ?kK ?kd ?ku ?_; (case kP => exact fun _ _ h => h.1); (case k1 => k_asm); (case k2 => k_asm); (case k3 => k_asm); (case k4 => k_asm); (case kS => lcg_sub); (case k5 => k_asm); (case kK => first | exact rfl | assumption); (case kd => ktr_room); (case ku => ktr_units))); rintro _ _ _ _ _ _ ⟨_, _, rfl⟩; (try dsimp only); (try k_fold))
      k_with "call ref" => ((with_reducible show wpAny _ _ (call (Value.ref 865) _) _ _ _); k_dflt ((refine' con_read (writtenP_g (by assumption) (by assumption) (by assumption)) ?kP ?k1 ?k2 ?k3 ?k4 ?kS ?k5 ?kK ?kd ?ku ?_; (case kP => exact fun _ _ h => h.1); (case k1 => k_asm); (case k2 => k_asm); (case k3 => k_asm); (case k4 => k_asm); (case kS => lcg_sub); (case k5 => k_asm); (case kK => first | exact rfl | assumption); (case kd => ktr_room); (case ku => ktr_units))); rintro _ _ _ _ _ _ ⟨_, rfl⟩; (try dsimp only); (try k_fold))
      k_with "call ref" => ((with_reducible show wpAny _ _ (call (Value.ref 865) _) _ _ _); k_dflt ((refine' con_read (writtenR_g (by assumption) (by assumption) (by assumption)) ?kP ?k1 ?k2 ?k3 ?k4 ?kS ?k5 ?kK ?kd ?ku ?_; (case kP => exact fun _ _ h => h.1); (case k1 => k_asm); (case k2 => k_asm); (case k3 => k_asm); (case k4 => k_asm); (case kS => lcg_sub); (case k5 => k_asm); (case kK => first | exact rfl | assumption); (case kd => ktr_room); (case ku => ktr_units))); rintro _ _ _ _ _ _ ⟨_, rfl⟩; (try dsimp only); (try k_fold))
      refine join_x (a := jj) (c := cc) (n := nB) (fun o => (I, oI) :: (jj, o) :: (cc, listOf ws.toArray kc) :: bankL bb dd lo la ls ld dn es2 n2 os gs ss ds k1 k2 k3 k4 odn tl) (fun x => x.natAbs = r1) FC ?_ ?_
      · w_strict k_steps
        all_goals exact xmid (by assumption) (by assumption) (by assumption) (by omega) (by omega) (by omega)
      · intro x t8 h8 tk8 o8 n8 tn8 hx F8 N8 hj8 hn8 hn9
        have hg := good_xy hx hrA hrB hrB2
        obtain ⟨y, hy⟩ : ∃ y : Int, ((r2 : Nat) : Int) = y := ⟨_, rfl⟩
        rw [hy] at F8 hg
        have hm3 := hno2.m3
        clear hjA hjB hj FC NC
        k_with "stop num" => (first | (with_reducible show wpAny _ _ (call (Value.ref 532) _) _ _ _) | (with_reducible show wpAny _ _ (call (Value.ref 786) _) _ _ _)); refine stop_here ?_
        (try dsimp only)
        (try k_unfold)
        (try dsimp only)
        (try k_fold)
        w_strict k_steps
        refine ⟨?_⟩
        rename_i A1 e1 lA e2 e3 sb4 e4 e5 lf4 tP qk4 ek4 sb3 e6 e7 lf3 tR qk3 ek3 A2 e8 lB e9 e10 e11 FD ND sb2 e12 e13 FE NE lf2 qk2 ek2 sb1 e14 e15 FG2 NG lf1 qk5 ek5 sb0 e16 e17 FH NH lf0 tV
        clear FD ND FE NE FG2 NG lf0 lf1 lf2 lf3 lf4
        obtain ⟨lA1, lA2, lA3, lA4, lA5, lA6, lA7, lA8, lA9, lA10, lAt⟩ := lA
        obtain ⟨lB1, lB2, lB3, lB4, lB5, lB6, lB7, lB8, lB9, lB10, lB11, lBt⟩ := lB
        refine' num_lap (pre := (A2, _) :: (A1, tupO x y t8 tB 0) :: (I, oI) :: (jj, o8) :: (cc, listOf ws.toArray kc) :: []) (num_con _ bb dd lo la ls ld dn A1 es2 n2 os gs ss ds k1 k2 k3 k4 odn tl rows xs x y t8 tB 0 _ he2.e1 he2.e2 he2.e3 he2.e4 he2.e5 hno2.m1 hno2.m2 (hT.mono fun p hp => .tail _ hp) ?small hg.sx hg.sy hdn ?ord ?hb) ?B FH ?X NH (.tail _ (.head _)) ?T rfl ?d ?u ?hpre ?r
        case B => k_asm
        case X => k_asm
        case T => k_asm
        case d => ktr_room
        case u => exact Nat.le_of_ble_eq_true rfl
        case small => omega
        case ord => exact ⟨a1, a2, a3, a4, a5, a6, by omega⟩
        case hb => exact to7 ⟨w1, w2, w3, w4, w5, w6, w7⟩
        case hpre => exact List.forall_mem_cons.mpr ⟨fun _ => notin_bank (by k_ne) (by k_ne) (by k_ne) (by k_ne) (by k_ne) (by k_ne) (by k_ne) (by k_ne) (fun p hp => tbn_neAll lBt p hp), List.forall_mem_cons.mpr ⟨fun hne => absurd rfl hne, List.forall_mem_cons.mpr ⟨fun _ => notin_bank (by k_ne) (by k_ne) (by k_ne) (by k_ne) (by k_ne) (by k_ne) (by k_ne) (by k_ne) iT, List.forall_mem_cons.mpr ⟨fun _ => notin_bank (by k_ne) (by k_ne) (by k_ne) (by k_ne) (by k_ne) (by k_ne) (by k_ne) (by k_ne) wj, List.forall_mem_cons.mpr ⟨fun _ => notin_bank (by k_ne) (by k_ne) (by k_ne) (by k_ne) (by k_ne) (by k_ne) (by k_ne) (by k_ne) wc, List.forall_mem_nil _⟩⟩⟩⟩⟩
        case r =>
          intro i5 t5 os5 gs5 ss5 ds5 j1 j2 j3 j4 odn5 tl5 rows5 xs5 h5 tk5 hi5 hr5 hT5 hrl5 htl5 F5 N5
          have v0 := off_new htl5 _ (.tail _ (.tail _ (.head _))) (by k_ne) iT
          have vj := off_new htl5 _ (.tail _ (.tail _ (.tail _ (.head _)))) (by k_ne) wj
          have vc := off_new htl5 _ (.tail _ (.tail _ (.tail _ (.tail _ (.head _))))) (by k_ne) wc
          have v1 := off_new htl5 _ (.tail _ (.tail _ (.tail _ (.tail _ (.tail _ (.head _)))))) (by k_ne) w1
          have v2 := off_new htl5 _ (.tail _ (.tail _ (.tail _ (.tail _ (.tail _ (.tail _ (.head _))))))) (by k_ne) w2
          have v3 := off_new htl5 _ (.tail _ (.tail _ (.tail _ (.tail _ (.tail _ (.tail _ (.tail _ (.head _)))))))) (by k_ne) w3
          have v4 := off_new htl5 _ (.tail _ (.tail _ (.tail _ (.tail _ (.tail _ (.tail _ (.tail _ (.tail _ (.head _))))))))) (by k_ne) w4
          have v5 := off_new htl5 _ (.tail _ (.tail _ (.tail _ (.tail _ (.tail _ (.tail _ (.tail _ (.tail _ (.tail _ (.head _)))))))))) (by k_ne) w5
          have v6 := off_new htl5 _ (.tail _ (.tail _ (.tail _ (.tail _ (.tail _ (.tail _ (.tail _ (.tail _ (.tail _ (.tail _ (.head _))))))))))) (by k_ne) w6
          have v7 := off_new htl5 _ (.tail _ (.tail _ (.tail _ (.tail _ (.tail _ (.tail _ (.tail _ (.tail _ (.tail _ (.tail _ (.tail _ (.head _)))))))))))) (by k_ne) w7
          have vA := off_new htl5 _ (.head _) (by k_ne) (fun p hp => tbn_neAll lBt p hp)
          clear htl5 FH NH
          (try dsimp only)
          (try k_unfold)
          (try dsimp only)
          (try k_fold)
          w_strict k_steps
          refine ⟨?_⟩
          refine' term_lap (r := true) (pre := (A2, _) :: (A1, tupO x y t8 tB 0) :: (I, oI) :: (jj, o8) :: (cc, listOf ws.toArray kc) :: []) hg he2 hno2 hT5 ?small hr5 ?B F5 ?X N5 ?T rfl ?d ?u ?q
          case B => k_asm
          case X => k_asm
          case T => k_asm
          case d => ktr_room
          case u => exact Nat.le_of_ble_eq_true rfl
          case small => omega
          case q =>
            intro t6 h6 tk6 F6 N6
            rw [show textL true x y = realL x y from rfl]
            simp only [List.cons_append, List.nil_append] at N6
            clear N5 F5
            (try dsimp only)
            (try k_unfold)
            (try dsimp only)
            (try k_fold)
            w_strict k_steps
            · refine ⟨?_⟩
              rename_i ay sb9 e20 e21 F20 N20 lf9 t20
              subst ay
              refine' num_lap (pre := (A2, _) :: (A1, tupO x 1 t8 tB 0) :: (I, oI) :: (jj, o8) :: (cc, listOf ws.toArray kc) :: []) (num_con1 _ bb dd lo la ls ld dn A1 es2 n2 os5 gs5 ss5 ds5 j1 j2 j3 j4 odn5 tl5 rows5 xs5 x t8 tB 0 _ he2.e1 he2.e2 he2.e3 he2.e4 he2.e5 hno2.m1 hno2.m2 (hT5.mono fun p hp => .tail _ hp) ?small hg.sx hg.sy hdn ?ord ?hb) ?B F20 ?X N20 (.tail _ (.head _)) ?T rfl ?d ?u ?hpre ?r
              case B => k_asm
              case X => k_asm
              case T => k_asm
              case d => ktr_room
              case u => exact Nat.le_of_ble_eq_true rfl
              case small => omega
              case ord => exact ⟨a1, a2, a3, a4, a5, a6, by omega⟩
              case hb => exact to7 ⟨v1, v2, v3, v4, v5, v6, v7⟩
              case hpre => exact List.forall_mem_cons.mpr ⟨fun _ => notin_bank (by k_ne) (by k_ne) (by k_ne) (by k_ne) (by k_ne) (by k_ne) (by k_ne) (by k_ne) vA, List.forall_mem_cons.mpr ⟨fun hne => absurd rfl hne, List.forall_mem_cons.mpr ⟨fun _ => notin_bank (by k_ne) (by k_ne) (by k_ne) (by k_ne) (by k_ne) (by k_ne) (by k_ne) (by k_ne) v0, List.forall_mem_cons.mpr ⟨fun _ => notin_bank (by k_ne) (by k_ne) (by k_ne) (by k_ne) (by k_ne) (by k_ne) (by k_ne) (by k_ne) vj, List.forall_mem_cons.mpr ⟨fun _ => notin_bank (by k_ne) (by k_ne) (by k_ne) (by k_ne) (by k_ne) (by k_ne) (by k_ne) (by k_ne) vc, List.forall_mem_nil _⟩⟩⟩⟩⟩
              case r =>
                intro i7 t7 os6 gs6 ss6 ds6 l1 l2 l3 l4 odn6 tl6 rows6 xs6 h7 tk7 hi7 hr7 hT6 hrl6 htl6 F21 N21
                have z0 := off_new htl6 _ (.tail _ (.tail _ (.head _))) (by k_ne) v0
                have zj := off_new htl6 _ (.tail _ (.tail _ (.tail _ (.head _)))) (by k_ne) vj
                have zc := off_new htl6 _ (.tail _ (.tail _ (.tail _ (.tail _ (.head _))))) (by k_ne) vc
                have z1 := off_new htl6 _ (.tail _ (.tail _ (.tail _ (.tail _ (.tail _ (.head _)))))) (by k_ne) v1
                have z2 := off_new htl6 _ (.tail _ (.tail _ (.tail _ (.tail _ (.tail _ (.tail _ (.head _))))))) (by k_ne) v2
                have z3 := off_new htl6 _ (.tail _ (.tail _ (.tail _ (.tail _ (.tail _ (.tail _ (.tail _ (.head _)))))))) (by k_ne) v3
                have z4 := off_new htl6 _ (.tail _ (.tail _ (.tail _ (.tail _ (.tail _ (.tail _ (.tail _ (.tail _ (.head _))))))))) (by k_ne) v4
                have z5 := off_new htl6 _ (.tail _ (.tail _ (.tail _ (.tail _ (.tail _ (.tail _ (.tail _ (.tail _ (.tail _ (.head _)))))))))) (by k_ne) v5
                have z6 := off_new htl6 _ (.tail _ (.tail _ (.tail _ (.tail _ (.tail _ (.tail _ (.tail _ (.tail _ (.tail _ (.tail _ (.head _))))))))))) (by k_ne) v6
                have z7 := off_new htl6 _ (.tail _ (.tail _ (.tail _ (.tail _ (.tail _ (.tail _ (.tail _ (.tail _ (.tail _ (.tail _ (.tail _ (.head _)))))))))))) (by k_ne) v7
                clear htl6 F20 N20
                (try dsimp only)
                (try k_unfold)
                (try dsimp only)
                (try k_fold)
                w_strict k_steps
                refine ⟨?_⟩
                refine' term_lap (r := false) (pre := (A2, _) :: (A1, tupO x 1 t8 tB 0) :: (I, oI) :: (jj, o8) :: (cc, listOf ws.toArray kc) :: []) hg he2 hno2 hT6 ?small hr7 ?B F21 ?X N21 ?T rfl ?d ?u ?q
                case B => k_asm
                case X => k_asm
                case T => k_asm
                case d => ktr_room
                case u => exact Nat.le_of_ble_eq_true rfl
                case small => omega
                case q =>
                  intro t8' h8' tk8' F22 N22
                  rw [show textL false x 1 = ratioL x 1 from rfl]
                  simp only [List.cons_append, List.nil_append] at N22
                  clear N21 F21
                  (try dsimp only)
                  (try k_unfold)
                  (try dsimp only)
                  (try k_fold)
                  w_strict k_steps
                  · skip
                    refine lap_end (pre := [_, _]) (by assumption) (by assumption) ?_ hj8 (by omega) (by omega) hT6 (by omega) ?_ z0 ?_
                    · intro q q1 q2
                      simp only [List.contains_cons, List.contains_nil, Bool.or_false, Bool.or_eq_false_iff, beq_eq_false_iff_ne, ne_eq] at q2
                      simp [q1, q2]
                    · exact to9 ⟨zj, zc, z1, z2, z3, z4, z5, z6, z7⟩
                    · exact fun x hx => Nat.ne_of_lt (lt9 i2 x hx)
            · skip
              refine lap_end (pre := [_, _]) (by assumption) (by assumption) ?_ hj8 (by omega) (by omega) hT5 (by omega) ?_ v0 ?_
              · intro q q1 q2
                simp only [List.contains_cons, List.contains_nil, Bool.or_false, Bool.or_eq_false_iff, beq_eq_false_iff_ne, ne_eq] at q2
                simp [q1, q2]
              · exact to9 ⟨vj, vc, v1, v2, v3, v4, v5, v6, v7⟩
              · exact fun x hx => Nat.ne_of_lt (lt9 i2 x hx)
    · intro nx u h tk hJ F7 N7
      have N8 := newsNil N7
      clear N7 hJ hj0 aN aF aR aK
      w_strict k_steps
end Mine
end
section
open PySem PySem.W PyProof.Rows
namespace Mine
theorem final.tw10010272874993245601 : True := ⟨⟩
theorem final.tw10022720517303903229 : True := ⟨⟩
theorem final.tw10031195458945160421 : True := ⟨⟩
theorem final.tw10042153376342002085 : True := ⟨⟩
theorem final.tw10042477878066290759 : True := ⟨⟩
theorem final.tw10091442509036489947 : True := ⟨⟩
theorem final.tw10109679109133363531 : True := ⟨⟩
theorem final.tw10112854125303840436 : True := ⟨⟩
theorem final.tw1012590236762529216 : True := ⟨⟩
theorem final.tw10136838083808060652 : True := ⟨⟩
theorem final.tw10161721240196843986 : True := ⟨⟩
theorem final.tw10188603135235832268 : True := ⟨⟩
theorem final.tw10198918189601624818 : True := ⟨⟩
theorem final.tw10200535332316725957 : True := ⟨⟩
theorem final.tw10215562686513343379 : True := ⟨⟩
theorem final.tw10226857977930361764 : True := ⟨⟩
theorem final.tw10235623650222328101 : True := ⟨⟩
theorem final.tw1023977753357071421 : True := ⟨⟩
theorem final.tw10278739941773020320 : True := ⟨⟩
theorem final.tw10280614528598747071 : True := ⟨⟩
theorem final.tw10297286039931119578 : True := ⟨⟩
theorem final.tw10302953808379828206 : True := ⟨⟩
theorem final.tw1030456903458599718 : True := ⟨⟩
theorem final.tw1030921850216350784 : True := ⟨⟩
theorem final.tw1033250584643867720 : True := ⟨⟩
theorem final.tw1033934193855143035 : True := ⟨⟩
theorem final.tw10341356829092745643 : True := ⟨⟩
theorem final.tw10364463405228656447 : True := ⟨⟩
theorem final.tw1036930978727434209 : True := ⟨⟩
theorem final.tw10382298792771070601 : True := ⟨⟩
theorem final.tw10382594733359285842 : True := ⟨⟩
theorem final.tw10400498931376978561 : True := ⟨⟩
theorem final.tw10405456934154409483 : True := ⟨⟩
theorem final.tw1041789761720148492 : True := ⟨⟩
theorem final.tw1043442410718772437 : True := ⟨⟩
theorem final.tw10481557033382253437 : True := ⟨⟩
theorem final.tw10504659516829743918 : True := ⟨⟩
theorem final.tw10508038922420909745 : True := ⟨⟩
theorem final.tw10519780935772106490 : True := ⟨⟩
theorem final.tw10527645175286287917 : True := ⟨⟩
theorem final.tw10530303815296050188 : True := ⟨⟩
theorem final.tw10539823913629569940 : True := ⟨⟩
theorem final.tw10541055040935714815 : True := ⟨⟩
theorem final.tw10560740330725712883 : True := ⟨⟩
theorem final.tw10578715505035365160 : True := ⟨⟩
theorem final.tw10598982237293589598 : True := ⟨⟩
theorem final.tw1061853625469217879 : True := ⟨⟩
theorem final.tw10620928361779868618 : True := ⟨⟩
theorem final.tw10643008662736248833 : True := ⟨⟩
theorem final.tw10646033506012306414 : True := ⟨⟩
theorem final.tw10663948502421397011 : True := ⟨⟩
theorem final.tw10663953652200916614 : True := ⟨⟩
theorem final.tw10672768020399081467 : True := ⟨⟩
theorem final.tw10703267866003492558 : True := ⟨⟩
theorem final.tw10718386975483242087 : True := ⟨⟩
theorem final.tw1073681862050955728 : True := ⟨⟩
theorem final.tw10738129317390430635 : True := ⟨⟩
theorem final.tw10738175656915342799 : True := ⟨⟩
theorem final.tw10745863861584185994 : True := ⟨⟩
theorem final.tw10747181895674852957 : True := ⟨⟩
theorem final.tw10754830030338796698 : True := ⟨⟩
theorem final.tw10765091317889912804 : True := ⟨⟩
theorem final.tw10787959477656939540 : True := ⟨⟩
theorem final.tw10815434769854636908 : True := ⟨⟩
theorem final.tw10818210196121886405 : True := ⟨⟩
theorem final.tw10855050123940413320 : True := ⟨⟩
theorem final.tw10861029094394459488 : True := ⟨⟩
theorem final.tw10865263461131140414 : True := ⟨⟩
theorem final.tw10871911632129416854 : True := ⟨⟩
theorem final.tw10897546583699624312 : True := ⟨⟩
theorem final.tw10911831667320749451 : True := ⟨⟩
theorem final.tw10913907146073784583 : True := ⟨⟩
theorem final.tw10916110072497321175 : True := ⟨⟩
theorem final.tw10920719545103886806 : True := ⟨⟩
theorem final.tw10945790623760843727 : True := ⟨⟩
theorem final.tw1095318954706538441 : True := ⟨⟩
theorem final.tw1097702663846200564 : True := ⟨⟩
theorem final.tw10986928297247490288 : True := ⟨⟩
theorem final.tw10986942860421352712 : True := ⟨⟩
theorem final.tw10991939308174324994 : True := ⟨⟩
theorem final.tw11033137608008753252 : True := ⟨⟩
theorem final.tw11037439807025286977 : True := ⟨⟩
theorem final.tw11038818720628525295 : True := ⟨⟩
theorem final.tw11048773175972740926 : True := ⟨⟩
theorem final.tw11055820713961663712 : True := ⟨⟩
theorem final.tw11057646398824700998 : True := ⟨⟩
theorem final.tw11065720953403699026 : True := ⟨⟩
theorem final.tw11082975316157226253 : True := ⟨⟩
theorem final.tw11087982169785079504 : True := ⟨⟩
theorem final.tw11088257753826581252 : True := ⟨⟩
theorem final.tw11089928770824664377 : True := ⟨⟩
theorem final.tw11099217212953056424 : True := ⟨⟩
theorem final.tw11109731294940526365 : True := ⟨⟩
theorem final.tw11111853263425303166 : True := ⟨⟩
theorem final.tw11134921181324909023 : True := ⟨⟩
theorem final.tw11138785681079994981 : True := ⟨⟩
theorem final.tw11153157573971964366 : True := ⟨⟩
theorem final.tw11154759196510255760 : True := ⟨⟩
theorem final.tw11176405918655205769 : True := ⟨⟩
theorem final.tw11178705407735690395 : True := ⟨⟩
theorem final.tw11184108198377619824 : True := ⟨⟩
theorem final.tw1118891542239591906 : True := ⟨⟩
theorem final.tw11193718001927154065 : True := ⟨⟩
theorem final.tw11195729793069818585 : True := ⟨⟩
theorem final.tw11265026296916403565 : True := ⟨⟩
theorem final.tw11269673911968321655 : True := ⟨⟩
theorem final.tw11277681200405515555 : True := ⟨⟩
theorem final.tw1128094589236297302 : True := ⟨⟩
theorem final.tw11296679136469293780 : True := ⟨⟩
theorem final.tw11304617709705870312 : True := ⟨⟩
theorem final.tw11317307489459646166 : True := ⟨⟩
theorem final.tw11325154202677198750 : True := ⟨⟩
theorem final.tw11334689949776245326 : True := ⟨⟩
theorem final.tw11353945107730167574 : True := ⟨⟩
theorem final.tw1138763449230993549 : True := ⟨⟩
theorem final.tw11399762081166842518 : True := ⟨⟩
theorem final.tw11402949206555977163 : True := ⟨⟩
theorem final.tw11403885767472276936 : True := ⟨⟩
theorem final.tw11409176808490423547 : True := ⟨⟩
theorem final.tw11414178733762228282 : True := ⟨⟩
theorem final.tw11449768931154743443 : True := ⟨⟩
theorem final.tw11454308670320448749 : True := ⟨⟩
theorem final.tw11455286470832896224 : True := ⟨⟩
theorem final.tw11462666252361248665 : True := ⟨⟩
theorem final.tw11483661804922472206 : True := ⟨⟩
theorem final.tw1151075834987577377 : True := ⟨⟩
theorem final.tw1151175054523786478 : True := ⟨⟩
theorem final.tw11512294310007847537 : True := ⟨⟩
theorem final.tw11520401330096609620 : True := ⟨⟩
theorem final.tw11560674335311833913 : True := ⟨⟩
theorem final.tw11572024322076922684 : True := ⟨⟩
theorem final.tw11572573174677061606 : True := ⟨⟩
theorem final.tw11578436833355600814 : True := ⟨⟩
theorem final.tw11621525241791773345 : True := ⟨⟩
theorem final.tw11629521538851684163 : True := ⟨⟩
theorem final.tw11631137980050955617 : True := ⟨⟩
theorem final.tw11645548303459143618 : True := ⟨⟩
theorem final.tw11659793539358505850 : True := ⟨⟩
theorem final.tw11661903567044720909 : True := ⟨⟩
theorem final.tw1167806847184727256 : True := ⟨⟩
theorem final.tw11702953093837033213 : True := ⟨⟩
theorem final.tw11716707981710978357 : True := ⟨⟩
theorem final.tw11720821567924056377 : True := ⟨⟩
theorem final.tw1172413008298942218 : True := ⟨⟩
theorem final.tw11728396383656172211 : True := ⟨⟩
theorem final.tw11743882674968873933 : True := ⟨⟩
theorem final.tw11755607130337481677 : True := ⟨⟩
theorem final.tw11757114025837991655 : True := ⟨⟩
theorem final.tw11773714837947557637 : True := ⟨⟩
theorem final.tw1178441971408531388 : True := ⟨⟩
theorem final.tw11794143875171351199 : True := ⟨⟩
theorem final.tw11851443106950356353 : True := ⟨⟩
theorem final.tw11890712743417470050 : True := ⟨⟩
theorem final.tw11903725700678667187 : True := ⟨⟩
theorem final.tw11908802298470853932 : True := ⟨⟩
theorem final.tw11910050627011021864 : True := ⟨⟩
theorem final.tw11925769687901133866 : True := ⟨⟩
theorem final.tw11939569867185975808 : True := ⟨⟩
theorem final.tw11988758112331885858 : True := ⟨⟩
theorem final.tw12005250827727968718 : True := ⟨⟩
theorem final.tw12015204588933193610 : True := ⟨⟩
theorem final.tw12023266288311618649 : True := ⟨⟩
theorem final.tw12028832986741841753 : True := ⟨⟩
theorem final.tw12031496327692347433 : True := ⟨⟩
theorem final.tw12054920791875461930 : True := ⟨⟩
theorem final.tw12059012588361500591 : True := ⟨⟩
theorem final.tw12065736614108987081 : True := ⟨⟩
theorem final.tw12094206562244270673 : True := ⟨⟩
theorem final.tw1214877445308022672 : True := ⟨⟩
theorem final.tw12174428885452532313 : True := ⟨⟩
theorem final.tw12174733379589101671 : True := ⟨⟩
theorem final.tw12181345595061343083 : True := ⟨⟩
theorem final.tw12184660209681280749 : True := ⟨⟩
theorem final.tw12193083678673576488 : True := ⟨⟩
theorem final.tw1219376236543507551 : True := ⟨⟩
theorem final.tw12197735419432522352 : True := ⟨⟩
theorem final.tw12226372716556667399 : True := ⟨⟩
theorem final.tw12234275800261845075 : True := ⟨⟩
theorem final.tw12235391915731338878 : True := ⟨⟩
theorem final.tw12237680696379999495 : True := ⟨⟩
theorem final.tw1225252772011876506 : True := ⟨⟩
theorem final.tw1225407224349070290 : True := ⟨⟩
theorem final.tw12268144012071753613 : True := ⟨⟩
theorem final.tw12274852248375820247 : True := ⟨⟩
theorem final.tw12291847740140454447 : True := ⟨⟩
theorem final.tw12298103585672968418 : True := ⟨⟩
theorem final.tw12316347057138808726 : True := ⟨⟩
theorem final.tw12326750588531125101 : True := ⟨⟩
theorem final.tw1234134709821502751 : True := ⟨⟩
theorem final.tw12358737551627760310 : True := ⟨⟩
theorem final.tw12388972978486176875 : True := ⟨⟩
theorem final.tw12389126837187576176 : True := ⟨⟩
theorem final.tw12403509158727209644 : True := ⟨⟩
theorem final.tw12411140988998077859 : True := ⟨⟩
theorem final.tw12433093636904741535 : True := ⟨⟩
theorem final.tw1244669425144800544 : True := ⟨⟩
theorem final.tw12463891911788199596 : True := ⟨⟩
theorem final.tw12464643593025077343 : True := ⟨⟩
theorem final.tw12492487166004147304 : True := ⟨⟩
theorem final.tw12494411158683425589 : True := ⟨⟩
theorem final.tw12504466222242759415 : True := ⟨⟩
theorem final.tw12515764300223037709 : True := ⟨⟩
theorem final.tw12521616937694152314 : True := ⟨⟩
theorem final.tw12521806663579407336 : True := ⟨⟩
theorem final.tw12530574446223662709 : True := ⟨⟩
theorem final.tw12533527771336344236 : True := ⟨⟩
theorem final.tw12550469337391333231 : True := ⟨⟩
theorem final.tw12553632014370418008 : True := ⟨⟩
theorem final.tw12579368493340364875 : True := ⟨⟩
theorem final.tw12612486758627221125 : True := ⟨⟩
theorem final.tw12638246840991352403 : True := ⟨⟩
theorem final.tw12650147989403077278 : True := ⟨⟩
theorem final.tw12652170083647310811 : True := ⟨⟩
theorem final.tw12671059682465665707 : True := ⟨⟩
theorem final.tw12677480509375278066 : True := ⟨⟩
theorem final.tw12680508778092358129 : True := ⟨⟩
theorem final.tw12696992929763650710 : True := ⟨⟩
theorem final.tw1270100410646638810 : True := ⟨⟩
theorem final.tw12732990688109655860 : True := ⟨⟩
theorem final.tw1273827011791007425 : True := ⟨⟩
theorem final.tw12740954528895896557 : True := ⟨⟩
theorem final.tw12745456073798777040 : True := ⟨⟩
theorem final.tw12752902620569230207 : True := ⟨⟩
theorem final.tw12756682976235768640 : True := ⟨⟩
theorem final.tw12761739613763551940 : True := ⟨⟩
theorem final.tw12767423160608110480 : True := ⟨⟩
theorem final.tw12770567354608641599 : True := ⟨⟩
theorem final.tw1277778682993930865 : True := ⟨⟩
theorem final.tw12787673743913026722 : True := ⟨⟩
theorem final.tw12810460508603068904 : True := ⟨⟩
theorem final.tw12813686065312059881 : True := ⟨⟩
theorem final.tw12814804424246543001 : True := ⟨⟩
theorem final.tw12821696043782429898 : True := ⟨⟩
theorem final.tw12852116642683102837 : True := ⟨⟩
theorem final.tw12852182725542459066 : True := ⟨⟩
theorem final.tw12854674096390202468 : True := ⟨⟩
theorem final.tw12857474060036348902 : True := ⟨⟩
theorem final.tw12860300667077912899 : True := ⟨⟩
theorem final.tw12894800354760043239 : True := ⟨⟩
theorem final.tw12900595733005133062 : True := ⟨⟩
theorem final.tw12904224180886492615 : True := ⟨⟩
theorem final.tw12933409026105978606 : True := ⟨⟩
theorem final.tw12942146248557769437 : True := ⟨⟩
theorem final.tw12944385451061278299 : True := ⟨⟩
theorem final.tw12950634478815041438 : True := ⟨⟩
theorem final.tw12957693968560562136 : True := ⟨⟩
theorem final.tw1298481290551079841 : True := ⟨⟩
theorem final.tw13003721563269809310 : True := ⟨⟩
theorem final.tw13008863128101176825 : True := ⟨⟩
theorem final.tw13011113689652671458 : True := ⟨⟩
theorem final.tw13018764859894538689 : True := ⟨⟩
theorem final.tw13028011595235079249 : True := ⟨⟩
theorem final.tw13045077963082093605 : True := ⟨⟩
theorem final.tw13049720855394113441 : True := ⟨⟩
theorem final.tw13054223058342641115 : True := ⟨⟩
theorem final.tw13054706670509775260 : True := ⟨⟩
theorem final.tw13065280830581172821 : True := ⟨⟩
theorem final.tw13070091137009082169 : True := ⟨⟩
theorem final.tw13079481862374697628 : True := ⟨⟩
theorem final.tw13081219227266263784 : True := ⟨⟩
theorem final.tw13084178088124665500 : True := ⟨⟩
theorem final.tw13093995785551501967 : True := ⟨⟩
theorem final.tw1315242773965117982 : True := ⟨⟩
theorem final.tw13166894094371549693 : True := ⟨⟩
theorem final.tw13198125711504249433 : True := ⟨⟩
theorem final.tw13217844813153855629 : True := ⟨⟩
theorem final.tw1323907996379488894 : True := ⟨⟩
theorem final.tw13265213504662966667 : True := ⟨⟩
theorem final.tw13265925556057967313 : True := ⟨⟩
theorem final.tw13272435591910737277 : True := ⟨⟩
theorem final.tw1329960898435082621 : True := ⟨⟩
theorem final.tw13332250127365345518 : True := ⟨⟩
theorem final.tw13377287810702762908 : True := ⟨⟩
theorem final.tw13394117218039322082 : True := ⟨⟩
theorem final.tw1339646832417796950 : True := ⟨⟩
theorem final.tw13399241488008030647 : True := ⟨⟩
theorem final.tw13421008472275872812 : True := ⟨⟩
theorem final.tw13421372506842242409 : True := ⟨⟩
theorem final.tw13424173313351395235 : True := ⟨⟩
theorem final.tw13436894549356674435 : True := ⟨⟩
theorem final.tw13439053634052783255 : True := ⟨⟩
theorem final.tw13447579337430037540 : True := ⟨⟩
theorem final.tw13477547868599768565 : True := ⟨⟩
theorem final.tw13484504971853799172 : True := ⟨⟩
theorem final.tw13495151133702079412 : True := ⟨⟩
theorem final.tw13510057210607505867 : True := ⟨⟩
theorem final.tw13510496807988840059 : True := ⟨⟩
theorem final.tw13553512461637027839 : True := ⟨⟩
theorem final.tw13572198916912038379 : True := ⟨⟩
theorem final.tw13572918437115471169 : True := ⟨⟩
theorem final.tw1359161152320428105 : True := ⟨⟩
theorem final.tw13593155328485050101 : True := ⟨⟩
theorem final.tw13593177656781000675 : True := ⟨⟩
theorem final.tw13608403017358156594 : True := ⟨⟩
theorem final.tw13623334544322112252 : True := ⟨⟩
theorem final.tw13626001336722712452 : True := ⟨⟩
theorem final.tw13630834664627184572 : True := ⟨⟩
theorem final.tw13643831960144257518 : True := ⟨⟩
theorem final.tw13653732453751996453 : True := ⟨⟩
theorem final.tw13665693801982328571 : True := ⟨⟩
theorem final.tw13686423907904493438 : True := ⟨⟩
theorem final.tw13704651398323245517 : True := ⟨⟩
theorem final.tw13707858908888328168 : True := ⟨⟩
theorem final.tw13710551116888443503 : True := ⟨⟩
theorem final.tw1373032202485160565 : True := ⟨⟩
theorem final.tw13743964422395864366 : True := ⟨⟩
theorem final.tw13749027915600459861 : True := ⟨⟩
theorem final.tw13762260440996723376 : True := ⟨⟩
theorem final.tw13781144077324645375 : True := ⟨⟩
theorem final.tw13799033618075961429 : True := ⟨⟩
theorem final.tw13808806784388952406 : True := ⟨⟩
theorem final.tw13815886871995953870 : True := ⟨⟩
theorem final.tw13831417944032191605 : True := ⟨⟩
theorem final.tw13835430691564407374 : True := ⟨⟩
theorem final.tw13845037831227150464 : True := ⟨⟩
theorem final.tw13845890581767932638 : True := ⟨⟩
theorem final.tw13857804448480679120 : True := ⟨⟩
theorem final.tw13862502645657470860 : True := ⟨⟩
theorem final.tw13863097710472464283 : True := ⟨⟩
theorem final.tw13865372829281924981 : True := ⟨⟩
theorem final.tw13889069868411292622 : True := ⟨⟩
theorem final.tw13902647279651871334 : True := ⟨⟩
theorem final.tw13915564520397958564 : True := ⟨⟩
theorem final.tw13923275538314067778 : True := ⟨⟩
theorem final.tw13951417757515889837 : True := ⟨⟩
theorem final.tw13971017806962626768 : True := ⟨⟩
theorem final.tw13983057965684439315 : True := ⟨⟩
theorem final.tw13997885589944351747 : True := ⟨⟩
theorem final.tw13998821736526809490 : True := ⟨⟩
theorem final.tw14005376287791743597 : True := ⟨⟩
theorem final.tw14043457606918580762 : True := ⟨⟩
theorem final.tw14054177327168669609 : True := ⟨⟩
theorem final.tw14059577541247091111 : True := ⟨⟩
theorem final.tw140634636266502432 : True := ⟨⟩
theorem final.tw14064300206852897936 : True := ⟨⟩
theorem final.tw14071248049736622896 : True := ⟨⟩
theorem final.tw14075180522251205000 : True := ⟨⟩
theorem final.tw14078706251315611494 : True := ⟨⟩
theorem final.tw14132208196262697092 : True := ⟨⟩
theorem final.tw14187467039090886567 : True := ⟨⟩
theorem final.tw14204176399610328262 : True := ⟨⟩
theorem final.tw14219477473750013154 : True := ⟨⟩
theorem final.tw14235566077157851226 : True := ⟨⟩
theorem final.tw14257410440611181681 : True := ⟨⟩
theorem final.tw14331261766660437861 : True := ⟨⟩
theorem final.tw14346109844729237863 : True := ⟨⟩
theorem final.tw14357599014219064886 : True := ⟨⟩
theorem final.tw14369274526029622295 : True := ⟨⟩
theorem final.tw14377197693143559155 : True := ⟨⟩
theorem final.tw14381790933468784648 : True := ⟨⟩
theorem final.tw14409431328962955437 : True := ⟨⟩
theorem final.tw14410457290890120725 : True := ⟨⟩
theorem final.tw14424997594739748307 : True := ⟨⟩
theorem final.tw14467700707302881680 : True := ⟨⟩
theorem final.tw14476525473978586552 : True := ⟨⟩
theorem final.tw14499561244455047916 : True := ⟨⟩
theorem final.tw14504407783012217761 : True := ⟨⟩
theorem final.tw14504468305319239816 : True := ⟨⟩
theorem final.tw145119177381891334 : True := ⟨⟩
theorem final.tw14518397908296611602 : True := ⟨⟩
theorem final.tw14533278132898448490 : True := ⟨⟩
theorem final.tw14537553313121927062 : True := ⟨⟩
theorem final.tw1455309271534816757 : True := ⟨⟩
theorem final.tw14567114869086942714 : True := ⟨⟩
theorem final.tw1457224253908937477 : True := ⟨⟩
theorem final.tw14592424073331965608 : True := ⟨⟩
theorem final.tw14594861586625061995 : True := ⟨⟩
theorem final.tw14595197838417933575 : True := ⟨⟩
theorem final.tw14643330129591677465 : True := ⟨⟩
theorem final.tw14674384972403191000 : True := ⟨⟩
theorem final.tw14688711452592111847 : True := ⟨⟩
theorem final.tw14699084472952716121 : True := ⟨⟩
theorem final.tw14705905111403507766 : True := ⟨⟩
theorem final.tw14748473483771632679 : True := ⟨⟩
theorem final.tw14750047601798303160 : True := ⟨⟩
theorem final.tw1477146434381541279 : True := ⟨⟩
theorem final.tw14774885456448408303 : True := ⟨⟩
theorem final.tw14780266126383647144 : True := ⟨⟩
theorem final.tw14783993916324718730 : True := ⟨⟩
theorem final.tw14786647807711527660 : True := ⟨⟩
theorem final.tw14829436452267206915 : True := ⟨⟩
theorem final.tw14829698671138086527 : True := ⟨⟩
theorem final.tw14838063319114388084 : True := ⟨⟩
theorem final.tw14846001885504754242 : True := ⟨⟩
theorem final.tw14846775239822927482 : True := ⟨⟩
theorem final.tw14851017382003562648 : True := ⟨⟩
theorem final.tw14862061243503856648 : True := ⟨⟩
theorem final.tw1486570519938057580 : True := ⟨⟩
theorem final.tw14885865362977504382 : True := ⟨⟩
theorem final.tw14891174452418874599 : True := ⟨⟩
theorem final.tw14923001549059771250 : True := ⟨⟩
theorem final.tw14926783700803142611 : True := ⟨⟩
theorem final.tw14953048008064835073 : True := ⟨⟩
theorem final.tw14983028593114963129 : True := ⟨⟩
theorem final.tw14983176056467492890 : True := ⟨⟩
theorem final.tw14989635381582243802 : True := ⟨⟩
theorem final.tw14994720329665024801 : True := ⟨⟩
theorem final.tw15002957657636978355 : True := ⟨⟩
theorem final.tw15013356878568477745 : True := ⟨⟩
theorem final.tw15028318858351353704 : True := ⟨⟩
theorem final.tw1503859234435688681 : True := ⟨⟩
theorem final.tw15041694401840789516 : True := ⟨⟩
theorem final.tw15043723511891397480 : True := ⟨⟩
theorem final.tw15048353312031890575 : True := ⟨⟩
theorem final.tw15055759508504394698 : True := ⟨⟩
theorem final.tw15076974432374580262 : True := ⟨⟩
theorem final.tw15080971510701918577 : True := ⟨⟩
theorem final.tw15082610434975258740 : True := ⟨⟩
theorem final.tw15103127520498855259 : True := ⟨⟩
theorem final.tw15111563507395324721 : True := ⟨⟩
theorem final.tw15119404706621077610 : True := ⟨⟩
theorem final.tw15126949523030102369 : True := ⟨⟩
theorem final.tw15145089828717093569 : True := ⟨⟩
theorem final.tw15187053024510714485 : True := ⟨⟩
theorem final.tw15187764968134394116 : True := ⟨⟩
theorem final.tw15197400897401603280 : True := ⟨⟩
theorem final.tw15201367622841251570 : True := ⟨⟩
theorem final.tw15205743503277619710 : True := ⟨⟩
theorem final.tw15209343339840471333 : True := ⟨⟩
theorem final.tw1521680026752638490 : True := ⟨⟩
theorem final.tw1522779713835684439 : True := ⟨⟩
theorem final.tw15228884226545671218 : True := ⟨⟩
theorem final.tw15235853767993721259 : True := ⟨⟩
theorem final.tw15236406610050182710 : True := ⟨⟩
theorem final.tw15245276089288008466 : True := ⟨⟩
theorem final.tw15265891003169661842 : True := ⟨⟩
theorem final.tw15272283219820132895 : True := ⟨⟩
theorem final.tw15302220452908617376 : True := ⟨⟩
theorem final.tw15310426529280102493 : True := ⟨⟩
theorem final.tw15335980646773583914 : True := ⟨⟩
theorem final.tw15339308187959331983 : True := ⟨⟩
theorem final.tw15348204034955759621 : True := ⟨⟩
theorem final.tw15348699396147576341 : True := ⟨⟩
theorem final.tw1536624838579096718 : True := ⟨⟩
theorem final.tw15367180931187552503 : True := ⟨⟩
theorem final.tw1538374821396223975 : True := ⟨⟩
theorem final.tw15399233291992724170 : True := ⟨⟩
theorem final.tw154085630076864448 : True := ⟨⟩
theorem final.tw15423543969872308761 : True := ⟨⟩
theorem final.tw1543641582297286357 : True := ⟨⟩
theorem final.tw15438442293791725603 : True := ⟨⟩
theorem final.tw15461508515462595316 : True := ⟨⟩
theorem final.tw15463492881473542600 : True := ⟨⟩
theorem final.tw1547634603476588811 : True := ⟨⟩
theorem final.tw15478524029362250157 : True := ⟨⟩
theorem final.tw15491824490430082641 : True := ⟨⟩
theorem final.tw15498743456819619291 : True := ⟨⟩
theorem final.tw15522420312180134977 : True := ⟨⟩
theorem final.tw15528555994481503072 : True := ⟨⟩
theorem final.tw15530702527139257509 : True := ⟨⟩
theorem final.tw1553986359313867108 : True := ⟨⟩
theorem final.tw15542392580592094275 : True := ⟨⟩
theorem final.tw15548885372391754241 : True := ⟨⟩
theorem final.tw1557209624476864316 : True := ⟨⟩
theorem final.tw15577775736892493570 : True := ⟨⟩
theorem final.tw15582460672162042178 : True := ⟨⟩
theorem final.tw15598267126266478070 : True := ⟨⟩
theorem final.tw15606041865945481840 : True := ⟨⟩
theorem final.tw15613107854449630783 : True := ⟨⟩
theorem final.tw15626734571503195110 : True := ⟨⟩
theorem final.tw1562689990130698570 : True := ⟨⟩
theorem final.tw15632189312812393717 : True := ⟨⟩
theorem final.tw15685204099699473437 : True := ⟨⟩
theorem final.tw15685469453080013526 : True := ⟨⟩
theorem final.tw1568586614941139152 : True := ⟨⟩
theorem final.tw15689612197081504215 : True := ⟨⟩
theorem final.tw15694949149481459363 : True := ⟨⟩
theorem final.tw15696047645194348214 : True := ⟨⟩
theorem final.tw1570900686946605018 : True := ⟨⟩
theorem final.tw15739658634312021467 : True := ⟨⟩
theorem final.tw1574424894721208353 : True := ⟨⟩
theorem final.tw15749131273807778147 : True := ⟨⟩
theorem final.tw15757872021049139618 : True := ⟨⟩
theorem final.tw15819236128794879702 : True := ⟨⟩
theorem final.tw15827805275511034588 : True := ⟨⟩
theorem final.tw15860878649779652343 : True := ⟨⟩
theorem final.tw1586116005993907654 : True := ⟨⟩
theorem final.tw15861927632151148541 : True := ⟨⟩
theorem final.tw15874777749913318607 : True := ⟨⟩
theorem final.tw15875135524755104827 : True := ⟨⟩
theorem final.tw15890681829448650815 : True := ⟨⟩
theorem final.tw15891373984983396202 : True := ⟨⟩
theorem final.tw15892289957399678686 : True := ⟨⟩
theorem final.tw15910529876821992365 : True := ⟨⟩
theorem final.tw15928879647268232179 : True := ⟨⟩
theorem final.tw15930017886066044294 : True := ⟨⟩
theorem final.tw1593883698624984684 : True := ⟨⟩
theorem final.tw15972408957660543323 : True := ⟨⟩
theorem final.tw15981178532920550917 : True := ⟨⟩
theorem final.tw15984344099728687119 : True := ⟨⟩
theorem final.tw15998246895451491800 : True := ⟨⟩
theorem final.tw15998802877172754485 : True := ⟨⟩
theorem final.tw16007739330086834018 : True := ⟨⟩
theorem final.tw16035471457416330088 : True := ⟨⟩
theorem final.tw16036176020941953499 : True := ⟨⟩
theorem final.tw16036293940140253365 : True := ⟨⟩
theorem final.tw16044562812074386166 : True := ⟨⟩
theorem final.tw16045751835085740579 : True := ⟨⟩
theorem final.tw16049669061344712723 : True := ⟨⟩
theorem final.tw16058654645877152194 : True := ⟨⟩
theorem final.tw16090920717258193682 : True := ⟨⟩
theorem final.tw16101516297853319819 : True := ⟨⟩
theorem final.tw16108890937843168717 : True := ⟨⟩
theorem final.tw1612280488134329217 : True := ⟨⟩
theorem final.tw16138314602926116456 : True := ⟨⟩
theorem final.tw16140918420318253033 : True := ⟨⟩
theorem final.tw16152952586699198599 : True := ⟨⟩
theorem final.tw16178314630122554319 : True := ⟨⟩
theorem final.tw16195603264935533082 : True := ⟨⟩
theorem final.tw16208415720716193051 : True := ⟨⟩
theorem final.tw16213496923453673951 : True := ⟨⟩
theorem final.tw16224197975931463073 : True := ⟨⟩
theorem final.tw16265031413143816377 : True := ⟨⟩
theorem final.tw16310589118863610983 : True := ⟨⟩
theorem final.tw16327244982783498995 : True := ⟨⟩
theorem final.tw16345452470020161006 : True := ⟨⟩
theorem final.tw16372371286962158275 : True := ⟨⟩
theorem final.tw16400655615396951986 : True := ⟨⟩
theorem final.tw16433451546502405983 : True := ⟨⟩
theorem final.tw16439242745779971670 : True := ⟨⟩
theorem final.tw16445440151621273314 : True := ⟨⟩
theorem final.tw16465679406029590199 : True := ⟨⟩
theorem final.tw16468110916521678169 : True := ⟨⟩
theorem final.tw16476789516815674885 : True := ⟨⟩
theorem final.tw16502813179049469050 : True := ⟨⟩
theorem final.tw16505741040005749607 : True := ⟨⟩
theorem final.tw16523900511320400833 : True := ⟨⟩
theorem final.tw16533158313054676306 : True := ⟨⟩
theorem final.tw16540662254994635887 : True := ⟨⟩
theorem final.tw16540968434458866720 : True := ⟨⟩
theorem final.tw16545074630076544214 : True := ⟨⟩
theorem final.tw16579552270256177249 : True := ⟨⟩
theorem final.tw16587208965845385966 : True := ⟨⟩
theorem final.tw16587799928334261698 : True := ⟨⟩
theorem final.tw16599080878393582136 : True := ⟨⟩
theorem final.tw16600768930087418477 : True := ⟨⟩
theorem final.tw16612968740773519614 : True := ⟨⟩
theorem final.tw16636358752302710761 : True := ⟨⟩
theorem final.tw16674493107115136728 : True := ⟨⟩
theorem final.tw16678879292118684682 : True := ⟨⟩
theorem final.tw16679888110286342271 : True := ⟨⟩
theorem final.tw16681803135233890039 : True := ⟨⟩
theorem final.tw16682726815438651451 : True := ⟨⟩
theorem final.tw16708368369666210667 : True := ⟨⟩
theorem final.tw16723526084700713566 : True := ⟨⟩
theorem final.tw16759048778499897245 : True := ⟨⟩
theorem final.tw1678339942984513708 : True := ⟨⟩
theorem final.tw16787370370302139407 : True := ⟨⟩
theorem final.tw167980161625297423 : True := ⟨⟩
theorem final.tw16831907639291699049 : True := ⟨⟩
theorem final.tw16847243299880372608 : True := ⟨⟩
theorem final.tw16857547088353344958 : True := ⟨⟩
theorem final.tw16898433737303965447 : True := ⟨⟩
theorem final.tw16925773503056090449 : True := ⟨⟩
theorem final.tw16935392369248617753 : True := ⟨⟩
theorem final.tw16949632806036113202 : True := ⟨⟩
theorem final.tw1700212296458557538 : True := ⟨⟩
theorem final.tw1700472221356038568 : True := ⟨⟩
theorem final.tw17007526866515887295 : True := ⟨⟩
theorem final.tw17012134854124572592 : True := ⟨⟩
theorem final.tw17014296714871592937 : True := ⟨⟩
theorem final.tw17016280140038784127 : True := ⟨⟩
theorem final.tw17069250406732826158 : True := ⟨⟩
theorem final.tw17091635425046249647 : True := ⟨⟩
theorem final.tw17104419979807603413 : True := ⟨⟩
theorem final.tw17137629340255357077 : True := ⟨⟩
theorem final.tw17147233745554149662 : True := ⟨⟩
theorem final.tw17166084151497342103 : True := ⟨⟩
theorem final.tw17178561752005649357 : True := ⟨⟩
theorem final.tw17203559751701096663 : True := ⟨⟩
theorem final.tw17245632480611900101 : True := ⟨⟩
theorem final.tw17253198804697667240 : True := ⟨⟩
theorem final.tw17293596409491908213 : True := ⟨⟩
theorem final.tw17299782089999335445 : True := ⟨⟩
theorem final.tw1730075988153928496 : True := ⟨⟩
theorem final.tw17300981031237212732 : True := ⟨⟩
theorem final.tw17308226725720482818 : True := ⟨⟩
theorem final.tw17328770656534031927 : True := ⟨⟩
theorem final.tw17333754714033110994 : True := ⟨⟩
theorem final.tw17339996171863926278 : True := ⟨⟩
theorem final.tw17341459957101103776 : True := ⟨⟩
theorem final.tw17342463505176287074 : True := ⟨⟩
theorem final.tw17381842329764582458 : True := ⟨⟩
theorem final.tw17383074198191274772 : True := ⟨⟩
theorem final.tw17385785918144372039 : True := ⟨⟩
theorem final.tw17393740658665903645 : True := ⟨⟩
theorem final.tw17400438196133215334 : True := ⟨⟩
theorem final.tw17402489212504556138 : True := ⟨⟩
theorem final.tw17416426286146280363 : True := ⟨⟩
theorem final.tw17425543413264963631 : True := ⟨⟩
theorem final.tw17447932666967288649 : True := ⟨⟩
theorem final.tw17449869875377991410 : True := ⟨⟩
theorem final.tw17466797589350815985 : True := ⟨⟩
theorem final.tw17467591612392669157 : True := ⟨⟩
theorem final.tw17469831906820271125 : True := ⟨⟩
theorem final.tw17470169565406381875 : True := ⟨⟩
theorem final.tw17500704194622147636 : True := ⟨⟩
theorem final.tw17504587829303871878 : True := ⟨⟩
theorem final.tw17509794697889915685 : True := ⟨⟩
theorem final.tw17530486881934591621 : True := ⟨⟩
theorem final.tw17545344049919613227 : True := ⟨⟩
theorem final.tw17550402789767053229 : True := ⟨⟩
theorem final.tw17553915027894057432 : True := ⟨⟩
theorem final.tw17558434769859466046 : True := ⟨⟩
theorem final.tw17566081406654727350 : True := ⟨⟩
theorem final.tw17582917659403152680 : True := ⟨⟩
theorem final.tw17603491640193073671 : True := ⟨⟩
theorem final.tw17603693522754296295 : True := ⟨⟩
theorem final.tw17626343259830387276 : True := ⟨⟩
theorem final.tw1763134279656999561 : True := ⟨⟩
theorem final.tw17670737959054164610 : True := ⟨⟩
theorem final.tw17676216381193436217 : True := ⟨⟩
theorem final.tw1767766388356978940 : True := ⟨⟩
theorem final.tw17695140317198724966 : True := ⟨⟩
theorem final.tw17705674319381798748 : True := ⟨⟩
theorem final.tw17709472373720429246 : True := ⟨⟩
theorem final.tw17719774315198158684 : True := ⟨⟩
theorem final.tw17720585068049885484 : True := ⟨⟩
theorem final.tw17729776740003046326 : True := ⟨⟩
theorem final.tw17760728435942343324 : True := ⟨⟩
theorem final.tw17795520440141544005 : True := ⟨⟩
theorem final.tw17802164238516444147 : True := ⟨⟩
theorem final.tw17803981208475232141 : True := ⟨⟩
theorem final.tw17808083240501529409 : True := ⟨⟩
theorem final.tw17824132219493680282 : True := ⟨⟩
theorem final.tw17850824801949377167 : True := ⟨⟩
theorem final.tw17873030957218211813 : True := ⟨⟩
theorem final.tw17879718311157775650 : True := ⟨⟩
theorem final.tw17897890680846628611 : True := ⟨⟩
theorem final.tw17901554314227848745 : True := ⟨⟩
theorem final.tw17906251651433466956 : True := ⟨⟩
theorem final.tw17909040707842632718 : True := ⟨⟩
theorem final.tw17920700181158250886 : True := ⟨⟩
theorem final.tw17930503770982221751 : True := ⟨⟩
theorem final.tw17934186173019492405 : True := ⟨⟩
theorem final.tw17944801503614865249 : True := ⟨⟩
theorem final.tw17951112728021898439 : True := ⟨⟩
theorem final.tw18014999453988926877 : True := ⟨⟩
theorem final.tw18016225678640273874 : True := ⟨⟩
theorem final.tw18018635222626715140 : True := ⟨⟩
theorem final.tw18026312885207256928 : True := ⟨⟩
theorem final.tw1803139404048213351 : True := ⟨⟩
theorem final.tw18043354428012282186 : True := ⟨⟩
theorem final.tw1807292130814547012 : True := ⟨⟩
theorem final.tw18073175538332358094 : True := ⟨⟩
theorem final.tw18078331229760627357 : True := ⟨⟩
theorem final.tw18078707001833623592 : True := ⟨⟩
theorem final.tw18088646001538774332 : True := ⟨⟩
theorem final.tw18091283559713632137 : True := ⟨⟩
theorem final.tw18100262974385399674 : True := ⟨⟩
theorem final.tw18109169822893168284 : True := ⟨⟩
theorem final.tw18117750947301908491 : True := ⟨⟩
theorem final.tw18124789351468440267 : True := ⟨⟩
theorem final.tw18132660915919845555 : True := ⟨⟩
theorem final.tw18134077775582753195 : True := ⟨⟩
theorem final.tw1814489462105293161 : True := ⟨⟩
theorem final.tw18171931540448481011 : True := ⟨⟩
theorem final.tw18175649675151953347 : True := ⟨⟩
theorem final.tw18206413180350993071 : True := ⟨⟩
theorem final.tw18209651382716861065 : True := ⟨⟩
theorem final.tw18210132001212840599 : True := ⟨⟩
theorem final.tw18240636523137473898 : True := ⟨⟩
theorem final.tw18256969790149416818 : True := ⟨⟩
theorem final.tw18263178374938755917 : True := ⟨⟩
theorem final.tw18270471726374795716 : True := ⟨⟩
theorem final.tw18282208454184623712 : True := ⟨⟩
theorem final.tw18309510468732470755 : True := ⟨⟩
theorem final.tw18321726885412430987 : True := ⟨⟩
theorem final.tw18333122673250038332 : True := ⟨⟩
theorem final.tw18335879558622483116 : True := ⟨⟩
theorem final.tw18341050448917833586 : True := ⟨⟩
theorem final.tw18385467660760850983 : True := ⟨⟩
theorem final.tw18415945428865440635 : True := ⟨⟩
theorem final.tw18425918669502787056 : True := ⟨⟩
theorem final.tw18443530126623473481 : True := ⟨⟩
theorem final.tw18445564810647810139 : True := ⟨⟩
theorem final.tw1853158321827145558 : True := ⟨⟩
theorem final.tw1864316632754329368 : True := ⟨⟩
theorem final.tw1870604113638288131 : True := ⟨⟩
theorem final.tw1907219575792963588 : True := ⟨⟩
theorem final.tw1916697967764010279 : True := ⟨⟩
theorem final.tw1924455818994780302 : True := ⟨⟩
theorem final.tw1940934345074075181 : True := ⟨⟩
theorem final.tw1962758958208884617 : True := ⟨⟩
theorem final.tw1990043790559246027 : True := ⟨⟩
theorem final.tw1991012807919249960 : True := ⟨⟩
theorem final.tw201284711899435429 : True := ⟨⟩
theorem final.tw2042380802555372377 : True := ⟨⟩
theorem final.tw2046714869806912375 : True := ⟨⟩
theorem final.tw2047987001864453059 : True := ⟨⟩
theorem final.tw2054620920671780340 : True := ⟨⟩
theorem final.tw2056072548178894962 : True := ⟨⟩
theorem final.tw2069467211432913521 : True := ⟨⟩
theorem final.tw2087139870280138972 : True := ⟨⟩
theorem final.tw2102215378682248267 : True := ⟨⟩
theorem final.tw2104488683821276860 : True := ⟨⟩
theorem final.tw2117453587529596892 : True := ⟨⟩
theorem final.tw214809208822453141 : True := ⟨⟩
theorem final.tw2149918363426570505 : True := ⟨⟩
theorem final.tw2167434960708656226 : True := ⟨⟩
theorem final.tw2172402693216028220 : True := ⟨⟩
theorem final.tw2191329549946351115 : True := ⟨⟩
theorem final.tw2191496003128243387 : True := ⟨⟩
theorem final.tw2205337207617418951 : True := ⟨⟩
theorem final.tw2205634397204087663 : True := ⟨⟩
theorem final.tw2241769808342033113 : True := ⟨⟩
theorem final.tw2243640175429012192 : True := ⟨⟩
theorem final.tw2257927223714717778 : True := ⟨⟩
theorem final.tw2278869436014190579 : True := ⟨⟩
theorem final.tw2280629716529014530 : True := ⟨⟩
theorem final.tw2321079126958112427 : True := ⟨⟩
theorem final.tw2321552076407377074 : True := ⟨⟩
theorem final.tw2337425775188601024 : True := ⟨⟩
theorem final.tw2351780836226153910 : True := ⟨⟩
theorem final.tw2361914309452169496 : True := ⟨⟩
theorem final.tw2380899685406098013 : True := ⟨⟩
theorem final.tw2382707583299530751 : True := ⟨⟩
theorem final.tw2386575008030454250 : True := ⟨⟩
theorem final.tw2401498977991668038 : True := ⟨⟩
theorem final.tw240182720594545795 : True := ⟨⟩
theorem final.tw2452859651255092558 : True := ⟨⟩
theorem final.tw24642197285443885 : True := ⟨⟩
theorem final.tw2540090075640739688 : True := ⟨⟩
theorem final.tw2554477461950841771 : True := ⟨⟩
theorem final.tw2625501735430683224 : True := ⟨⟩
theorem final.tw2640095638823392187 : True := ⟨⟩
theorem final.tw2642709371127534554 : True := ⟨⟩
theorem final.tw2646681508935698352 : True := ⟨⟩
theorem final.tw2654358823210702117 : True := ⟨⟩
theorem final.tw2666047259498594565 : True := ⟨⟩
theorem final.tw2672478281966032744 : True := ⟨⟩
theorem final.tw2673220388784927320 : True := ⟨⟩
theorem final.tw2674754084251863373 : True := ⟨⟩
theorem final.tw2705205698923856409 : True := ⟨⟩
theorem final.tw2705244643275445994 : True := ⟨⟩
theorem final.tw2712558364757893831 : True := ⟨⟩
theorem final.tw2724676525637971426 : True := ⟨⟩
theorem final.tw272712490305910894 : True := ⟨⟩
theorem final.tw2732603170972290679 : True := ⟨⟩
theorem final.tw2733928711496653908 : True := ⟨⟩
theorem final.tw2735852446978453560 : True := ⟨⟩
theorem final.tw2764195235939173689 : True := ⟨⟩
theorem final.tw277078744194690050 : True := ⟨⟩
theorem final.tw2780607334213947381 : True := ⟨⟩
theorem final.tw2792943816541026438 : True := ⟨⟩
theorem final.tw2826380514477805101 : True := ⟨⟩
theorem final.tw2840582301450571742 : True := ⟨⟩
theorem final.tw2858172643359432895 : True := ⟨⟩
theorem final.tw2872840675098700719 : True := ⟨⟩
theorem final.tw2873996453669049586 : True := ⟨⟩
theorem final.tw287828382617699704 : True := ⟨⟩
theorem final.tw2882951695889079411 : True := ⟨⟩
theorem final.tw2903795290760829140 : True := ⟨⟩
theorem final.tw2927459612573970097 : True := ⟨⟩
theorem final.tw293838362897950174 : True := ⟨⟩
theorem final.tw2939943605827975321 : True := ⟨⟩
theorem final.tw2956332391171996519 : True := ⟨⟩
theorem final.tw2968333932907479719 : True := ⟨⟩
theorem final.tw3011234457725492117 : True := ⟨⟩
theorem final.tw3018377163525281632 : True := ⟨⟩
theorem final.tw3038555043006448583 : True := ⟨⟩
theorem final.tw3062366105699381213 : True := ⟨⟩
theorem final.tw309825191379012387 : True := ⟨⟩
theorem final.tw3153843199815580015 : True := ⟨⟩
theorem final.tw3154540833328947964 : True := ⟨⟩
theorem final.tw3191209566099736879 : True := ⟨⟩
theorem final.tw320977072341628269 : True := ⟨⟩
theorem final.tw3215408632179703592 : True := ⟨⟩
theorem final.tw3215508444045181267 : True := ⟨⟩
theorem final.tw3233455987671080525 : True := ⟨⟩
theorem final.tw3244841047014955517 : True := ⟨⟩
theorem final.tw3268456759003779936 : True := ⟨⟩
theorem final.tw3268801115549755241 : True := ⟨⟩
theorem final.tw327804048879480523 : True := ⟨⟩
theorem final.tw328207392372845984 : True := ⟨⟩
theorem final.tw3284648413635366002 : True := ⟨⟩
theorem final.tw3297810478764210625 : True := ⟨⟩
theorem final.tw3299347260448351985 : True := ⟨⟩
theorem final.tw3307739722061211303 : True := ⟨⟩
theorem final.tw3342102113775841517 : True := ⟨⟩
theorem final.tw3359111795751336795 : True := ⟨⟩
theorem final.tw3384860348465029522 : True := ⟨⟩
theorem final.tw3386430849454286035 : True := ⟨⟩
theorem final.tw3396835954446963980 : True := ⟨⟩
theorem final.tw3399429218456920144 : True := ⟨⟩
theorem final.tw3434568494873015301 : True := ⟨⟩
theorem final.tw3443538740036168401 : True := ⟨⟩
theorem final.tw3461577037992444307 : True := ⟨⟩
theorem final.tw3477953164056872788 : True := ⟨⟩
theorem final.tw3480985952241640262 : True := ⟨⟩
theorem final.tw3488312210176098797 : True := ⟨⟩
theorem final.tw351647383362148497 : True := ⟨⟩
theorem final.tw3549510782490179937 : True := ⟨⟩
theorem final.tw3566608386853725925 : True := ⟨⟩
theorem final.tw3604459783331421354 : True := ⟨⟩
theorem final.tw3605332730968473410 : True := ⟨⟩
theorem final.tw3619555724634058376 : True := ⟨⟩
theorem final.tw3620508677439576389 : True := ⟨⟩
theorem final.tw3634377893498413333 : True := ⟨⟩
theorem final.tw3639204771478735631 : True := ⟨⟩
theorem final.tw3648285242281479466 : True := ⟨⟩
theorem final.tw3648678833678371261 : True := ⟨⟩
theorem final.tw3651465948642542242 : True := ⟨⟩
theorem final.tw3664289199022595240 : True := ⟨⟩
theorem final.tw3674315478545736259 : True := ⟨⟩
theorem final.tw3676227518898338262 : True := ⟨⟩
theorem final.tw3676795932780261704 : True := ⟨⟩
theorem final.tw3688201378583980008 : True := ⟨⟩
theorem final.tw3702699568057052717 : True := ⟨⟩
theorem final.tw371333951674666914 : True := ⟨⟩
theorem final.tw3717086619008077769 : True := ⟨⟩
theorem final.tw3718498213968779698 : True := ⟨⟩
theorem final.tw3747968469854975610 : True := ⟨⟩
theorem final.tw3792233634125160185 : True := ⟨⟩
theorem final.tw3795370793634241106 : True := ⟨⟩
theorem final.tw3801858048873832887 : True := ⟨⟩
theorem final.tw3806664511840890199 : True := ⟨⟩
theorem final.tw3823240512155433300 : True := ⟨⟩
theorem final.tw3825475041718305107 : True := ⟨⟩
theorem final.tw3836588249125764491 : True := ⟨⟩
theorem final.tw3840803376013346208 : True := ⟨⟩
theorem final.tw386717067223236074 : True := ⟨⟩
theorem final.tw3868181183794768121 : True := ⟨⟩
theorem final.tw3870630535055166121 : True := ⟨⟩
theorem final.tw3880914865133376805 : True := ⟨⟩
theorem final.tw3925039905068282176 : True := ⟨⟩
theorem final.tw3931139125004063732 : True := ⟨⟩
theorem final.tw3931464424397808523 : True := ⟨⟩
theorem final.tw3936246226047674485 : True := ⟨⟩
theorem final.tw3936320461161993380 : True := ⟨⟩
theorem final.tw3936928150529038069 : True := ⟨⟩
theorem final.tw3936982833660845977 : True := ⟨⟩
theorem final.tw3941877316197656810 : True := ⟨⟩
theorem final.tw4002886519732478761 : True := ⟨⟩
theorem final.tw4011487493638068862 : True := ⟨⟩
theorem final.tw4023149660156551754 : True := ⟨⟩
theorem final.tw4042677262297476922 : True := ⟨⟩
theorem final.tw4071895913978413191 : True := ⟨⟩
theorem final.tw4099958043619684154 : True := ⟨⟩
theorem final.tw4103850678935265063 : True := ⟨⟩
theorem final.tw4105527261936353853 : True := ⟨⟩
theorem final.tw4109722208564575693 : True := ⟨⟩
theorem final.tw4113752316972050158 : True := ⟨⟩
theorem final.tw4142987303094263458 : True := ⟨⟩
theorem final.tw4148469942328469513 : True := ⟨⟩
theorem final.tw4199637082909442885 : True := ⟨⟩
theorem final.tw420673872260622020 : True := ⟨⟩
theorem final.tw4215694113837506058 : True := ⟨⟩
theorem final.tw4218283207341950518 : True := ⟨⟩
theorem final.tw4230954347931630781 : True := ⟨⟩
theorem final.tw4231731959701284245 : True := ⟨⟩
theorem final.tw4233563099671912912 : True := ⟨⟩
theorem final.tw4242494967589527769 : True := ⟨⟩
theorem final.tw4244919357938970323 : True := ⟨⟩
theorem final.tw4286641480978020330 : True := ⟨⟩
theorem final.tw4307971208178354273 : True := ⟨⟩
theorem final.tw431324274429501512 : True := ⟨⟩
theorem final.tw4322747558619495331 : True := ⟨⟩
theorem final.tw4330976905765534881 : True := ⟨⟩
theorem final.tw4347894081283466992 : True := ⟨⟩
theorem final.tw4388548718641996207 : True := ⟨⟩
theorem final.tw4392824868884988732 : True := ⟨⟩
theorem final.tw4401232885084960236 : True := ⟨⟩
theorem final.tw4419666161607146520 : True := ⟨⟩
theorem final.tw4440930179876063636 : True := ⟨⟩
theorem final.tw4442584127813358868 : True := ⟨⟩
theorem final.tw4449868626266935018 : True := ⟨⟩
theorem final.tw4477894701127151756 : True := ⟨⟩
theorem final.tw4505568696271648692 : True := ⟨⟩
theorem final.tw4525769927309502495 : True := ⟨⟩
theorem final.tw4528829327937641964 : True := ⟨⟩
theorem final.tw4534226559784194491 : True := ⟨⟩
theorem final.tw4549832500920305672 : True := ⟨⟩
theorem final.tw4569598347884217010 : True := ⟨⟩
theorem final.tw457487396237478446 : True := ⟨⟩
theorem final.tw4581646556989886851 : True := ⟨⟩
theorem final.tw4611890594408092775 : True := ⟨⟩
theorem final.tw4672131035066695583 : True := ⟨⟩
theorem final.tw4684499254375933610 : True := ⟨⟩
theorem final.tw4684833621079587295 : True := ⟨⟩
theorem final.tw4689378356768041090 : True := ⟨⟩
theorem final.tw4735494928415244778 : True := ⟨⟩
theorem final.tw4792372095948761230 : True := ⟨⟩
theorem final.tw4803777118526229166 : True := ⟨⟩
theorem final.tw4812618328182311497 : True := ⟨⟩
theorem final.tw4852174108514119891 : True := ⟨⟩
theorem final.tw4888937455742670783 : True := ⟨⟩
theorem final.tw4896042837131094601 : True := ⟨⟩
theorem final.tw490598620533316918 : True := ⟨⟩
theorem final.tw4933414253203966906 : True := ⟨⟩
theorem final.tw4933781543157507245 : True := ⟨⟩
theorem final.tw4941518728927537897 : True := ⟨⟩
theorem final.tw4961356826814059011 : True := ⟨⟩
theorem final.tw4970647661392041927 : True := ⟨⟩
theorem final.tw4972727467360259690 : True := ⟨⟩
theorem final.tw4977567724607907166 : True := ⟨⟩
theorem final.tw4978577268980519545 : True := ⟨⟩
theorem final.tw4979452831251284307 : True := ⟨⟩
theorem final.tw4980668132032380492 : True := ⟨⟩
theorem final.tw5002704269191557300 : True := ⟨⟩
theorem final.tw5013757051082992156 : True := ⟨⟩
theorem final.tw5016004279495742759 : True := ⟨⟩
theorem final.tw5030479570813374626 : True := ⟨⟩
theorem final.tw504096057067478995 : True := ⟨⟩
theorem final.tw5051526369596169145 : True := ⟨⟩
theorem final.tw5074547418572946833 : True := ⟨⟩
theorem final.tw5089064438980251878 : True := ⟨⟩
theorem final.tw5115272948080582075 : True := ⟨⟩
theorem final.tw5116943118672203541 : True := ⟨⟩
theorem final.tw5117254061783847119 : True := ⟨⟩
theorem final.tw5140568992057140631 : True := ⟨⟩
theorem final.tw5158216974741410468 : True := ⟨⟩
theorem final.tw5161072143912979897 : True := ⟨⟩
theorem final.tw518685564630300630 : True := ⟨⟩
theorem final.tw5189631769262798166 : True := ⟨⟩
theorem final.tw5194651091858292416 : True := ⟨⟩
theorem final.tw524186510543857213 : True := ⟨⟩
theorem final.tw5276009768488258565 : True := ⟨⟩
theorem final.tw5288782266098877138 : True := ⟨⟩
theorem final.tw5311618975485438858 : True := ⟨⟩
theorem final.tw5321030518199726322 : True := ⟨⟩
theorem final.tw5331493071257195689 : True := ⟨⟩
theorem final.tw5389411940215200779 : True := ⟨⟩
theorem final.tw5401274072143798051 : True := ⟨⟩
theorem final.tw540905259263927105 : True := ⟨⟩
theorem final.tw5413162507762818751 : True := ⟨⟩
theorem final.tw5415015098129623477 : True := ⟨⟩
theorem final.tw5420407697748589269 : True := ⟨⟩
theorem final.tw5436358417647010654 : True := ⟨⟩
theorem final.tw5448738889633175817 : True := ⟨⟩
theorem final.tw5458885026635738522 : True := ⟨⟩
theorem final.tw5488104550771123751 : True := ⟨⟩
theorem final.tw549768882561414696 : True := ⟨⟩
theorem final.tw5513875924864653303 : True := ⟨⟩
theorem final.tw5532825897094344247 : True := ⟨⟩
theorem final.tw5535041733461404723 : True := ⟨⟩
theorem final.tw5558928962028114978 : True := ⟨⟩
theorem final.tw5560218833007698151 : True := ⟨⟩
theorem final.tw5584496370499055975 : True := ⟨⟩
theorem final.tw5610147969454488240 : True := ⟨⟩
theorem final.tw5620465601294609086 : True := ⟨⟩
theorem final.tw5639444813600201681 : True := ⟨⟩
theorem final.tw5643265835826458355 : True := ⟨⟩
theorem final.tw566928310568437219 : True := ⟨⟩
theorem final.tw5671994592135593808 : True := ⟨⟩
theorem final.tw5709511036914207694 : True := ⟨⟩
theorem final.tw5718155059003099199 : True := ⟨⟩
theorem final.tw5719390155175137816 : True := ⟨⟩
theorem final.tw5722184726291003456 : True := ⟨⟩
theorem final.tw5737731167155888296 : True := ⟨⟩
theorem final.tw5742311491720084748 : True := ⟨⟩
theorem final.tw5753829924320200229 : True := ⟨⟩
theorem final.tw5763673380221481676 : True := ⟨⟩
theorem final.tw5771011558445846284 : True := ⟨⟩
theorem final.tw5811813258027499055 : True := ⟨⟩
theorem final.tw5814989788615694610 : True := ⟨⟩
theorem final.tw5837455464344425037 : True := ⟨⟩
theorem final.tw5837814974287709503 : True := ⟨⟩
theorem final.tw5867727669913414804 : True := ⟨⟩
theorem final.tw5875583310089412846 : True := ⟨⟩
theorem final.tw5880658404268043043 : True := ⟨⟩
theorem final.tw5886658202560417941 : True := ⟨⟩
theorem final.tw5888778647585363276 : True := ⟨⟩
theorem final.tw5911585744144902080 : True := ⟨⟩
theorem final.tw5911986397072636141 : True := ⟨⟩
theorem final.tw5939816915161120817 : True := ⟨⟩
theorem final.tw5991860299265673746 : True := ⟨⟩
theorem final.tw6005365568203925021 : True := ⟨⟩
theorem final.tw6023427397408663799 : True := ⟨⟩
theorem final.tw6028682145041479106 : True := ⟨⟩
theorem final.tw6034828572872580946 : True := ⟨⟩
theorem final.tw604259592467036408 : True := ⟨⟩
theorem final.tw6048862271150430929 : True := ⟨⟩
theorem final.tw6090495070513234986 : True := ⟨⟩
theorem final.tw6105418481422992351 : True := ⟨⟩
theorem final.tw610720381277184393 : True := ⟨⟩
theorem final.tw6109497399042551056 : True := ⟨⟩
theorem final.tw6117964983535607444 : True := ⟨⟩
theorem final.tw6123123012830427051 : True := ⟨⟩
theorem final.tw6126973405997381142 : True := ⟨⟩
theorem final.tw6130712038408184586 : True := ⟨⟩
theorem final.tw6141204725952769983 : True := ⟨⟩
theorem final.tw6149937977418758308 : True := ⟨⟩
theorem final.tw6157068723205548028 : True := ⟨⟩
theorem final.tw6158865224554252413 : True := ⟨⟩
theorem final.tw6180273339700810006 : True := ⟨⟩
theorem final.tw6191292786479608422 : True := ⟨⟩
theorem final.tw6192791758537642759 : True := ⟨⟩
theorem final.tw6197677828616337916 : True := ⟨⟩
theorem final.tw6198051033521412612 : True := ⟨⟩
theorem final.tw6210968012304685554 : True := ⟨⟩
theorem final.tw6255973331637653875 : True := ⟨⟩
theorem final.tw6294161303214482241 : True := ⟨⟩
theorem final.tw6304142677640949180 : True := ⟨⟩
theorem final.tw630828510212621055 : True := ⟨⟩
theorem final.tw6310168104245602047 : True := ⟨⟩
theorem final.tw6317172055428654615 : True := ⟨⟩
theorem final.tw6393073497792709979 : True := ⟨⟩
theorem final.tw6395861958570744575 : True := ⟨⟩
theorem final.tw6395914871137024564 : True := ⟨⟩
theorem final.tw6399723167748231226 : True := ⟨⟩
theorem final.tw6400821650403597412 : True := ⟨⟩
theorem final.tw6403804439617539318 : True := ⟨⟩
theorem final.tw6408627558038916697 : True := ⟨⟩
theorem final.tw642983991625715451 : True := ⟨⟩
theorem final.tw6433199691818536967 : True := ⟨⟩
theorem final.tw6445642972376607842 : True := ⟨⟩
theorem final.tw646725364705045616 : True := ⟨⟩
theorem final.tw6470143634502898520 : True := ⟨⟩
theorem final.tw6479332615661276018 : True := ⟨⟩
theorem final.tw6485163396411361998 : True := ⟨⟩
theorem final.tw6495404535843918149 : True := ⟨⟩
theorem final.tw6500785567611095774 : True := ⟨⟩
theorem final.tw651037034842897868 : True := ⟨⟩
theorem final.tw651069360786102502 : True := ⟨⟩
theorem final.tw6537598771212565981 : True := ⟨⟩
theorem final.tw654229803003505593 : True := ⟨⟩
theorem final.tw6548196926633324145 : True := ⟨⟩
theorem final.tw6575714964538457381 : True := ⟨⟩
theorem final.tw6588032572039900883 : True := ⟨⟩
theorem final.tw6603416985259125135 : True := ⟨⟩
theorem final.tw6606378570343130875 : True := ⟨⟩
theorem final.tw6611186642533864005 : True := ⟨⟩
theorem final.tw6626107474986424685 : True := ⟨⟩
theorem final.tw6627534881075276826 : True := ⟨⟩
theorem final.tw6638249740952437971 : True := ⟨⟩
theorem final.tw6641098700771079628 : True := ⟨⟩
theorem final.tw6644727335450665063 : True := ⟨⟩
theorem final.tw6649337807117433992 : True := ⟨⟩
theorem final.tw6687585294528795790 : True := ⟨⟩
theorem final.tw6732259038133232107 : True := ⟨⟩
theorem final.tw6754861164810569688 : True := ⟨⟩
theorem final.tw6771585750997033112 : True := ⟨⟩
theorem final.tw6774310451757050460 : True := ⟨⟩
theorem final.tw6807297751953959065 : True := ⟨⟩
theorem final.tw6828382944529106744 : True := ⟨⟩
theorem final.tw6831088203221186246 : True := ⟨⟩
theorem final.tw6851635123980954848 : True := ⟨⟩
theorem final.tw6857649435394478537 : True := ⟨⟩
theorem final.tw6858699216773421007 : True := ⟨⟩
theorem final.tw6873886227903350685 : True := ⟨⟩
theorem final.tw6886013543448097282 : True := ⟨⟩
theorem final.tw6902782547640087715 : True := ⟨⟩
theorem final.tw6914198462833053720 : True := ⟨⟩
theorem final.tw6914771820346824484 : True := ⟨⟩
theorem final.tw6915729489893552298 : True := ⟨⟩
theorem final.tw6916487152113757813 : True := ⟨⟩
theorem final.tw6925224339659894616 : True := ⟨⟩
theorem final.tw6974360828241128399 : True := ⟨⟩
theorem final.tw6995599554730703397 : True := ⟨⟩
theorem final.tw7009362083800865533 : True := ⟨⟩
theorem final.tw7014990149805543887 : True := ⟨⟩
theorem final.tw701692553833546065 : True := ⟨⟩
theorem final.tw7018545124420023189 : True := ⟨⟩
theorem final.tw702126843905685535 : True := ⟨⟩
theorem final.tw7042804238800614852 : True := ⟨⟩
theorem final.tw7048471047989479634 : True := ⟨⟩
theorem final.tw7053884114093955751 : True := ⟨⟩
theorem final.tw7059414186104199632 : True := ⟨⟩
theorem final.tw7073346824454676033 : True := ⟨⟩
theorem final.tw7091158148372881714 : True := ⟨⟩
theorem final.tw7103071557968147758 : True := ⟨⟩
theorem final.tw711753044238566856 : True := ⟨⟩
theorem final.tw7121461170854506682 : True := ⟨⟩
theorem final.tw7124210844203693216 : True := ⟨⟩
theorem final.tw7141247537977813868 : True := ⟨⟩
theorem final.tw7157494796241977561 : True := ⟨⟩
theorem final.tw7159592494110609706 : True := ⟨⟩
theorem final.tw7172733740675220764 : True := ⟨⟩
theorem final.tw7181538497367391721 : True := ⟨⟩
theorem final.tw7203663113152857992 : True := ⟨⟩
theorem final.tw7217183578361802290 : True := ⟨⟩
theorem final.tw7250161013048257652 : True := ⟨⟩
theorem final.tw7275496947657885233 : True := ⟨⟩
theorem final.tw7288121319669486985 : True := ⟨⟩
theorem final.tw7298841898522304908 : True := ⟨⟩
theorem final.tw7325223717066525295 : True := ⟨⟩
theorem final.tw7326528019526072937 : True := ⟨⟩
theorem final.tw7328899707038258295 : True := ⟨⟩
theorem final.tw7340242223702134095 : True := ⟨⟩
theorem final.tw7343667913038955979 : True := ⟨⟩
theorem final.tw738721121300774409 : True := ⟨⟩
theorem final.tw7389955962472228715 : True := ⟨⟩
theorem final.tw7404238278362844513 : True := ⟨⟩
theorem final.tw7418138010301858417 : True := ⟨⟩
theorem final.tw7421639907970033554 : True := ⟨⟩
theorem final.tw7436292968995736572 : True := ⟨⟩
theorem final.tw7440157692067459133 : True := ⟨⟩
theorem final.tw7448629430799165286 : True := ⟨⟩
theorem final.tw7473592055311338256 : True := ⟨⟩
theorem final.tw7484793527761559997 : True := ⟨⟩
theorem final.tw7510096065974059300 : True := ⟨⟩
theorem final.tw7511173690161008258 : True := ⟨⟩
theorem final.tw7521529732563534489 : True := ⟨⟩
theorem final.tw7523442630923663443 : True := ⟨⟩
theorem final.tw7533784107526160375 : True := ⟨⟩
theorem final.tw7542923308735110344 : True := ⟨⟩
theorem final.tw7557766664204154892 : True := ⟨⟩
theorem final.tw7584510247109931186 : True := ⟨⟩
theorem final.tw7590621624990511771 : True := ⟨⟩
theorem final.tw7662458636610063200 : True := ⟨⟩
theorem final.tw766642463755178460 : True := ⟨⟩
theorem final.tw7671692773119117977 : True := ⟨⟩
theorem final.tw7674043568984416598 : True := ⟨⟩
theorem final.tw768287674293086642 : True := ⟨⟩
theorem final.tw7696433628538851831 : True := ⟨⟩
theorem final.tw7702482674210919299 : True := ⟨⟩
theorem final.tw7711765370386156740 : True := ⟨⟩
theorem final.tw7718526710485391344 : True := ⟨⟩
theorem final.tw7731510019527885884 : True := ⟨⟩
theorem final.tw7745546597526165244 : True := ⟨⟩
theorem final.tw7750760841996414401 : True := ⟨⟩
theorem final.tw7764406058193025331 : True := ⟨⟩
theorem final.tw7766246707170231122 : True := ⟨⟩
theorem final.tw7793451892934577263 : True := ⟨⟩
theorem final.tw7824440296963523354 : True := ⟨⟩
theorem final.tw7826605779101756453 : True := ⟨⟩
theorem final.tw7829837928398174920 : True := ⟨⟩
theorem final.tw7833555843028600737 : True := ⟨⟩
theorem final.tw7833768916911220442 : True := ⟨⟩
theorem final.tw7843005481885371071 : True := ⟨⟩
theorem final.tw7843412029731102643 : True := ⟨⟩
theorem final.tw7847801984549298289 : True := ⟨⟩
theorem final.tw7849055961647869931 : True := ⟨⟩
theorem final.tw7861068659618825984 : True := ⟨⟩
theorem final.tw7871769968775231162 : True := ⟨⟩
theorem final.tw7878490571031677159 : True := ⟨⟩
theorem final.tw7911462216747631511 : True := ⟨⟩
theorem final.tw7918635017951226886 : True := ⟨⟩
theorem final.tw7933740794168092203 : True := ⟨⟩
theorem final.tw7938526410212431067 : True := ⟨⟩
theorem final.tw7946875952208216686 : True := ⟨⟩
theorem final.tw7947490175647265672 : True := ⟨⟩
theorem final.tw7949179710992088183 : True := ⟨⟩
theorem final.tw7949505289263936757 : True := ⟨⟩
theorem final.tw7982406945563465659 : True := ⟨⟩
theorem final.tw8059024241239522445 : True := ⟨⟩
theorem final.tw8071382900924043592 : True := ⟨⟩
theorem final.tw807308427763349152 : True := ⟨⟩
theorem final.tw8083260283600565029 : True := ⟨⟩
theorem final.tw8109058531529322948 : True := ⟨⟩
theorem final.tw8135674296552172309 : True := ⟨⟩
theorem final.tw8137471504528957802 : True := ⟨⟩
theorem final.tw8146383184080210935 : True := ⟨⟩
theorem final.tw8149429332845114645 : True := ⟨⟩
theorem final.tw8158537018381303425 : True := ⟨⟩
theorem final.tw816540413618090020 : True := ⟨⟩
theorem final.tw819163456452780238 : True := ⟨⟩
theorem final.tw8196545804004766000 : True := ⟨⟩
theorem final.tw8203154284121062503 : True := ⟨⟩
theorem final.tw8277155828335949306 : True := ⟨⟩
theorem final.tw8286449743198589910 : True := ⟨⟩
theorem final.tw8298925394753500334 : True := ⟨⟩
theorem final.tw8319050746316397518 : True := ⟨⟩
theorem final.tw8327256584982198893 : True := ⟨⟩
theorem final.tw8335345555407405821 : True := ⟨⟩
theorem final.tw8350424697523207772 : True := ⟨⟩
theorem final.tw8357147266643125806 : True := ⟨⟩
theorem final.tw8379826718447848689 : True := ⟨⟩
theorem final.tw8385947636691801988 : True := ⟨⟩
theorem final.tw8387401590369894660 : True := ⟨⟩
theorem final.tw8425546621259409239 : True := ⟨⟩
theorem final.tw8437799617395678665 : True := ⟨⟩
theorem final.tw8445395933244764585 : True := ⟨⟩
theorem final.tw8461784783744334128 : True := ⟨⟩
theorem final.tw8494221389510286962 : True := ⟨⟩
theorem final.tw8502431511492158837 : True := ⟨⟩
theorem final.tw8504249788394277908 : True := ⟨⟩
theorem final.tw8510662616830322732 : True := ⟨⟩
theorem final.tw8525095208462052411 : True := ⟨⟩
theorem final.tw8534411378877904964 : True := ⟨⟩
theorem final.tw8543058232313407451 : True := ⟨⟩
theorem final.tw8568633749400116076 : True := ⟨⟩
theorem final.tw8594586580704903275 : True := ⟨⟩
theorem final.tw8595732399843530982 : True := ⟨⟩
theorem final.tw8607159386409264402 : True := ⟨⟩
theorem final.tw8620763348558937531 : True := ⟨⟩
theorem final.tw8626431433666001865 : True := ⟨⟩
theorem final.tw8631227879325413855 : True := ⟨⟩
theorem final.tw8634380131411928257 : True := ⟨⟩
theorem final.tw8640241798818709816 : True := ⟨⟩
theorem final.tw8658419982449086391 : True := ⟨⟩
theorem final.tw8664426482510907556 : True := ⟨⟩
theorem final.tw8679619320682309786 : True := ⟨⟩
theorem final.tw8716337728970934019 : True := ⟨⟩
theorem final.tw8735528935176008832 : True := ⟨⟩
theorem final.tw8741561895523666639 : True := ⟨⟩
theorem final.tw874318481141445242 : True := ⟨⟩
theorem final.tw8762036396747011047 : True := ⟨⟩
theorem final.tw8763288920390909998 : True := ⟨⟩
theorem final.tw8778144337500557168 : True := ⟨⟩
theorem final.tw8815593183609743062 : True := ⟨⟩
theorem final.tw8853226393150415788 : True := ⟨⟩
theorem final.tw8866837267778977968 : True := ⟨⟩
theorem final.tw8878108521458482711 : True := ⟨⟩
theorem final.tw8878404471928260689 : True := ⟨⟩
theorem final.tw8879119404054116266 : True := ⟨⟩
theorem final.tw888145109537212389 : True := ⟨⟩
theorem final.tw8893959669921378208 : True := ⟨⟩
theorem final.tw8927257420408783293 : True := ⟨⟩
theorem final.tw8956541503333826556 : True := ⟨⟩
theorem final.tw8957907444599240292 : True := ⟨⟩
theorem final.tw8970192344042157281 : True := ⟨⟩
theorem final.tw8980978677311967602 : True := ⟨⟩
theorem final.tw8983094371880723818 : True := ⟨⟩
theorem final.tw8985821819607752874 : True := ⟨⟩
theorem final.tw9014143675441534814 : True := ⟨⟩
theorem final.tw9027451854550268119 : True := ⟨⟩
theorem final.tw9047847415265903356 : True := ⟨⟩
theorem final.tw905902594052686745 : True := ⟨⟩
theorem final.tw9074268186883387818 : True := ⟨⟩
theorem final.tw9126048592727317795 : True := ⟨⟩
theorem final.tw9130987956835157205 : True := ⟨⟩
theorem final.tw9164177404319337304 : True := ⟨⟩
theorem final.tw9166643512566901719 : True := ⟨⟩
theorem final.tw9185436724222690198 : True := ⟨⟩
theorem final.tw9189305678260726929 : True := ⟨⟩
theorem final.tw9189427303333699170 : True := ⟨⟩
theorem final.tw9191572994397335708 : True := ⟨⟩
theorem final.tw9211692658967668430 : True := ⟨⟩
theorem final.tw9213718477803731888 : True := ⟨⟩
theorem final.tw9215884214247020788 : True := ⟨⟩
theorem final.tw9244911556928552402 : True := ⟨⟩
theorem final.tw9247242461720280419 : True := ⟨⟩
theorem final.tw9268682004109722360 : True := ⟨⟩
theorem final.tw9286357279443643112 : True := ⟨⟩
theorem final.tw931386363442647536 : True := ⟨⟩
theorem final.tw9323295915950350609 : True := ⟨⟩
theorem final.tw9337658393515618702 : True := ⟨⟩
theorem final.tw9346984843235399710 : True := ⟨⟩
theorem final.tw9378788683459093620 : True := ⟨⟩
theorem final.tw9404056537236846864 : True := ⟨⟩
theorem final.tw9482072429422738493 : True := ⟨⟩
theorem final.tw9509886633896405934 : True := ⟨⟩
theorem final.tw9523476839355828037 : True := ⟨⟩
theorem final.tw9528234265976988799 : True := ⟨⟩
theorem final.tw9545181196065306818 : True := ⟨⟩
theorem final.tw954828845405437352 : True := ⟨⟩
theorem final.tw955534659494221573 : True := ⟨⟩
theorem final.tw9571212941379925581 : True := ⟨⟩
theorem final.tw9572619015334347822 : True := ⟨⟩
theorem final.tw9585186345272048980 : True := ⟨⟩
theorem final.tw9587007058946260897 : True := ⟨⟩
theorem final.tw9595123428907424183 : True := ⟨⟩
theorem final.tw9619521827990560970 : True := ⟨⟩
theorem final.tw9642543529027260233 : True := ⟨⟩
theorem final.tw9662857894713640342 : True := ⟨⟩
theorem final.tw9681507029021437597 : True := ⟨⟩
theorem final.tw968365055315499810 : True := ⟨⟩
theorem final.tw9685336155754827887 : True := ⟨⟩
theorem final.tw9735239625325958699 : True := ⟨⟩
theorem final.tw9765166341050248088 : True := ⟨⟩
theorem final.tw977142313825115020 : True := ⟨⟩
theorem final.tw9773252080684515751 : True := ⟨⟩
theorem final.tw9773699992754314531 : True := ⟨⟩
theorem final.tw9786854753023996123 : True := ⟨⟩
theorem final.tw9788256078724583796 : True := ⟨⟩
theorem final.tw978887069100513413 : True := ⟨⟩
theorem final.tw9792164622811300759 : True := ⟨⟩
theorem final.tw9793730967393648613 : True := ⟨⟩
theorem final.tw9803920080950627584 : True := ⟨⟩
theorem final.tw980896202113289707 : True := ⟨⟩
theorem final.tw9816280823844487792 : True := ⟨⟩
theorem final.tw9833793431281919420 : True := ⟨⟩
theorem final.tw9851170292117515847 : True := ⟨⟩
theorem final.tw9882258787165780406 : True := ⟨⟩
theorem final.tw9916442776834923877 : True := ⟨⟩
theorem final.tw9917122500143052015 : True := ⟨⟩
theorem final.tw9917796009047001856 : True := ⟨⟩
theorem final.tw9926354135769274726 : True := ⟨⟩
theorem final.tw9941049382910627851 : True := ⟨⟩
theorem final.tw9944434579270133181 : True := ⟨⟩
theorem final.tw9975196697138163850 : True := ⟨⟩
theorem final.tw9976980276974966553 : True := ⟨⟩
theorem final.tw9983129932683646242 : True := ⟨⟩
set_option maxRecDepth 100000 in
set_option maxHeartbeats 8000000 in
set_option Elab.async true in
theorem final : PySem.Challenge.rw_sj0100_01.Holds := by
  w_on
  o_law
  k_head
  (case hw => w_witness2)
  exact law_walk
end Mine
end
theorem PySem.Challenge.cw_sj0100_01_holds : PySem.Challenge.rw_sj0100_01.Holds :=
  Mine.final
