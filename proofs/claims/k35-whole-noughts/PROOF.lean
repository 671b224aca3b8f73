import PyProof.Rows.All
import Wide.All
import OpenK.AllK
import Wide.FinOn
import HandS.ForMost
import HandS.Style
import KE.KStateDown
import HandS.Defaults
import HandS.Head0
import HandS.Head1
import HandS.Head2
import HandS.HeadEnd
import HandS.HeadHook1
import HandS.HeadHook2
import HandS.IsInst
import HandS.Wide
import HandS.WideBits
import HandS.RaiseMore
import HandS.NoneIn
import HandS.Conv
import KE.DataMinMax
import KE.SortData
import KE.GoesEnumKw
import HandS.SortKw
import PyProof.Rows.CallKwBuiltin
import KE.IntBitsLaws
import PyProof.Rows.RuleB_pow
import PySem.Challenge.RW_wordsquares_k35_whole_noughts_with_an_od
set_option Elab.async false
set_option Elab.async false
set_option linter.all false
set_option maxRecDepth 100000
set_option maxHeartbeats 0
set_option autoImplicit false
namespace WS
open PySem PySem.Spec PyProof.Rows L2
def topS (i : Nat) : Stmt := PySem.Challenge.pw_wordsquares_k35_whole_noughts_with_an_od.main.body.getD i (.Pass ⟨0, 0, 0, 0⟩)
def clS : Stmt := topS 31
/-! ### the head: facts by names -/
def dG (x : Str) (i : Nat) : He.DefD := ⟨(x, none), x, x, defArgs (topS i), defBody (topS i), defScope (topS i), [], []⟩
def dS (m q : Str) (i : Nat) : He.DefD := ⟨("Splitting", some m), m, q, defArgs (inClass clS i), defBody (inClass clS i), defScope (inClass clS i), [], []⟩
def hFn0 : List He.DefD := [dG "is_whole" 8, dG "is_between" 9, dG "power_of_two" 10, dG "twos" 11, dG "is_width" 12, dG "check_width" 13, dG "is_word" 14, dG "check_word" 15, dG "is_row" 16, dG "are_rows" 17, dG "turned_over" 18, dG "is_form_value" 19, dG "check_form" 20, dG "product_of" 21, dG "changed_by" 22, dG "table_by" 23, dG "inverse_of" 24, dG "size_of" 26, dG "unit_lists" 28, dG "root_of" 29, dG "root_by_steps" 30, dS "go" "Splitting.go" 2, dS "keep" "Splitting.keep" 6, dS "least" "Splitting.least" 1, dS "take_square" "Splitting.take_square" 3, dS "pair_step" "Splitting.pair_step" 4, dS "take_pair" "Splitting.take_pair" 5, dS "walk" "Splitting.walk" 7, dS "told" "Splitting.told" 8, dS "__init__" "Splitting.__init__" 0]
def hFn1 : List He.DefD := [dG "way_of" 32, dG "every_pieces" 33, dG "piece_part" 35, dG "whole_part" 36, dG "turns_table" 37, dG "count_by" 38, dG "count_of" 39, dG "how_often" 40, dG "odd_noughts_of" 41, dG "odd_noughts" 42, dG "_law_hash" 44, dG "_law_random" 45, dG "_law_two" 48, dG "_law_copied" 53, dG "_law_lists" 55, dG "_law_value" 54, dG "_law_listed" 56, dG "_law_drawn" 50, dG "_law_pieced" 51, dG "_law_form" 52, dG "_law_small" 57, dG "_law_moved" 58, dG "_law_small_right" 59, dG "_law_scales" 60, dG "_law_great_right" 61, dG "_law_cell" 46, dG "_law_generator" 47, dG "law" 62]
def hFn : List He.DefD := hFn0 ++ hFn1
def hFa0 : List He.Fa := [.free "len", .free "range", .free "sum", .free "enumerate", .free "isinstance", .free "int", .free "bool", .free "list", .free "max", .free "min", .free "abs", .free "zip", .free "sorted", .free "repr", .int "MOST_WIDTH" 64, .int "MOST_UNKNOWNS" 6, .glo "Splitting", .cls "Splitting", .mkr "Splitting", .noat "Splitting" "width", .noat "Splitting" "size", .noat "Splitting" "rows", .noat "Splitting" "change", .noat "Splitting" "left", .noat "Splitting" "found", .meth "Splitting" "go", .meth "Splitting" "keep", .meth "Splitting" "least", .meth "Splitting" "take_square", .meth "Splitting" "pair_step"]
def hFa1 : List He.Fa := [.meth "Splitting" "take_pair", .meth "Splitting" "walk", .meth "Splitting" "told", .glo "is_whole", .glo "is_between", .glo "power_of_two", .glo "twos", .glo "is_width", .glo "check_width", .glo "is_word", .glo "check_word", .glo "is_row", .glo "are_rows", .glo "turned_over", .glo "is_form_value", .glo "check_form", .glo "product_of", .glo "changed_by", .glo "table_by", .glo "inverse_of", .glo "size_of", .glo "unit_lists", .glo "root_of", .glo "root_by_steps", .glo "way_of", .glo "every_pieces", .glo "piece_part", .glo "whole_part", .glo "turns_table", .glo "count_by"]
def hFa2 : List He.Fa := [.glo "count_of", .glo "how_often", .glo "odd_noughts_of", .glo "odd_noughts", .glo "_law_hash", .glo "_law_random", .glo "_law_two", .glo "_law_copied", .glo "_law_lists", .glo "_law_value", .glo "_law_listed", .glo "_law_drawn", .glo "_law_pieced", .glo "_law_form", .glo "_law_small", .glo "_law_moved", .glo "_law_small_right", .glo "_law_scales", .glo "_law_great_right", .glo "_law_cell", .glo "_law_generator", .glo "law"]
def hFa : List He.Fa := hFa0 ++ hFa1 ++ hFa2
def hNm0 : List Str := ["FormError", "InvalidWidth", "InvalidWord", "InvalidForm", "MOST_WIDTH", "MOST_UNKNOWNS", "is_whole", "is_between", "power_of_two", "twos", "is_width", "check_width", "is_word", "check_word", "is_row", "are_rows", "turned_over", "is_form_value", "check_form", "product_of", "changed_by", "table_by", "inverse_of", "size_of", "unit_lists", "root_of", "root_by_steps", "Splitting", "way_of", "every_pieces"]
def hNm1 : List Str := ["piece_part", "whole_part", "turns_table", "count_by", "count_of", "how_often", "odd_noughts_of", "odd_noughts", "_law_hash", "_law_random", "_law_cell", "_law_generator", "_law_two", "_law_twos", "_law_drawn", "_law_pieced", "_law_form", "_law_copied", "_law_value", "_law_lists", "_law_listed", "_law_small", "_law_moved", "_law_small_right", "_law_scales", "_law_great_right"]
def hNm : List Str := hNm0 ++ hNm1
abbrev hR : PySem.W.OpenRow := PySem.W.OpenLaw.row PySem.Challenge.rw_wordsquares_k35_whole_noughts_with_an_od
abbrev hk : PySem.W.Hook := He.hookD 4 hFa hFn
def hob (s : PySem.W.SharedT) : He.AlD := He.obsDG 4 hFa hFn (HandSHeadRun.getT s)
theorem hob_eq (s : PySem.W.SharedT) : hob s = hk.obs s.abs := He.obsDG_eq (HandSHeadRun.getT_eq s)
theorem hrun (w : World) : HandSHeadRun.RunEq hR (PySem.W.view hR.prog [62]) hk hob 20000 hNm w := by
  intro os
  kernel_rfl
end WS
set_option autoImplicit false
set_option linter.all false
/-! Sums over 0 .. n - 1; sums of functions that change sign: squares and pairs of machine words. -/
namespace Sq
/-- the sum of f 0 .. f (n - 1) -/
def sm : Nat → (Int → Int) → Int
  | 0, _ => 0
  | n + 1, f => sm n f + f (n : Int)
theorem sm_congr {f g : Int → Int} : ∀ {n : Nat}, (∀ i : Nat, i < n → f (i : Int) = g (i : Int)) → sm n f = sm n g
  | 0, _ => rfl
  | n + 1, h => by
    show sm n f + f n = sm n g + g n
    rw [sm_congr (fun i hi => h i (by omega)), h n (by omega)]
theorem sm_ext {f g : Int → Int} {n : Nat} (h : ∀ x, f x = g x) : sm n f = sm n g := sm_congr fun i _ => h i
theorem sm_zero : ∀ n : Nat, sm n (fun _ => 0) = 0
  | 0 => rfl
  | n + 1 => by show sm n _ + 0 = 0; rw [sm_zero n]; rfl
theorem sm_const (c : Int) : ∀ n : Nat, sm n (fun _ => c) = (n : Int) * c
  | 0 => by simp [sm]
  | n + 1 => by
    show sm n _ + c = _
    rw [sm_const c n, Int.natCast_add, Int.add_mul]; simp
theorem sm_add (f g : Int → Int) : ∀ n : Nat, sm n (fun x => f x + g x) = sm n f + sm n g
  | 0 => rfl
  | n + 1 => by
    show sm n _ + (f n + g n) = sm n f + f n + (sm n g + g n)
    rw [sm_add f g n]; omega
theorem sm_mul (c : Int) (f : Int → Int) : ∀ n : Nat, sm n (fun x => c * f x) = c * sm n f
  | 0 => by simp [sm]
  | n + 1 => by
    show sm n _ + c * f n = c * (sm n f + f n)
    rw [sm_mul c f n, Int.mul_add]
theorem sm_neg (f : Int → Int) (n : Nat) : sm n (fun x => - f x) = - sm n f := by
  have h := sm_mul (-1) f n
  rw [sm_ext (g := fun x => -1 * f x) (fun x => by omega), h]; omega
theorem sm_comm (f : Int → Int → Int) (a : Nat) : ∀ b : Nat, sm a (fun x => sm b (fun y => f x y)) = sm b (fun y => sm a (fun x => f x y))
  | 0 => by show sm a (fun _ => 0) = 0; exact sm_zero a
  | b + 1 => by
    show sm a (fun x => sm b (fun y => f x y) + f x b) = sm b (fun y => sm a fun x => f x y) + sm a (fun x => f x b)
    rw [sm_add, sm_comm f a b]
/-- evens and odds -/
theorem sm_split (f : Int → Int) : ∀ n : Nat, sm (2 * n) f = sm n (fun y => f (2 * y)) + sm n (fun y => f (2 * y + 1))
  | 0 => rfl
  | n + 1 => by
    show sm (2 * n + 1 + 1) f = _
    show sm (2 * n) f + f ((2 * n : Nat) : Int) + f ((2 * n + 1 : Nat) : Int) = (sm n _ + f (2 * (n : Int))) + (sm n _ + f (2 * (n : Int) + 1))
    rw [sm_split f n, show ((2 * n : Nat) : Int) = 2 * (n : Int) by omega, show ((2 * n + 1 : Nat) : Int) = 2 * (n : Int) + 1 by omega]
    omega
theorem sm_cat (f : Int → Int) (a : Nat) : ∀ b : Nat, sm (a + b) f = sm a f + sm b (fun x => f (x + a))
  | 0 => by simp [sm]
  | b + 1 => by
    show sm (a + b) f + f ((a + b : Nat) : Int) = sm a f + (sm b _ + f ((b : Int) + a))
    rw [sm_cat f a b, show ((a + b : Nat) : Int) = (b : Int) + a by omega]; omega
/-- a whole period, begun anywhere -/
theorem sm_shift1 {f : Int → Int} {q : Nat} (hp : ∀ x, f (x + q) = f x) : sm q (fun x => f (x + 1)) = sm q f := by
  have h1 := sm_cat f 1 q
  have h2 := sm_cat f q 1
  rw [Nat.add_comm] at h1
  rw [h1] at h2
  have h3 : sm 1 f = f 0 := by show 0 + f 0 = f 0; omega
  have h4 : sm 1 (fun x => f (x + q)) = f (0 + (q : Int)) := by show 0 + f (0 + q) = f (0 + q); omega
  rw [h3, h4, hp 0] at h2
  have e : sm q (fun x => f (x + (1 : Nat))) = sm q (fun x => f (x + 1)) := rfl
  rw [e] at h2; omega
theorem sm_shiftN {f : Int → Int} {q : Nat} (hp : ∀ x, f (x + q) = f x) : ∀ c : Nat, sm q (fun x => f (x + c)) = sm q f
  | 0 => sm_ext fun x => by simp
  | c + 1 => by
    have h := sm_shift1 (f := fun x => f (x + c)) (q := q) (fun x => by rw [show x + q + c = x + c + q by omega]; exact hp _)
    rw [← sm_shiftN hp c, ← h]
    exact sm_ext fun x => by rw [show x + ((c + 1 : Nat) : Int) = x + 1 + c by omega]
theorem per_mul {f : Int → Int} {q : Int} (hp : ∀ x, f (x + q) = f x) : ∀ (k : Nat) (x : Int), f (x + q * k) = f x
  | 0, x => by simp
  | k + 1, x => by
    rw [show x + q * ((k + 1 : Nat) : Int) = x + q * k + q by rw [Int.natCast_add, Int.mul_add]; simp; omega, hp, per_mul hp k x]
theorem per_int {f : Int → Int} {q : Int} (hp : ∀ x, f (x + q) = f x) (k x : Int) : f (x + q * k) = f x := by
  rcases Int.le_total 0 k with h | h
  · have e := per_mul hp k.toNat x
    rwa [Int.toNat_of_nonneg h] at e
  · have e := per_mul hp (-k).toNat (x + q * k)
    rw [Int.toNat_of_nonneg (by omega)] at e
    rw [← e]
    congr 1
    rw [Int.mul_neg]; omega
theorem sm_shift {f : Int → Int} {q : Nat} (hp : ∀ x, f (x + q) = f x) (c : Int) : sm q (fun x => f (x + c)) = sm q f := by
  by_cases hq : q = 0
  · subst hq; rfl
  have hr := Int.emod_nonneg c (show (q : Int) ≠ 0 by omega)
  have e : c = (c % q) + q * (c / q) := by have := Int.emod_add_mul_ediv c q; omega
  rw [← sm_shiftN hp (c % q).toNat]
  refine sm_ext fun x => ?_
  rw [Int.toNat_of_nonneg hr]
  have h := per_int hp (c / q) (x + c % q)
  rw [← h]
  congr 1
  omega
/-- half a period on, the sign is another: nothing -/
theorem sm_anti {f : Int → Int} {h : Nat} (ha : ∀ x, f (x + h) = - f x) : ∀ k : Nat, sm (k * (2 * h)) f = 0
  | 0 => by rw [Nat.zero_mul]; rfl
  | k + 1 => by
    rw [Nat.add_mul, Nat.one_mul, sm_cat, sm_anti ha k, Int.zero_add]
    have per : ∀ x, f (x + 2 * h) = f x := fun x => by
      rw [show x + 2 * (h : Int) = x + h + h by omega, ha, ha]; omega
    have e : ∀ x, f (x + ((k * (2 * h) : Nat) : Int)) = f x := fun x => by
      have z := per_mul (q := 2 * (h : Int)) per k x
      rw [← z]; congr 1
      rw [Int.natCast_mul, Int.natCast_mul, Int.mul_comm]; rfl
    rw [sm_ext e, Nat.two_mul, sm_cat, sm_ext ha, sm_neg]; omega
theorem sm_odd {w : Nat} {u : Int} (hu : u % 2 = 1) : ∀ {f : Int → Int}, (∀ x, f (x + 2 ^ w) = f x) → sm (2 ^ w) (fun x => f (u * x)) = sm (2 ^ w) f := by
  induction w with
  | zero =>
    intro f hp
    show 0 + f (u * 0) = 0 + f 0
    rw [Int.mul_zero]
  | succ w ih =>
    intro f hp
    have hpow : (2 : Int) ^ (w + 1) = 2 * 2 ^ w := by rw [Int.pow_succ, Int.mul_comm]
    rw [show 2 ^ (w + 1) = 2 * 2 ^ w by rw [Nat.pow_succ, Nat.mul_comm], sm_split, sm_split f]
    have h1 := ih (f := fun z => f (2 * z)) (fun x => by rw [Int.mul_add, ← hpow]; exact hp _)
    have h2 := ih (f := fun z => f (2 * z + u)) (fun x => by rw [Int.mul_add, ← hpow, show 2 * x + 2 ^ (w + 1) + u = 2 * x + u + 2 ^ (w + 1) by omega]; exact hp _)
    have e1 : sm (2 ^ w) (fun y => f (u * (2 * y))) = sm (2 ^ w) (fun y => f (2 * y)) := by
      rw [← h1]; exact sm_ext fun y => by rw [show u * (2 * y) = 2 * (u * y) by rw [Int.mul_left_comm]]
    have e2 : sm (2 ^ w) (fun y => f (u * (2 * y + 1))) = sm (2 ^ w) (fun y => f (2 * y + u)) := by
      rw [← h2]; exact sm_ext fun y => by rw [Int.mul_add, Int.mul_one, Int.mul_left_comm]
    have e3 : sm (2 ^ w) (fun y => f (2 * y + u)) = sm (2 ^ w) (fun y => f (2 * y + 1)) := by
      obtain ⟨v, rfl⟩ : ∃ v, u = 2 * v + 1 := ⟨u / 2, by omega⟩
      have h3 := sm_shift (f := fun z => f (2 * z + 1)) (q := 2 ^ w) (fun x => by
        have : ((2 ^ w : Nat) : Int) = 2 ^ w := by simp
        rw [this, Int.mul_add, ← hpow, show 2 * x + 2 ^ (w + 1) + 1 = 2 * x + 1 + 2 ^ (w + 1) by omega]; exact hp _) v
      rw [← h3]; exact sm_ext fun y => by rw [show 2 * (y + v) + 1 = 2 * y + (2 * v + 1) by omega]
    rw [e1, e2, e3]

/-! ### functions that change sign half a round on: 8 steps of 2 ^ m are a round -/
/-- F (c + 4 * 2 ^ m) = - F c -/
def An (m : Nat) (F : Int → Int) : Prop := ∀ c, F (c + 4 * 2 ^ m) = - F c
theorem An.per {m : Nat} {F : Int → Int} (h : An m F) (c : Int) : F (c + 8 * 2 ^ m) = F c := by
  rw [show c + 8 * 2 ^ m = c + 4 * 2 ^ m + 4 * 2 ^ m by omega, h, h]; omega
theorem An.rounds {m : Nat} {F : Int → Int} (h : An m F) (c k : Int) : F (c + 8 * 2 ^ m * k) = F c := per_int h.per k c
theorem An.odd {m : Nat} {F : Int → Int} (h : An m F) (c k : Int) (hk : k % 2 = 1) : F (c + 4 * 2 ^ m * k) = - F c := by
  obtain ⟨j, rfl⟩ : ∃ j, k = 2 * j + 1 := ⟨k / 2, by omega⟩
  rw [show c + 4 * 2 ^ m * (2 * j + 1) = c + 4 * 2 ^ m + 8 * 2 ^ m * j by rw [Int.mul_add]; rw [show 4 * 2 ^ m * (2 * j) = 8 * 2 ^ m * j by rw [← Int.mul_assoc]; congr 1; omega]; omega, h.rounds, h]
theorem pow_split {a b : Nat} : (2 : Int) ^ (a + b) = 2 ^ a * 2 ^ b := Int.pow_add 2 a b
end Sq
set_option autoImplicit false
set_option linter.all false
set_option maxHeartbeats 1000000
namespace Sq
/-- so many half powers of 2 times so many eighth turns, at work on F -/
def vl (m : Nat) (F : Int → Int) (h : Nat) (t : Int) (c : Int) : Int :=
  if h % 2 = 0 then 2 ^ (h / 2) * F (c + t * 2 ^ m) else 2 ^ (h / 2) * (F (c + (t + 1) * 2 ^ m) + F (c + (t - 1) * 2 ^ m))
theorem vl_even {m h : Nat} {F : Int → Int} {t c : Int} (e : h % 2 = 0) : vl m F h t c = 2 ^ (h / 2) * F (c + t * 2 ^ m) := if_pos e
theorem vl_odd {m h : Nat} {F : Int → Int} {t c : Int} (e : h % 2 = 1) : vl m F h t c = 2 ^ (h / 2) * (F (c + (t + 1) * 2 ^ m) + F (c + (t - 1) * 2 ^ m)) := if_neg (by omega)
theorem An.tm {m : Nat} {F : Int → Int} (h : An m F) (c t k : Int) : F (c + (t + 8 * k) * 2 ^ m) = F (c + t * 2 ^ m) := by
  rw [show c + (t + 8 * k) * 2 ^ m = c + t * 2 ^ m + 8 * 2 ^ m * k by rw [Int.add_mul, Int.mul_assoc 8 k, Int.mul_comm k, ← Int.mul_assoc]; omega]
  exact h.rounds _ k
theorem An.t4 {m : Nat} {F : Int → Int} (h : An m F) (c t : Int) : F (c + (t + 4) * 2 ^ m) = - F (c + t * 2 ^ m) := by
  rw [show c + (t + 4) * 2 ^ m = c + t * 2 ^ m + 4 * 2 ^ m by rw [Int.add_mul]; omega]
  exact h _
theorem vl_mod {m h : Nat} {F : Int → Int} (A : An m F) (t c k : Int) : vl m F h (t + 8 * k) c = vl m F h t c := by
  unfold vl
  rw [A.tm, show t + 8 * k + 1 = t + 1 + 8 * k by omega, show t + 8 * k - 1 = t - 1 + 8 * k by omega, A.tm, A.tm]
theorem vl_an {m h : Nat} {F : Int → Int} (A : An m F) (t : Int) : An m (vl m F h t) := fun c => by
  unfold vl
  have e : ∀ t, c + 4 * 2 ^ m + t * 2 ^ m = c + t * 2 ^ m + 4 * 2 ^ m := fun t => by omega
  rw [e t, e (t + 1), e (t - 1), A, A, A]
  split
  · rw [Int.mul_neg]
  · rw [← Int.mul_neg]; congr 1; omega
theorem vl_vl {m : Nat} {F : Int → Int} (A : An m F) (h1 h2 : Nat) (t1 t2 c : Int) : vl m (vl m F h1 t1) h2 t2 c = vl m F (h1 + h2) (t1 + t2) c := by
  have e : ∀ a b : Int, c + a * 2 ^ m + b * 2 ^ m = c + (b + a) * 2 ^ m := fun a b => by rw [Int.add_mul]; omega
  rcases Nat.mod_two_eq_zero_or_one h1 with p1 | p1 <;> rcases Nat.mod_two_eq_zero_or_one h2 with p2 | p2
  · rw [vl_even p2, vl_even p1, vl_even (by omega), e, ← Int.mul_assoc, ← Int.pow_add, show h2 / 2 + h1 / 2 = (h1 + h2) / 2 by omega]
  · rw [vl_odd p2, vl_even p1, vl_even p1, vl_odd (by omega), e, e, ← Int.mul_add, ← Int.mul_assoc, ← Int.pow_add, show h2 / 2 + h1 / 2 = (h1 + h2) / 2 by omega, show t1 + (t2 + 1) = t1 + t2 + 1 by omega, show t1 + (t2 - 1) = t1 + t2 - 1 by omega]
  · rw [vl_even p2, vl_odd p1, vl_odd (by omega), e, e, ← Int.mul_assoc, ← Int.pow_add, show h2 / 2 + h1 / 2 = (h1 + h2) / 2 by omega, show t1 + 1 + t2 = t1 + t2 + 1 by omega, show t1 - 1 + t2 = t1 + t2 - 1 by omega]
  · rw [vl_odd p2, vl_odd p1, vl_odd p1, vl_even (by omega), e, e, e, e, ← Int.mul_add, ← Int.mul_assoc, ← Int.pow_add]
    have a1 := A.t4 c (t1 - 1 + (t2 - 1))
    rw [show t1 - 1 + (t2 - 1) + 4 = t1 + 1 + (t2 + 1) by omega] at a1
    rw [a1, show t1 + 1 + (t2 - 1) = t1 + t2 by omega, show t1 - 1 + (t2 + 1) = t1 + t2 by omega]
    have : (h1 + h2) / 2 = (h2 / 2 + h1 / 2) + 1 := by omega
    rw [this, Int.pow_succ, Int.mul_assoc]
    congr 1; omega

theorem nat_pow (w : Nat) : ((2 ^ w : Nat) : Int) = 2 ^ w := by simp
theorem pw1 (w : Nat) : (2 : Int) ^ (w + 1) = 2 * 2 ^ w := by rw [Int.pow_succ, Int.mul_comm]

/-! ### squares -/
def gs (F : Int → Int) (w s : Nat) (u c : Int) : Int := sm (2 ^ w) (fun x => F (c + 8 * 2 ^ s * u * (x * x)))
theorem gs_split (F : Int → Int) (w s : Nat) (u c : Int) : gs F (w + 1) s u c = sm (2 ^ w) (fun y => F (c + 8 * 2 ^ s * u * (2 * y * (2 * y)))) + sm (2 ^ w) (fun y => F (c + 8 * 2 ^ s * u * ((2 * y + 1) * (2 * y + 1)))) := by
  unfold gs
  rw [show 2 ^ (w + 1) = 2 * 2 ^ w by rw [Nat.pow_succ, Nat.mul_comm], sm_split]
theorem sq_even (y : Int) : 2 * y * (2 * y) = 4 * (y * y) := by rw [Int.mul_assoc, Int.mul_left_comm y 2 y, ← Int.mul_assoc]; omega
theorem sq_tri (y : Int) : ∃ T, (2 * y + 1) * (2 * y + 1) = 8 * T + 1 := by
  have h : (2 * y + 1) * (2 * y + 1) = 4 * (y * y + y) + 1 := by
    rw [Int.add_mul, Int.mul_add, sq_even]; omega
  have e : (y * y + y) % 2 = 0 := by
    rcases Int.emod_two_eq y with z | z
    · rw [Int.add_emod, Int.mul_emod, z]; rfl
    · rw [Int.add_emod, Int.mul_emod, z]; rfl
  exact ⟨(y * y + y) / 2, by rw [h]; omega⟩
theorem gs_far {m : Nat} {F : Int → Int} (A : An m F) (w : Nat) {s : Nat} (h : m ≤ s) (u c : Int) : gs F w s u c = 2 ^ w * F c := by
  obtain ⟨d, rfl⟩ : ∃ d, s = m + d := ⟨s - m, by omega⟩
  unfold gs
  rw [sm_ext (g := fun _ => F c) (fun x => ?_), sm_const, nat_pow]
  rw [Int.pow_add, show 8 * (2 ^ m * 2 ^ d) * u * (x * x) = 8 * 2 ^ m * (2 ^ d * u * (x * x)) by simp only [Int.mul_assoc]]
  exact A.rounds _ _
theorem gs_one {m : Nat} {F : Int → Int} (A : An m F) (w : Nat) {s : Nat} (h : s + 1 = m) {u : Int} (hu : u % 2 = 1) (c : Int) : gs F (w + 1) s u c = 0 := by
  subst h
  have e1 : ∀ x : Int, F (c + 8 * 2 ^ s * u * (2 * x * (2 * x))) = F c := fun x => by
    rw [show 8 * 2 ^ s * u * (2 * x * (2 * x)) = 8 * 2 ^ (s + 1) * (2 * u * (x * x)) by grind]
    exact A.rounds _ _
  have e2 : ∀ x : Int, F (c + 8 * 2 ^ s * u * ((2 * x + 1) * (2 * x + 1))) = - F c := fun x => by
    rw [show 8 * 2 ^ s * u * ((2 * x + 1) * (2 * x + 1)) = 4 * 2 ^ (s + 1) * (u * ((2 * x + 1) * (2 * x + 1))) by grind]
    exact A.odd _ _ (by
      obtain ⟨T, e⟩ := sq_tri x
      rw [e, Int.mul_emod, hu]; omega)
  rw [gs_split, sm_ext e1, sm_ext e2, sm_const, sm_const, Int.mul_neg]
  omega
theorem gs_two {m : Nat} {F : Int → Int} (A : An m F) (w : Nat) {s : Nat} (h : s + 2 = m) {u : Int} (hu : u % 2 = 1) (c : Int) : gs F (w + 1) s u c = vl m F (2 * w + 1) (2 - u % 4) c := by
  subst h
  have e1 : ∀ x : Int, F (c + 8 * 2 ^ s * u * (2 * x * (2 * x))) = F c := fun x => by
    rw [show 8 * 2 ^ s * u * (2 * x * (2 * x)) = 8 * 2 ^ (s + 2) * (u * (x * x)) by grind]
    exact A.rounds _ _
  have e2 : ∀ x : Int, F (c + 8 * 2 ^ s * u * ((2 * x + 1) * (2 * x + 1))) = F (c + (2 * u) * 2 ^ (s + 2)) := fun x => by
    obtain ⟨T, e⟩ := sq_tri x
    rw [e, show c + 8 * 2 ^ s * u * (8 * T + 1) = c + 2 * u * 2 ^ (s + 2) + 8 * 2 ^ (s + 2) * (2 * u * T) by grind]
    exact A.rounds _ _
  rw [gs_split, sm_ext e1, sm_ext e2, sm_const, sm_const, nat_pow, vl_odd (by omega), ← Int.mul_add, show (2 * w + 1) / 2 = w by omega]
  congr 1
  rcases (show u % 4 = 1 ∨ u % 4 = 3 by omega) with e | e
  · have h1 := A.tm c 2 (u / 4)
    rw [e, show 2 * u = 2 + 8 * (u / 4) by omega, h1, show (2 : Int) - 1 + 1 = 2 by omega, show (2 : Int) - 1 - 1 = 0 by omega, Int.zero_mul, Int.add_zero]; omega
  · have h1 := A.tm c (-2) (u / 4 + 1)
    rw [e, show 2 * u = -2 + 8 * (u / 4 + 1) by omega, h1, show (2 : Int) - 3 + 1 = 0 by omega, show (2 : Int) - 3 - 1 = -2 by omega, Int.zero_mul, Int.add_zero]
theorem gs_three {m : Nat} {F : Int → Int} (A : An m F) (w : Nat) {s : Nat} (h : s + 3 = m) {u : Int} (hu : u % 2 = 1) (c : Int) : gs F (w + 2) s u c = vl m F (2 * w + 2) u c := by
  subst h
  have e2 : ∀ x : Int, F (c + 8 * 2 ^ s * u * ((2 * x + 1) * (2 * x + 1))) = F (c + u * 2 ^ (s + 3)) := fun x => by
    obtain ⟨T, e⟩ := sq_tri x
    rw [e, show c + 8 * 2 ^ s * u * (8 * T + 1) = c + u * 2 ^ (s + 3) + 8 * 2 ^ (s + 3) * (u * T) by grind]
    exact A.rounds _ _
  have e1 : sm (2 ^ (w + 1)) (fun y => F (c + 8 * 2 ^ s * u * (2 * y * (2 * y)))) = 0 := by
    have z := gs_one (m := s + 3) (s := s + 2) A w rfl hu c
    rw [← z]
    unfold gs
    refine sm_ext fun x => ?_
    rw [show 8 * 2 ^ s * u * (2 * x * (2 * x)) = 8 * 2 ^ (s + 2) * u * (x * x) by grind]
  rw [gs_split, e1, sm_ext e2, sm_const, nat_pow, vl_even (by omega), Int.zero_add, show (2 * w + 2) / 2 = w + 1 by omega]
theorem gs_step {m : Nat} {F : Int → Int} (A : An m F) {w s L : Nat} (h : s + (L + 4) = m) (hw : L + 2 ≤ w) {u : Int} (hu : u % 2 = 1) (c : Int) : gs F (w + 1) s u c = gs F w (s + 2) u c := by
  subst h
  have e2 : sm (2 ^ w) (fun y => F (c + 8 * 2 ^ s * u * ((2 * y + 1) * (2 * y + 1)))) = 0 := by
    have z := sm_anti (f := fun y => F (c + 8 * 2 ^ s * u * ((2 * y + 1) * (2 * y + 1)))) (h := 2 ^ (L + 1)) (fun x => ?_) (2 ^ (w - (L + 2)))
    · rw [show 2 ^ (w - (L + 2)) * (2 * 2 ^ (L + 1)) = 2 ^ w by
        rw [show 2 * 2 ^ (L + 1) = 2 ^ (L + 2) by rw [Nat.pow_succ 2 (L + 1), Nat.mul_comm], ← Nat.pow_add, show w - (L + 2) + (L + 2) = w by omega]] at z
      exact z
    · show F _ = - F _
      rw [nat_pow]
      have e : c + 8 * 2 ^ s * u * ((2 * (x + 2 ^ (L + 1)) + 1) * (2 * (x + 2 ^ (L + 1)) + 1)) = c + 8 * 2 ^ s * u * ((2 * x + 1) * (2 * x + 1)) + 4 * 2 ^ (s + (L + 4)) * (u * (2 * x + 1 + 2 ^ (L + 1))) := by grind
      rw [e]
      exact A.odd _ _ (by
        rw [pw1, Int.mul_emod, hu]; omega)
  rw [gs_split, e2, Int.add_zero]
  unfold gs
  refine sm_ext fun x => ?_
  rw [show 8 * 2 ^ s * u * (2 * x * (2 * x)) = 8 * 2 ^ (s + 2) * u * (x * x) by grind]
/-- the sum of a square's signs -/
theorem gs_near {m : Nat} {F : Int → Int} (A : An m F) : ∀ (L w s : Nat), s + (L + 2) = m → L + 1 ≤ w → ∀ {u : Int}, u % 2 = 1 → ∀ c : Int, gs F w s u c = vl m F (2 * w - (L + 2) + 1) (if L % 2 = 1 then u else 2 - u % 4) c
  | 0, w, s, h, hw, u, hu, c => by
    obtain ⟨v, rfl⟩ : ∃ v, w = v + 1 := ⟨w - 1, by omega⟩
    rw [gs_two A v h hu c, if_neg (by decide)]
    congr 1
  | 1, w, s, h, hw, u, hu, c => by
    obtain ⟨v, rfl⟩ : ∃ v, w = v + 2 := ⟨w - 2, by omega⟩
    rw [gs_three A v h hu c, if_pos (by decide)]
    congr 1
  | L + 2, w, s, h, hw, u, hu, c => by
    obtain ⟨v, rfl⟩ : ∃ v, w = v + 1 := ⟨w - 1, by omega⟩
    rw [gs_step (L := L) A (by omega) (by omega) hu c, gs_near A L v (s + 2) (by omega) (by omega) hu c]
    congr 1
    · omega
    · rw [Nat.add_mod_right]

/-! ### pairs -/
def gp (F : Int → Int) (w v s : Nat) (a b d c : Int) : Int := sm (2 ^ w) (fun x => sm (2 ^ v) (fun y => F (c + 8 * 2 ^ (s + 1) * (a * (x * x) + b * (x * y) + d * (y * y)))))
theorem gp_far {m : Nat} {F : Int → Int} (A : An m F) (w v : Nat) {s : Nat} (h : m ≤ s + 1) (a b d c : Int) : gp F w v s a b d c = 2 ^ w * (2 ^ v * F c) := by
  obtain ⟨e, he⟩ : ∃ e, s + 1 = m + e := ⟨s + 1 - m, by omega⟩
  unfold gp
  rw [he]
  rw [sm_ext (g := fun _ => 2 ^ v * F c) (fun x => ?_), sm_const, nat_pow]
  rw [sm_ext (g := fun _ => F c) (fun y => ?_), sm_const, nat_pow]
  rw [Int.pow_add, show 8 * (2 ^ m * 2 ^ e) * (a * (x * x) + b * (x * y) + d * (y * y)) = 8 * 2 ^ m * (2 ^ e * (a * (x * x) + b * (x * y) + d * (y * y))) by simp only [Int.mul_assoc]]
  exact A.rounds _ _
theorem sm2 (f : Int → Int → Int) (w v : Nat) : sm (2 ^ (w + 1)) (fun x => sm (2 ^ (v + 1)) (fun y => f x y)) =
    sm (2 ^ w) (fun x => sm (2 ^ v) (fun y => f (2 * x) (2 * y))) + sm (2 ^ w) (fun x => sm (2 ^ v) (fun y => f (2 * x) (2 * y + 1))) + (sm (2 ^ w) (fun x => sm (2 ^ v) (fun y => f (2 * x + 1) (2 * y))) + sm (2 ^ w) (fun x => sm (2 ^ v) (fun y => f (2 * x + 1) (2 * y + 1)))) := by
  have e : ∀ w : Nat, 2 ^ (w + 1) = 2 * 2 ^ w := fun w => by rw [Nat.pow_succ, Nat.mul_comm]
  have h : ∀ x, sm (2 ^ (v + 1)) (fun y => f x y) = sm (2 ^ v) (fun y => f x (2 * y)) + sm (2 ^ v) (fun y => f x (2 * y + 1)) := fun x => by rw [e v, sm_split]
  rw [e w, sm_split, sm_ext (fun x => h (2 * x)), sm_ext (fun x => h (2 * x + 1)), sm_add, sm_add]
def sg (k : Int) : Int := if k % 2 = 0 then 1 else -1
theorem An.sgn {m : Nat} {F : Int → Int} (A : An m F) (c k : Int) : F (c + 4 * 2 ^ m * k) = sg k * F c := by
  unfold sg
  by_cases h : k % 2 = 0
  · rw [if_pos h]
    obtain ⟨j, rfl⟩ : ∃ j, k = 2 * j := ⟨k / 2, by omega⟩
    rw [show 4 * 2 ^ m * (2 * j) = 8 * 2 ^ m * j by rw [Int.mul_left_comm, ← Int.mul_assoc, ← Int.mul_assoc]; rfl, A.rounds]; omega
  · rw [if_neg h, A.odd c k (by omega)]; omega
theorem gp_one {m : Nat} {F : Int → Int} (A : An m F) (w v : Nat) {s : Nat} (h : s + 2 = m) {a b d : Int} (hb : b % 2 = 1) (c : Int) : gp F (w + 1) (v + 1) s a b d c = 2 ^ w * (2 ^ v * (2 * (if a % 2 = 1 ∧ d % 2 = 1 then -1 else 1) * F c)) := by
  subst h
  have key : ∀ (k x y : Int), (a * (x * x) + b * (x * y) + d * (y * y)) % 2 = k % 2 → F (c + 8 * 2 ^ (s + 1) * (a * (x * x) + b * (x * y) + d * (y * y))) = sg k * F c := fun k x y e => by
    rw [show 8 * 2 ^ (s + 1) * (a * (x * x) + b * (x * y) + d * (y * y)) = 4 * 2 ^ (s + 2) * (a * (x * x) + b * (x * y) + d * (y * y)) by rw [pw1 (s + 1)]; congr 1; omega, A.sgn]
    unfold sg; rw [e]
  have md : ∀ (x y i j : Int), x % 2 = i → y % 2 = j → (a * (x * x) + b * (x * y) + d * (y * y)) % 2 = (a * i + i * j + d * j) % 2 := fun x y i j hx hy => by
    have h1 : i = 0 ∨ i = 1 := by omega
    have h2 : j = 0 ∨ j = 1 := by omega
    rw [Int.add_emod, Int.add_emod (a * (x * x)), Int.mul_emod a, Int.mul_emod x x, Int.mul_emod b, Int.mul_emod x y, Int.mul_emod d, Int.mul_emod y y, hx, hy, hb, Int.add_emod (a * i + i * j), Int.add_emod (a * i), Int.mul_emod a i, Int.mul_emod d j]
    rcases h1 with h1 | h1 <;> rcases h2 with h2 | h2 <;> subst h1 <;> subst h2 <;> simp
  have k0 : ∀ x : Int, sm (2 ^ v) (fun y => F (c + 8 * 2 ^ (s + 1) * (a * (2 * x * (2 * x)) + b * (2 * x * (2 * y)) + d * (2 * y * (2 * y))))) = 2 ^ v * (sg 0 * F c) := fun x => by
    rw [sm_ext (g := fun _ => sg 0 * F c) (fun y => key 0 _ _ (by rw [md _ _ 0 0 (by omega) (by omega)]; omega)), sm_const, nat_pow]
  have k1 : ∀ x : Int, sm (2 ^ v) (fun y => F (c + 8 * 2 ^ (s + 1) * (a * (2 * x * (2 * x)) + b * (2 * x * (2 * y + 1)) + d * ((2 * y + 1) * (2 * y + 1))))) = 2 ^ v * (sg d * F c) := fun x => by
    rw [sm_ext (g := fun _ => sg d * F c) (fun y => key d _ _ (by rw [md _ _ 0 1 (by omega) (by omega)]; omega)), sm_const, nat_pow]
  have k2 : ∀ x : Int, sm (2 ^ v) (fun y => F (c + 8 * 2 ^ (s + 1) * (a * ((2 * x + 1) * (2 * x + 1)) + b * ((2 * x + 1) * (2 * y)) + d * (2 * y * (2 * y))))) = 2 ^ v * (sg a * F c) := fun x => by
    rw [sm_ext (g := fun _ => sg a * F c) (fun y => key a _ _ (by rw [md _ _ 1 0 (by omega) (by omega)]; omega)), sm_const, nat_pow]
  have k3 : ∀ x : Int, sm (2 ^ v) (fun y => F (c + 8 * 2 ^ (s + 1) * (a * ((2 * x + 1) * (2 * x + 1)) + b * ((2 * x + 1) * (2 * y + 1)) + d * ((2 * y + 1) * (2 * y + 1))))) = 2 ^ v * (sg (a + d + 1) * F c) := fun x => by
    rw [sm_ext (g := fun _ => sg (a + d + 1) * F c) (fun y => key (a + d + 1) _ _ (by rw [md _ _ 1 1 (by omega) (by omega)]; omega)), sm_const, nat_pow]
  unfold gp
  rw [sm2 (fun x y => F (c + 8 * 2 ^ (s + 1) * (a * (x * x) + b * (x * y) + d * (y * y))))]
  rw [sm_ext k0, sm_ext k1, sm_ext k2, sm_ext k3, sm_const, sm_const, sm_const, sm_const, nat_pow, ← Int.mul_add, ← Int.mul_add, ← Int.mul_add, ← Int.mul_add, ← Int.mul_add, ← Int.mul_add]
  congr 2
  have s0 : sg 0 = 1 := rfl
  rw [s0]
  unfold sg
  rcases Int.emod_two_eq a with ha | ha <;> rcases Int.emod_two_eq d with hd | hd
  · rw [if_pos hd, if_pos ha, if_neg (show ¬ (a + d + 1) % 2 = 0 by omega), if_neg (by omega)]; omega
  · rw [if_neg (show ¬ d % 2 = 0 by omega), if_pos ha, if_pos (show (a + d + 1) % 2 = 0 by omega), if_neg (by omega)]; omega
  · rw [if_pos hd, if_neg (show ¬ a % 2 = 0 by omega), if_pos (show (a + d + 1) % 2 = 0 by omega), if_neg (by omega)]; omega
  · rw [if_neg (show ¬ d % 2 = 0 by omega), if_neg (show ¬ a % 2 = 0 by omega), if_neg (show ¬ (a + d + 1) % 2 = 0 by omega), if_pos ⟨ha, hd⟩]; omega
theorem anti_pow {f : Int → Int} {L w : Nat} (hw : L + 1 ≤ w) (h : ∀ x, f (x + 2 ^ L) = - f x) : sm (2 ^ w) f = 0 := by
  have z := sm_anti (f := f) (h := 2 ^ L) (fun x => by rw [nat_pow]; exact h x) (2 ^ (w - (L + 1)))
  rw [show 2 ^ (w - (L + 1)) * (2 * 2 ^ L) = 2 ^ w by
    rw [show 2 * 2 ^ L = 2 ^ (L + 1) by rw [Nat.pow_succ 2 L, Nat.mul_comm], ← Nat.pow_add, show w - (L + 1) + (L + 1) = w by omega]] at z
  exact z
/-- only both even are left -/
theorem gp_step {m : Nat} {F : Int → Int} (A : An m F) {w v s L : Nat} (h : s + (L + 3) = m) (hw : L + 1 ≤ w) (hv : L + 1 ≤ v) {a b d : Int} (hb : b % 2 = 1) (c : Int) : gp F (w + 1) (v + 1) s a b d c = gp F w v (s + 2) a b d c := by
  subst h
  have o1 : ∀ x : Int, sm (2 ^ (v + 1)) (fun y => F (c + 8 * 2 ^ (s + 1) * (a * ((2 * x + 1) * (2 * x + 1)) + b * ((2 * x + 1) * y) + d * (y * y)))) = 0 := fun x => by
    refine anti_pow (L := L + 1) (by omega) fun y => ?_
    rw [show c + 8 * 2 ^ (s + 1) * (a * ((2 * x + 1) * (2 * x + 1)) + b * ((2 * x + 1) * (y + 2 ^ (L + 1))) + d * ((y + 2 ^ (L + 1)) * (y + 2 ^ (L + 1)))) = c + 8 * 2 ^ (s + 1) * (a * ((2 * x + 1) * (2 * x + 1)) + b * ((2 * x + 1) * y) + d * (y * y)) + 4 * 2 ^ (s + (L + 3)) * (b * (2 * x + 1) + 2 * (d * y) + 2 * (d * 2 ^ L)) by grind]
    exact A.odd _ _ (by
      have : b * (2 * x + 1) % 2 = 1 := by rw [Int.mul_emod, hb]; omega
      omega)
  have o2 : ∀ y : Int, sm (2 ^ w) (fun x => F (c + 8 * 2 ^ (s + 1) * (a * (2 * x * (2 * x)) + b * (2 * x * (2 * y + 1)) + d * ((2 * y + 1) * (2 * y + 1))))) = 0 := fun y => by
    refine anti_pow (L := L) (by omega) fun x => ?_
    rw [show c + 8 * 2 ^ (s + 1) * (a * (2 * (x + 2 ^ L) * (2 * (x + 2 ^ L))) + b * (2 * (x + 2 ^ L) * (2 * y + 1)) + d * ((2 * y + 1) * (2 * y + 1))) = c + 8 * 2 ^ (s + 1) * (a * (2 * x * (2 * x)) + b * (2 * x * (2 * y + 1)) + d * ((2 * y + 1) * (2 * y + 1))) + 4 * 2 ^ (s + (L + 3)) * (b * (2 * y + 1) + 4 * (a * x) + 2 * (a * 2 ^ L)) by grind]
    exact A.odd _ _ (by
      have : b * (2 * y + 1) % 2 = 1 := by rw [Int.mul_emod, hb]; omega
      omega)
  unfold gp
  rw [show 2 ^ (w + 1) = 2 * 2 ^ w by rw [Nat.pow_succ, Nat.mul_comm], sm_split, sm_ext o1, sm_zero, Int.add_zero]
  have e : ∀ x : Int, sm (2 ^ (v + 1)) (fun y => F (c + 8 * 2 ^ (s + 1) * (a * (2 * x * (2 * x)) + b * (2 * x * y) + d * (y * y)))) = sm (2 ^ v) (fun y => F (c + 8 * 2 ^ (s + 2 + 1) * (a * (x * x) + b * (x * y) + d * (y * y)))) + sm (2 ^ v) (fun y => F (c + 8 * 2 ^ (s + 1) * (a * (2 * x * (2 * x)) + b * (2 * x * (2 * y + 1)) + d * ((2 * y + 1) * (2 * y + 1))))) := fun x => by
    rw [show 2 ^ (v + 1) = 2 * 2 ^ v by rw [Nat.pow_succ, Nat.mul_comm], sm_split]
    congr 1
    refine sm_ext fun y => ?_
    rw [show 8 * 2 ^ (s + 1) * (a * (2 * x * (2 * x)) + b * (2 * x * (2 * y)) + d * (2 * y * (2 * y))) = 8 * 2 ^ (s + 2 + 1) * (a * (x * x) + b * (x * y) + d * (y * y)) by grind]
  rw [sm_ext e, sm_add, sm_comm (fun x y => F (c + 8 * 2 ^ (s + 1) * (a * (2 * x * (2 * x)) + b * (2 * x * (2 * y + 1)) + d * ((2 * y + 1) * (2 * y + 1))))), sm_ext o2, sm_zero, Int.add_zero]
/-- the sum of a pair's signs -/
theorem gp_near {m : Nat} {F : Int → Int} (A : An m F) {a b d : Int} (hb : b % 2 = 1) : ∀ (L w s : Nat), s + (L + 1) = m → L ≤ w → ∀ c : Int, gp F w w s a b d c = vl m F (4 * w - 2 * L) (if L % 2 = 1 ∧ a % 2 = 1 ∧ d % 2 = 1 then 4 else 0) c
  | 0, w, s, h, hw, c => by
    rw [gp_far A w w (by omega), if_neg (by omega), vl_even (by omega), Int.zero_mul, Int.add_zero, ← Int.mul_assoc, ← Int.pow_add]
    congr 2
    omega
  | 1, w, s, h, hw, c => by
    obtain ⟨v, rfl⟩ : ∃ v, w = v + 1 := ⟨w - 1, by omega⟩
    rw [gp_one A v v (by omega) hb, vl_even (by omega), show (4 * (v + 1) - 2 * 1) / 2 = v + v + 1 by omega, Int.pow_succ, Int.pow_add]
    by_cases h1 : a % 2 = 1 ∧ d % 2 = 1
    · rw [if_pos h1, if_pos ⟨by decide, h1⟩, A c]; simp only [Int.mul_assoc]; grind
    · rw [if_neg h1, if_neg (fun z => h1 z.2), Int.zero_mul, Int.add_zero]; simp only [Int.mul_assoc]; grind
  | L + 2, w, s, h, hw, c => by
    obtain ⟨v, rfl⟩ : ∃ v, w = v + 1 := ⟨w - 1, by omega⟩
    rw [gp_step (L := L) A (by omega) (by omega) (by omega) hb c, gp_near A hb L v (s + 2) (by omega) (by omega) c, Nat.add_mod_right]
    congr 1
    omega
end Sq
set_option autoImplicit false
set_option linter.all false
set_option maxHeartbeats 1000000
namespace Sq
/-- the sign at a round of 8 * 2 ^ m -/
def dl (m : Nat) (c : Int) : Int := if c % (8 * 2 ^ m) = 0 then 1 else if c % (8 * 2 ^ m) = 4 * 2 ^ m then -1 else 0
theorem pos2 (m : Nat) : (0 : Int) < 2 ^ m := Int.pow_pos (by decide)
theorem dl_an (m : Nat) : An m (dl m) := fun c => by
  have hp := pos2 m
  unfold dl
  generalize (2 : Int) ^ m = S at hp ⊢
  have h0 := Int.emod_nonneg c (show 8 * S ≠ 0 by omega)
  have h1 := Int.emod_lt_of_pos c (show 0 < 8 * S by omega)
  have e : (c + 4 * S) % (8 * S) = if c % (8 * S) < 4 * S then c % (8 * S) + 4 * S else c % (8 * S) - 4 * S := by
    rw [Int.add_emod, Int.emod_eq_of_lt (a := 4 * S) (by omega) (by omega)]
    split
    · exact Int.emod_eq_of_lt (by omega) (by omega)
    · rw [← Int.sub_emod_right, Int.emod_eq_of_lt (by omega) (by omega)]; omega
  rw [e]
  generalize c % (8 * S) = r at h0 h1 ⊢
  by_cases h : r < 4 * S
  · rw [if_pos h]
    by_cases z : r = 0
    · rw [if_neg (by omega), if_pos (by omega), if_pos z]
    · rw [if_neg (by omega), if_neg (by omega), if_neg z, if_neg (by omega)]; rfl
  · rw [if_neg h]
    by_cases z : r = 4 * S
    · rw [if_pos (by omega), if_neg (by omega), if_pos z]; rfl
    · rw [if_neg (by omega), if_neg (by omega), if_neg (by omega), if_neg z]; rfl
theorem dl_mul (m : Nat) {t : Int} (ht : t % 2 = 1) (c : Int) : dl m (t * c) = dl m c := by
  have A := dl_an m
  -- by rounds and halves
  have hp := pos2 m
  obtain ⟨j, rfl⟩ : ∃ j, t = 2 * j + 1 := ⟨t / 2, by omega⟩
  by_cases h4 : c % (4 * 2 ^ m) = 0
  · obtain ⟨k, rfl⟩ := Int.dvd_of_emod_eq_zero h4
    rw [show (2 * j + 1) * (4 * 2 ^ m * k) = 4 * 2 ^ m * k + 8 * 2 ^ m * (j * k) by grind]
    exact A.rounds _ _
  · have key : ∀ z : Int, z % (4 * 2 ^ m) ≠ 0 → dl m z = 0 := fun z hz => by
      unfold dl
      rw [if_neg (fun e => hz ?_), if_neg (fun e => hz ?_)]
      · have this := Int.emod_add_mul_ediv z (8 * 2 ^ m)
        rw [e] at this
        generalize z / (8 * 2 ^ m) = q at this
        rw [← this, show 4 * 2 ^ m + 8 * 2 ^ m * q = 4 * 2 ^ m * (1 + 2 * q) by grind, Int.mul_emod_right]
      · obtain ⟨q, hq⟩ := Int.dvd_of_emod_eq_zero e
        rw [hq, show 8 * 2 ^ m * q = 4 * 2 ^ m * (2 * q) by grind, Int.mul_emod_right]
    rw [key c h4, key]
    intro e
    apply h4
    -- an odd factor can be taken out of a multiple of a power of 2
    have od : ∀ (k : Nat) (x : Int), (2 * j + 1) * x % 2 ^ k = 0 → x % 2 ^ k = 0 := by
      intro k
      induction k with
      | zero => intro x _; exact Int.emod_one x
      | succ k ih =>
        intro x hx
        have hx2 : (2 : Int) ^ (k + 1) ∣ (2 * j + 1) * x := Int.dvd_of_emod_eq_zero hx
        have x2 : x % 2 = 0 := by
          have : (2 : Int) ∣ (2 * j + 1) * x := Int.dvd_trans ⟨2 ^ k, pw1 k⟩ hx2
          have := Int.emod_eq_zero_of_dvd this
          rw [Int.mul_emod, show (2 * j + 1) % 2 = 1 by omega, Int.one_mul] at this
          omega
        obtain ⟨y, rfl⟩ : ∃ y, x = 2 * y := ⟨x / 2, by omega⟩
        obtain ⟨q, hq⟩ := hx2
        have : (2 * j + 1) * y = 2 ^ k * q := by rw [pw1] at hq; grind
        have := ih y (by rw [this, Int.mul_emod_right])
        obtain ⟨r, hr⟩ := Int.dvd_of_emod_eq_zero this
        rw [hr, pw1, show 2 * (2 ^ k * r) = 2 * 2 ^ k * r by grind, Int.mul_emod_right]
    have p4 : (4 : Int) * 2 ^ m = 2 ^ (m + 2) := by rw [pw1, pw1]; omega
    rw [p4] at e ⊢
    exact od _ _ e

/-! ### blocks -/
inductive Bk where
  | sq (s : Nat) (u : Int)
  | pr (s : Nat) (a b d : Int)
  | ze
def cnt (w : Nat) (f : Int → Int) : List Bk → Int → Int
  | [], c => f c
  | .sq s u :: r, c => sm (2 ^ w) (fun x => cnt w f r (c + 2 ^ s * u * (x * x)))
  | .pr s a b d :: r, c => sm (2 ^ w) (fun x => sm (2 ^ w) (fun y => cnt w f r (c + 2 ^ (s + 1) * (a * (x * x) + b * (x * y) + d * (y * y)))))
  | .ze :: r, c => sm (2 ^ w) (fun _ => cnt w f r c)
theorem cnt_congr {w : Nat} {f g : Int → Int} (h : ∀ c, f c = g c) : ∀ (bs : List Bk) (c : Int), cnt w f bs c = cnt w g bs c
  | [], c => h c
  | .sq s u :: r, c => sm_ext fun x => cnt_congr h r _
  | .pr s a b d :: r, c => sm_ext fun x => sm_ext fun y => cnt_congr h r _
  | .ze :: r, c => sm_ext fun _ => cnt_congr h r _
theorem cnt_add {w : Nat} (f g : Int → Int) : ∀ (bs : List Bk) (c : Int), cnt w (fun z => f z + g z) bs c = cnt w f bs c + cnt w g bs c
  | [], c => rfl
  | .sq s u :: r, c => by
    show sm _ _ = sm _ _ + sm _ _
    rw [← sm_add]; exact sm_ext fun x => cnt_add f g r _
  | .pr s a b d :: r, c => by
    show sm _ _ = sm _ _ + sm _ _
    rw [← sm_add]
    refine sm_ext fun x => ?_
    rw [← sm_add]; exact sm_ext fun y => cnt_add f g r _
  | .ze :: r, c => by
    show sm _ _ = sm _ _ + sm _ _
    rw [← sm_add]; exact sm_ext fun x => cnt_add f g r _
theorem cnt_mul {w : Nat} (k : Int) (f : Int → Int) : ∀ (bs : List Bk) (c : Int), cnt w (fun z => k * f z) bs c = k * cnt w f bs c
  | [], c => rfl
  | .sq s u :: r, c => by
    show sm _ _ = k * sm _ _
    rw [← sm_mul]; exact sm_ext fun x => cnt_mul k f r _
  | .pr s a b d :: r, c => by
    show sm _ _ = k * sm _ _
    rw [← sm_mul]
    refine sm_ext fun x => ?_
    rw [← sm_mul]; exact sm_ext fun y => cnt_mul k f r _
  | .ze :: r, c => by
    show sm _ _ = k * sm _ _
    rw [← sm_mul]; exact sm_ext fun x => cnt_mul k f r _
def Bk.dim : Bk → Nat
  | .sq _ _ => 1
  | .pr _ _ _ _ => 2
  | .ze => 1
def dims (bs : List Bk) : Nat := (bs.map Bk.dim).sum
theorem cnt_const {w : Nat} (k : Int) : ∀ (bs : List Bk) (c : Int), cnt w (fun _ => k) bs c = 2 ^ (w * dims bs) * k
  | [], c => by show k = 2 ^ (w * 0) * k; rw [Nat.mul_zero]; simp
  | .sq s u :: r, c => by
    show sm _ _ = _
    rw [sm_ext (fun x => cnt_const k r _), sm_const, nat_pow, ← Int.mul_assoc, ← Int.pow_add]
    congr 2
    show w + w * dims r = w * (1 + dims r)
    rw [Nat.mul_add, Nat.mul_one]
  | .pr s a b d :: r, c => by
    show sm _ _ = _
    have h : ∀ x : Int, sm (2 ^ w) (fun y => cnt w (fun _ => k) r (c + 2 ^ (s + 1) * (a * (x * x) + b * (x * y) + d * (y * y)))) = 2 ^ (w + w * dims r) * k := fun x => by
      rw [sm_ext (fun y => cnt_const k r _), sm_const, nat_pow, ← Int.mul_assoc, ← Int.pow_add]
    rw [sm_ext h, sm_const, nat_pow, ← Int.mul_assoc, ← Int.pow_add]
    congr 2
    show w + (w + w * dims r) = w * (2 + dims r)
    rw [Nat.mul_add]; omega
  | .ze :: r, c => by
    show sm _ _ = _
    rw [sm_ext (fun x => cnt_const k r _), sm_const, nat_pow, ← Int.mul_assoc, ← Int.pow_add]
    congr 2
    show w + w * dims r = w * (1 + dims r)
    rw [Nat.mul_add, Nat.mul_one]
def Bk.tm (t : Int) : Bk → Bk
  | .sq s u => .sq s (t * u)
  | .pr s a b d => .pr s (t * a) (t * b) (t * d)
  | .ze => .ze
theorem cnt_tm {w : Nat} (t : Int) (f : Int → Int) : ∀ (bs : List Bk) (c : Int), cnt w (fun z => f (t * z)) bs c = cnt w f (bs.map (Bk.tm t)) (t * c)
  | [], c => rfl
  | .sq s u :: r, c => sm_ext fun x => by
    rw [cnt_tm t f r]; congr 1; grind
  | .pr s a b d :: r, c => sm_ext fun x => sm_ext fun y => by
    rw [cnt_tm t f r]; congr 1; grind
  | .ze :: r, c => sm_ext fun x => cnt_tm t f r _

/-! ### a block's half powers and eighth turns -/
def bpart (w m : Nat) : Bk → Option (Nat × Int)
  | .sq s u => if m ≤ s then some (2 * w, 0) else if m = s + 1 then none else some (2 * w - (m - s) + 1, if (m - s) % 2 = 1 then u else 2 - u % 4)
  | .pr s a b d => some (4 * w - 2 * (m - (s + 1)), if (m - (s + 1)) % 2 = 1 ∧ a % 2 = 1 ∧ d % 2 = 1 then 4 else 0)
  | .ze => some (2 * w, 0)
def bparts (w m : Nat) : List Bk → Option (Nat × Int)
  | [] => some (0, 0)
  | b :: r => match bpart w m b, bparts w m r with
    | some (h, t), some (h', t') => some (h' + h, t' + t)
    | _, _ => none
def Bk.ok : Bk → Prop
  | .sq _ u => u % 2 = 1
  | .pr _ _ b _ => b % 2 = 1
  | .ze => True
theorem cnt_parts {w m : Nat} (hm : m ≤ w) (h1 : 1 ≤ m) {F : Int → Int} (A : An m F) : ∀ (bs : List Bk), (∀ b ∈ bs, b.ok) → ∀ c : Int, cnt w (fun z => F (8 * z)) bs c = match bparts w m bs with
      | some (h, t) => vl m F h t (8 * c)
      | none => 0
  | [], _, c => by
    show F (8 * c) = vl m F 0 0 (8 * c)
    rw [vl_even rfl, Int.zero_mul, Int.add_zero]
    show F (8 * c) = 1 * F (8 * c)
    rw [Int.one_mul]
  | b :: r, hok, c => by
    have ih := cnt_parts hm h1 A r (fun x hx => hok x (List.mem_cons_of_mem _ hx))
    have hb := hok b List.mem_cons_self
    unfold bparts
    cases hr : bparts w m r with
    | none =>
      rw [hr] at ih
      have ih : ∀ c, cnt w (fun z => F (8 * z)) r c = 0 := ih
      have z : cnt w (fun z => F (8 * z)) (b :: r) c = 0 := by
        cases b with
        | sq s u => show sm _ _ = _; rw [sm_ext (fun x => ih _), sm_zero]
        | pr s a b d =>
          show sm _ _ = _
          have : ∀ x : Int, sm (2 ^ w) (fun y => cnt w (fun z => F (8 * z)) r (c + 2 ^ (s + 1) * (a * (x * x) + b * (x * y) + d * (y * y)))) = 0 := fun x => by rw [sm_ext (fun y => ih _), sm_zero]
          rw [sm_ext this, sm_zero]
        | ze => show sm _ _ = _; rw [sm_ext (fun x => ih _), sm_zero]
      rw [z]
      cases bpart w m b with
      | none => rfl
      | some p => rfl
    | some p =>
      obtain ⟨h', t'⟩ := p
      rw [hr] at ih
      have ih : ∀ c, cnt w (fun z => F (8 * z)) r c = vl m F h' t' (8 * c) := ih
      have A' : An m (vl m F h' t') := vl_an A t'
      cases b with
      | sq s u =>
        have hu : u % 2 = 1 := hb
        have z : cnt w (fun z => F (8 * z)) (.sq s u :: r) c = gs (vl m F h' t') w s u (8 * c) := by
          show sm _ _ = sm _ _
          refine sm_ext fun x => ?_
          rw [ih]; congr 1; grind
        rw [z]
        have eb : bpart w m (.sq s u) = if m ≤ s then some (2 * w, 0) else if m = s + 1 then none else some (2 * w - (m - s) + 1, if (m - s) % 2 = 1 then u else 2 - u % 4) := rfl
        rw [eb]
        by_cases q1 : m ≤ s
        · rw [if_pos q1, gs_far A' w q1]
          show _ = vl m F (h' + 2 * w) (t' + 0) (8 * c)
          rw [← vl_vl A, vl_even (h := 2 * w) (by omega), Int.zero_mul, Int.add_zero, show 2 * w / 2 = w by omega]
        · rw [if_neg q1]
          by_cases q2 : m = s + 1
          · rw [if_pos q2]
            obtain ⟨v, rfl⟩ : ∃ v, w = v + 1 := ⟨w - 1, by omega⟩
            exact gs_one A' v q2.symm hu _
          · rw [if_neg q2]
            have z2 := gs_near A' (m - s - 2) w s (by omega) (by omega) hu (8 * c)
            rw [z2, show m - s - 2 + 2 = m - s by omega, show (m - s - 2) % 2 = (m - s) % 2 by omega]
            exact vl_vl A _ _ _ _ _
      | pr s a b d =>
        have hb : b % 2 = 1 := hb
        have z : cnt w (fun z => F (8 * z)) (.pr s a b d :: r) c = gp (vl m F h' t') w w s a b d (8 * c) := by
          show sm _ _ = sm _ _
          refine sm_ext fun x => sm_ext fun y => ?_
          rw [ih]; congr 1; grind
        rw [z]
        have eb : bpart w m (.pr s a b d) = some (4 * w - 2 * (m - (s + 1)), if (m - (s + 1)) % 2 = 1 ∧ a % 2 = 1 ∧ d % 2 = 1 then 4 else 0) := rfl
        rw [eb]
        by_cases q1 : m ≤ s + 1
        · rw [gp_far A' w w q1, show m - (s + 1) = 0 by omega, if_neg (by omega)]
          show _ = vl m F (h' + (4 * w - 2 * 0)) (t' + 0) (8 * c)
          rw [← vl_vl A, vl_even (h := 4 * w - 2 * 0) (by omega), Int.zero_mul, Int.add_zero, show (4 * w - 2 * 0) / 2 = w + w by omega, Int.pow_add, Int.mul_assoc]
        · have z2 := gp_near A' hb (m - (s + 1)) w s (by omega) (by omega) (8 * c) (a := a) (d := d)
          rw [z2]
          exact vl_vl A _ _ _ _ _
      | ze =>
        show sm _ _ = vl m F (h' + 2 * w) (t' + 0) (8 * c)
        rw [sm_ext (fun x => ih _), sm_const, nat_pow, ← vl_vl A, vl_even (h := 2 * w) (by omega), Int.zero_mul, Int.add_zero, show 2 * w / 2 = w by omega]

/-! ### from signs to noughts -/
def nul (w : Nat) (c : Int) : Int := if c % 2 ^ w = 0 then 1 else 0
/-- the sum over the first m's -/
def phis : Nat → Int → Int
  | 0, _ => 1
  | m + 1, c => phis m c + 2 ^ m * dl (m + 1) (8 * c)
theorem nul_phis (c : Int) : ∀ w : Nat, 2 ^ w * nul w c = phis w c
  | 0 => by show 1 * nul 0 c = 1; unfold nul; rw [if_pos (show c % 2 ^ 0 = 0 from Int.emod_one c)]; rfl
  | w + 1 => by
    show _ = phis w c + 2 ^ w * dl (w + 1) (8 * c)
    rw [← nul_phis c w]
    have hp := pos2 w
    have e8 : ∀ S : Int, (8 * c) % (8 * S) = 8 * (c % S) := fun S => Int.mul_emod_mul_of_pos c S (by decide)
    unfold nul dl
    rw [e8, pw1]
    generalize (2 : Int) ^ w = S at hp ⊢
    have h0 := Int.emod_nonneg c (show 2 * S ≠ 0 by omega)
    have h1 := Int.emod_lt_of_pos c (show 0 < 2 * S by omega)
    have e : c % S = if c % (2 * S) < S then c % (2 * S) else c % (2 * S) - S := by
      have : c % (2 * S) % S = c % S := Int.emod_emod_of_dvd c ⟨2, by omega⟩
      rw [← this]
      split
      · exact Int.emod_eq_of_lt (by omega) (by omega)
      · rw [← Int.sub_emod_right, Int.emod_eq_of_lt (by omega) (by omega)]
    rw [e]
    generalize c % (2 * S) = r at h0 h1 ⊢
    by_cases z0 : r = 0
    · subst z0
      rw [if_pos rfl, if_pos (show (0 : Int) < S by omega), if_pos rfl, if_pos (by omega)]; omega
    · by_cases zS : r = S
      · subst zS
        rw [if_neg z0, if_neg (show ¬ r < r by omega), if_pos (by omega), if_neg (by omega), if_pos (by omega)]; omega
      · rw [if_neg z0]
        have : (if (if r < S then r else r - S) = 0 then (1 : Int) else 0) = 0 := by
          by_cases q : r < S
          · rw [if_pos q, if_neg z0]
          · rw [if_neg q, if_neg (by omega)]
        rw [this, if_neg (by omega), if_neg (by omega)]; omega
/-- how often 0 is taken -/
def noughts (w : Nat) (bs : List Bk) : Int := cnt w (nul w) bs 0
/-- the sum of signs at m -/
def sgs (w m : Nat) (bs : List Bk) : Int := cnt w (fun z => dl m (8 * z)) bs 0
def sumTo (f : Nat → Int) : Nat → Int
  | 0 => 0
  | m + 1 => sumTo f m + f m
theorem noughts_sum (w : Nat) (bs : List Bk) : 2 ^ w * noughts w bs = 2 ^ (w * dims bs) + sumTo (fun m => 2 ^ m * sgs w (m + 1) bs) w := by
  have h : ∀ k, cnt w (phis k) bs 0 = 2 ^ (w * dims bs) + sumTo (fun m => 2 ^ m * sgs w (m + 1) bs) k := by
    intro k
    induction k with
    | zero =>
      show cnt w (fun _ => 1) bs 0 = _
      rw [cnt_const]
      show _ = _ + (0 : Int)
      omega
    | succ k ih =>
      show cnt w (fun z => phis k z + 2 ^ k * dl (k + 1) (8 * z)) bs 0 = _ + (sumTo (fun m => 2 ^ m * sgs w (m + 1) bs) k + 2 ^ k * sgs w (k + 1) bs)
      rw [cnt_add, cnt_mul, ih]
      show _ + 2 ^ k * sgs w (k + 1) bs = _
      omega
  rw [← h w]
  unfold noughts
  rw [← cnt_mul]
  exact cnt_congr (fun c => nul_phis c w) bs 0
end Sq
set_option autoImplicit false
set_option linter.all false
set_option maxHeartbeats 1000000
/-! The program's own reckoning of noughts, and that it is right for blocks. -/
namespace Sq
def ppart (w m : Nat) (odd : Int) (p : Nat × Int) : Option (Int × Int) :=
  if p.2 % 2 = 0 then some (4 * w - 2 * max ((m : Int) - p.1 - 1) 0, if p.2 = 2 ∧ max ((m : Int) - p.1 - 1) 0 % 2 = 1 then 4 else 0)
  else if (m : Int) - p.1 = 1 then none
  else if (m : Int) - p.1 ≤ 0 then some (2 * w, 0)
  else some (2 * w - ((m : Int) - p.1) + 1, if ((m : Int) - p.1) % 2 = 1 then p.2 * odd else 2 - p.2 * odd % 4)
def wp1 (t : Int) : Int := if t % 4 = 0 then 1 - t % 8 / 2 else 0
def wholePart (h t : Int) : Int := 2 ^ (h / 2).toNat * (if h % 2 = 0 then wp1 t else wp1 (t + 1) + wp1 (t - 1))
def psize (ps : List (Nat × Int)) : Int := (ps.map fun p => 2 - p.2 % 2).sum
def oddsOf (m : Nat) : List Int := if m = 0 then [0] else if m = 1 then [1] else if m = 2 then [1, 3] else [1, 3, 5, 7]
def allSome {α : Type} (l : List (Option α)) : Bool := l.all Option.isSome
def entry (w : Nat) (ps : List (Nat × Int)) (n : Int) (m : Nat) (o : Int) : List (Nat × Int × Int × Int) :=
  if allSome (ps.map (ppart w m o)) then [(m, o, 2 * w * (n - psize ps) + (((ps.map (ppart w m o)).filterMap id).map (·.1)).sum, (((ps.map (ppart w m o)).filterMap id).map (·.2)).sum)] else []
def tbl (w : Nat) (ps : List (Nat × Int)) (n : Int) (last : Nat) : List (Nat × Int × Int × Int) := (List.range (last + 1)).flatMap fun m => (oddsOf m).flatMap fun o => entry w ps n m o
def val0 (e : Nat × Int × Int × Int) : Int := if e.1 < 4 then wholePart e.2.2.1 e.2.2.2 else wholePart (e.2.2.1 + 2 * ((e.1 : Int) - 3)) e.2.2.2
def cnt0 (w : Nat) (ps : List (Nat × Int)) (n : Int) : Int := ((tbl w ps n w).map val0).sum / 2 ^ w

/-! ### one piece -/
/-- a block that a piece tells, at widths to w -/
def Mt (w : Nat) : Bk → (Nat × Int) → Prop
  | .sq s u, p => s = p.1 ∧ u % 2 = 1 ∧ p.2 % 2 = 1 ∧ (s + 2 ≤ w → u % 4 = p.2 % 4) ∧ (s + 3 ≤ w → u % 8 = p.2 % 8)
  | .pr s a b d, p => s = p.1 ∧ b % 2 = 1 ∧ p.2 % 2 = 0 ∧ (p.2 = 2 ↔ a % 2 = 1 ∧ d % 2 = 1)
  | .ze, _ => False
theorem Mt.okb {w : Nat} {b : Bk} {p : Nat × Int} (h : Mt w b p) : b.ok := by
  cases b with
  | sq s u => exact h.2.1
  | pr s a b d => exact h.2.1
  | ze => exact h.elim
theorem Mt.dim {w : Nat} {b : Bk} {p : Nat × Int} (h : Mt w b p) : (b.dim : Int) = 2 - p.2 % 2 := by
  cases b with
  | sq s u => show (1 : Int) = _; rw [h.2.2.1]; rfl
  | pr s a b d => show (2 : Int) = _; rw [h.2.2.1]; rfl
  | ze => exact h.elim
/-- alike up to whole rounds -/
def AlP : Option (Int × Int) → Option (Nat × Int) → Prop
  | some (h, t), some (h', t') => h = (h' : Int) ∧ (t - t') % 8 = 0
  | none, none => True
  | _, _ => False
theorem ppart_al {w m : Nat} (hm : m ≤ w) {b : Bk} {p : Nat × Int} (h : Mt w b p) {t : Int} (ht : t % 2 = 1) : AlP (ppart w m t p) (bpart w m (b.tm t)) := by
  obtain ⟨s', k⟩ := p
  cases b with
  | sq s u =>
    obtain ⟨rfl, hu, hk, h4, h8⟩ := h
    have e : bpart w m ((Bk.sq s u).tm t) = if m ≤ s then some (2 * w, 0) else if m = s + 1 then none else some (2 * w - (m - s) + 1, if (m - s) % 2 = 1 then t * u else 2 - t * u % 4) := rfl
    rw [e]
    unfold ppart
    simp only at hk h4 h8 ⊢
    rw [if_neg (by omega)]
    by_cases q1 : m ≤ s
    · rw [if_neg (by omega), if_pos (by omega), if_pos q1]
      exact ⟨by omega, by omega⟩
    · by_cases q2 : m = s + 1
      · rw [if_pos (by omega), if_neg q1, if_pos q2]; trivial
      · rw [if_neg (by omega), if_neg (by omega), if_neg q1, if_neg q2]
        refine ⟨by omega, ?_⟩
        by_cases q3 : (m - s) % 2 = 1
        · rw [if_pos q3, if_pos (by omega)]
          have z := h8 (by omega)
          obtain ⟨j, hj⟩ : ∃ j, k = u + 8 * j := ⟨(k - u) / 8, by omega⟩
          rw [hj, show (u + 8 * j) * t - t * u = 8 * (j * t) by grind]; omega
        · rw [if_neg q3, if_neg (by omega)]
          have z := h4 (by omega)
          obtain ⟨j, hj⟩ : ∃ j, k = u + 4 * j := ⟨(k - u) / 4, by omega⟩
          have : k * t % 4 = t * u % 4 := by
            rw [hj, show (u + 4 * j) * t = t * u + 4 * (j * t) by grind]; omega
          omega
  | pr s a b d =>
    obtain ⟨rfl, hb, hk, hi⟩ := h
    have e : bpart w m ((Bk.pr s a b d).tm t) = some (4 * w - 2 * (m - (s + 1)), if (m - (s + 1)) % 2 = 1 ∧ t * a % 2 = 1 ∧ t * d % 2 = 1 then 4 else 0) := rfl
    rw [e]
    unfold ppart
    simp only at hk hi ⊢
    rw [if_pos hk]
    have ta : t * a % 2 = a % 2 := by rw [Int.mul_emod, ht]; omega
    have td : t * d % 2 = d % 2 := by rw [Int.mul_emod, ht]; omega
    rw [ta, td]
    have mx : max ((m : Int) - s - 1) 0 = ((m - (s + 1) : Nat) : Int) := by omega
    rw [mx]
    refine ⟨by omega, ?_⟩
    by_cases q : (m - (s + 1)) % 2 = 1 ∧ a % 2 = 1 ∧ d % 2 = 1
    · rw [if_pos q, if_pos ⟨hi.mpr q.2, by omega⟩]; rfl
    · rw [if_neg q, if_neg (fun z => q ⟨by omega, hi.mp z.1⟩)]; rfl
  | ze => exact h.elim

/-! ### all pieces -/
inductive Mts (w : Nat) : List Bk → List (Nat × Int) → Prop
  | nil : Mts w [] []
  | cons {b : Bk} {bs : List Bk} {p : Nat × Int} {ps : List (Nat × Int)} : Mt w b p → Mts w bs ps → Mts w (b :: bs) (p :: ps)
def zes (z : Nat) : List Bk := List.replicate z .ze
theorem bparts_zes (w m : Nat) : ∀ z, bparts w m (zes z) = some (2 * w * z, 0)
  | 0 => rfl
  | z + 1 => by
    show (match bpart w m .ze, bparts w m (zes z) with
      | some (h, t), some (h', t') => some (h' + h, t' + t)
      | _, _ => none) = _
    rw [bparts_zes w m z]
    show some (2 * w * z + 2 * w, (0 : Int) + 0) = _
    rw [Nat.mul_add, Nat.mul_one]; rfl
theorem Mts.dims {w : Nat} {bs : List Bk} {ps : List (Nat × Int)} (h : Mts w bs ps) : (Sq.dims bs : Int) = psize ps := by
  induction h with
  | nil => rfl
  | cons a _ ih =>
    show (((_ + Sq.dims _ : Nat)) : Int) = (2 - _ % 2) + psize _
    rw [← ih, ← a.dim]
    exact Int.natCast_add _ _
theorem Mts.ok {w : Nat} {bs : List Bk} {ps : List (Nat × Int)} (h : Mts w bs ps) (z : Nat) : ∀ b ∈ bs ++ zes z, b.ok := by
  intro b hb
  rcases List.mem_append.mp hb with hb | hb
  · induction h with
    | nil => cases hb
    | cons a _ ih =>
      rcases List.mem_cons.mp hb with e | e
      · rw [e]; exact a.okb
      · exact ih (List.mem_append_left _ e) e
  · rw [List.eq_of_mem_replicate hb]; trivial
/-- the sums of the program's parts are the blocks' -/
theorem parts_al {w m : Nat} (hm : m ≤ w) {t : Int} (ht : t % 2 = 1) (z : Nat) {bs : List Bk} {ps : List (Nat × Int)} (h : Mts w bs ps) :
    AlP (if allSome (ps.map (ppart w m t)) = true then some (2 * w * (z : Int) + (((ps.map (ppart w m t)).filterMap id).map (·.1)).sum, (((ps.map (ppart w m t)).filterMap id).map (·.2)).sum) else none) (bparts w m ((bs ++ zes z).map (Bk.tm t))) := by
  induction h with
  | nil =>
    have e : ([] ++ zes z).map (Bk.tm t) = zes z := by
      unfold zes; rw [List.nil_append, List.map_replicate]; rfl
    rw [e, bparts_zes]
    show AlP (some (2 * w * (z : Int) + 0, 0)) _
    refine ⟨?_, rfl⟩
    rw [Int.add_zero, Int.natCast_mul, Int.natCast_mul]; rfl
  | @cons b bs p ps a _ ih =>
    have hp := ppart_al hm a ht
    show AlP _ (match bpart w m (b.tm t), bparts w m ((bs ++ zes z).map (Bk.tm t)) with
      | some (h, t), some (h', t') => some (h' + h, t' + t)
      | _, _ => none)
    rw [List.map_cons]
    cases e1 : ppart w m t p with
    | none =>
      rw [e1] at hp
      cases e2 : bpart w m (b.tm t) with
      | none => trivial
      | some y => rw [e2] at hp; exact hp.elim
    | some x =>
      obtain ⟨h1, t1⟩ := x
      rw [e1] at hp
      cases e2 : bpart w m (b.tm t) with
      | none => rw [e2] at hp; exact hp.elim
      | some y =>
        obtain ⟨h2, t2⟩ := y
        rw [e2] at hp
        obtain ⟨a1, a2⟩ := hp
        have hall : allSome (some (h1, t1) :: ps.map (ppart w m t)) = allSome (ps.map (ppart w m t)) := by
          unfold allSome; rw [List.all_cons]; rfl
        rw [hall]
        by_cases q : allSome (ps.map (ppart w m t)) = true
        · rw [if_pos q] at ih ⊢
          cases e3 : bparts w m ((bs ++ zes z).map (Bk.tm t)) with
          | none => rw [e3] at ih; exact ih.elim
          | some y =>
            obtain ⟨h3, t3⟩ := y
            rw [e3] at ih
            obtain ⟨b1, b2⟩ := ih
            show AlP (some (2 * w * (z : Int) + (h1 + (((ps.map (ppart w m t)).filterMap id).map (·.1)).sum), t1 + (((ps.map (ppart w m t)).filterMap id).map (·.2)).sum)) (some (h3 + h2, t3 + t2))
            refine ⟨?_, ?_⟩
            · rw [Int.natCast_add, ← b1, a1]; omega
            · omega
        · rw [if_neg q] at ih ⊢
          cases e3 : bparts w m ((bs ++ zes z).map (Bk.tm t)) with
          | none => trivial
          | some y => rw [e3] at ih; exact ih.elim

/-! ### the whole part -/
theorem wp1_mod {t t' : Int} (h : (t - t') % 8 = 0) : wp1 t = wp1 t' := by
  unfold wp1
  have e : t % 8 = t' % 8 := by omega
  have e4 : t % 4 = t' % 4 := by omega
  rw [e, e4]
theorem em_left {a b c : Int} (hb : 0 < c) : a * c % (b * c) = a % b * c := by
  rw [Int.mul_comm a, Int.mul_comm b, Int.mul_emod_mul_of_pos _ _ hb, Int.mul_comm]
theorem dl_turn (m : Nat) (t : Int) : dl m (t * 2 ^ m) = wp1 t := by
  have hp := pos2 m
  have e : t * 2 ^ m % (8 * 2 ^ m) = (t % 8) * 2 ^ m := em_left hp
  unfold dl wp1
  rw [e]
  generalize (2 : Int) ^ m = S at hp
  have h0 : 0 ≤ t % 8 := by omega
  have h1 : t % 8 < 8 := by omega
  have z : ∀ k : Int, (k * S = 0 ↔ k = 0) := fun k => ⟨fun h => by
    rcases Int.mul_eq_zero.mp h with h | h
    · exact h
    · omega, fun h => by rw [h, Int.zero_mul]⟩
  have f : ∀ k : Int, (k * S = 4 * S ↔ k = 4) := fun k => ⟨fun h => Int.eq_of_mul_eq_mul_right (by omega) h, fun h => by rw [h]⟩
  rcases (show t % 8 = 0 ∨ t % 8 = 4 ∨ (t % 8 ≠ 0 ∧ t % 8 ≠ 4) by omega) with q | q | q
  · rw [if_pos ((z _).mpr q), if_pos (by omega), q]; rfl
  · rw [if_neg (fun h => by have := (z _).mp h; omega), if_pos ((f _).mpr q), if_pos (by omega), q]; rfl
  · rw [if_neg (fun h => q.1 ((z _).mp h)), if_neg (fun h => q.2 ((f _).mp h)), if_neg (by omega)]
theorem whole_vl (m h : Nat) {t t' : Int} (e : (t - t') % 8 = 0) : wholePart (h : Int) t = vl m (dl m) h t' 0 := by
  unfold wholePart vl
  rw [Int.zero_add, Int.zero_add, Int.zero_add, dl_turn, dl_turn, dl_turn, wp1_mod e, wp1_mod (show (t + 1 - (t' + 1)) % 8 = 0 by omega), wp1_mod (show (t - 1 - (t' - 1)) % 8 = 0 by omega)]
  rw [show (((h : Int) / 2).toNat) = h / 2 by omega]
  by_cases q : h % 2 = 0
  · rw [if_pos q, if_pos (by omega)]
  · rw [if_neg q, if_neg (by omega)]
theorem whole_more (h t : Int) (h0 : 0 ≤ h) (k : Nat) : wholePart (h + 2 * (k : Int)) t = 2 ^ k * wholePart h t := by
  unfold wholePart
  rw [show (h + 2 * (k : Int)) % 2 = h % 2 by omega, show ((h + 2 * (k : Int)) / 2).toNat = k + (h / 2).toNat by omega, Int.pow_add, Int.mul_assoc]

/-- what one odd number puts in -/
theorem entry_val {w m : Nat} (hm : m ≤ w) (h1 : 1 ≤ m) {o : Int} (ho : o % 2 = 1) (z : Nat) {bs : List Bk} {ps : List (Nat × Int)} (h : Mts w bs ps) :
    ((entry w ps (psize ps + z) m o).map val0).sum = 2 ^ (m - 3) * sgs w m (bs ++ zes z) := by
  have e1 : sgs w m (bs ++ zes z) = cnt w (fun y => dl m (8 * y)) ((bs ++ zes z).map (Bk.tm o)) 0 := by
    unfold sgs
    have q := cnt_tm (w := w) o (fun y => dl m (8 * y)) (bs ++ zes z) 0
    rw [Int.mul_zero] at q
    rw [← q]
    refine cnt_congr (fun c => ?_) _ _
    rw [show 8 * (o * c) = o * (8 * c) by grind, dl_mul m ho]
  have okm : ∀ b ∈ (bs ++ zes z).map (Bk.tm o), b.ok := fun b hb => by
    obtain ⟨b0, h0, rfl⟩ := List.mem_map.mp hb
    have := h.ok z b0 h0
    cases b0 with
    | sq s u => show o * u % 2 = 1; rw [Int.mul_emod, ho, show u % 2 = 1 from this]; rfl
    | pr s a b d => show o * b % 2 = 1; rw [Int.mul_emod, ho, show b % 2 = 1 from this]; rfl
    | ze => trivial
  have e2 := cnt_parts hm h1 (dl_an m) _ okm 0
  have al := parts_al hm ho z h
  rw [e1, e2]
  unfold entry
  by_cases q : allSome (ps.map (ppart w m o)) = true
  · rw [if_pos q] at al ⊢
    cases e3 : bparts w m ((bs ++ zes z).map (Bk.tm o)) with
    | none => rw [e3] at al; exact al.elim
    | some y =>
      obtain ⟨h', t'⟩ := y
      rw [e3] at al
      obtain ⟨a1, a2⟩ := al
      rw [show psize ps + (z : Int) - psize ps = (z : Int) by omega, a1]
      show val0 (m, o, _, _) + 0 = _
      show val0 (m, o, _, _) + 0 = 2 ^ (m - 3) * vl m (dl m) h' t' (8 * 0)
      rw [Int.add_zero, Int.mul_zero, ← whole_vl m h' a2]
      unfold val0
      by_cases q4 : m < 4
      · rw [if_pos q4, show m - 3 = 0 by omega]
        show _ = 1 * _
        rw [Int.one_mul]
      · rw [if_neg q4]
        have := whole_more (h' : Int) ((((ps.map (ppart w m o)).filterMap id).map (·.2)).sum) (by omega) (m - 3)
        rw [← this]
        show wholePart (_ + 2 * ((m : Int) - 3)) _ = _
        congr 2
        omega
  · rw [if_neg q] at al ⊢
    cases e3 : bparts w m ((bs ++ zes z).map (Bk.tm o)) with
    | none => show (0 : Int) = _ * 0; rw [Int.mul_zero]
    | some y => rw [e3] at al; exact al.elim
theorem entry_zero {w : Nat} (z : Nat) {bs : List Bk} {ps : List (Nat × Int)} (h : Mts w bs ps) : ((entry w ps (psize ps + z) 0 0).map val0).sum = 2 ^ (w * dims (bs ++ zes z)) := by
  have key : allSome (ps.map (ppart w 0 0)) = true ∧ (((ps.map (ppart w 0 0)).filterMap id).map (·.1)).sum = 2 * w * psize ps ∧ (((ps.map (ppart w 0 0)).filterMap id).map (·.2)).sum = 0 := by
    induction h with
    | nil => exact ⟨rfl, by show (0 : Int) = 2 * w * 0; omega, rfl⟩
    | @cons b bs p ps a _ ih =>
      obtain ⟨i1, i2, i3⟩ := ih
      have e : ppart w 0 0 p = some (2 * w * (2 - p.2 % 2), 0) := by
        unfold ppart
        by_cases q : p.2 % 2 = 0
        · rw [if_pos q, q, show max (((0 : Nat) : Int) - p.1 - 1) 0 = 0 by omega, if_neg (by omega)]
          congr 2; omega
        · rw [if_neg q, if_neg (by omega), if_pos (by omega), show p.2 % 2 = 1 by omega]
          congr 2; omega
      rw [List.map_cons, e]
      refine ⟨?_, ?_, ?_⟩
      · unfold allSome at i1 ⊢; rw [List.all_cons, i1]; rfl
      · show 2 * w * (2 - p.2 % 2) + (((ps.map (ppart w 0 0)).filterMap id).map (·.1)).sum = 2 * w * ((2 - p.2 % 2) + psize ps)
        rw [i2, Int.mul_add]
      · show (0 : Int) + (((ps.map (ppart w 0 0)).filterMap id).map (·.2)).sum = 0
        rw [i3]; rfl
  obtain ⟨k1, k2, k3⟩ := key
  unfold entry
  rw [if_pos k1, k2, k3]
  show val0 (0, 0, _, _) + 0 = _
  rw [Int.add_zero]
  unfold val0
  rw [if_pos (show 0 < 4 by decide)]
  show wholePart _ 0 = _
  have hd : (dims (bs ++ zes z) : Int) = psize ps + z := by
    have : dims (bs ++ zes z) = dims bs + z := by
      unfold dims; rw [List.map_append, List.sum_append]
      congr 1
      unfold zes; rw [List.map_replicate]
      show (List.replicate z 1).sum = z
      rw [List.sum_replicate_nat]; omega
    rw [this, Int.natCast_add, h.dims]
  unfold wholePart
  have e : 2 * (w : Int) * (psize ps + z - psize ps) + 2 * w * psize ps = 2 * ((w * dims (bs ++ zes z) : Nat) : Int) := by
    rw [Int.natCast_mul, hd]; grind
  rw [e]
  generalize w * dims (bs ++ zes z) = q
  rw [if_pos (show (2 * (q : Int)) % 2 = 0 by omega), show ((2 * (q : Int)) / 2).toNat = q by omega]
  show _ * (1 : Int) = _
  rw [Int.mul_one]
theorem odds_sum {w m : Nat} (hm : m ≤ w) (h1 : 1 ≤ m) (z : Nat) {bs : List Bk} {ps : List (Nat × Int)} (h : Mts w bs ps) :
    (((oddsOf m).flatMap fun o => entry w ps (psize ps + z) m o).map val0).sum = 2 ^ (m - 1) * sgs w m (bs ++ zes z) := by
  have ev := fun (o : Int) (ho : o % 2 = 1) => entry_val hm h1 ho z h
  have key : ∀ os : List Int, (∀ o ∈ os, o % 2 = 1) → ((os.flatMap fun o => entry w ps (psize ps + z) m o).map val0).sum = os.length * (2 ^ (m - 3) * sgs w m (bs ++ zes z)) := by
    intro os
    induction os with
    | nil => intro _; simp
    | cons o os ih =>
      intro ho
      rw [List.flatMap_cons, List.map_append, List.sum_append_int, ev o (ho o List.mem_cons_self), ih fun x hx => ho x (List.mem_cons_of_mem _ hx), List.length_cons, Int.natCast_add, Int.add_mul]
      omega
  unfold oddsOf
  rw [if_neg (by omega)]
  by_cases q1 : m = 1
  · rw [if_pos q1, key _ (by decide), q1]; show 1 * (1 * _) = 1 * _; omega
  · rw [if_neg q1]
    by_cases q2 : m = 2
    · rw [if_pos q2, key _ (by decide), q2]; show 2 * (1 * _) = 2 * _; omega
    · rw [if_neg q2, key _ (by decide), ← Int.mul_assoc]
      congr 1
      show (4 : Int) * _ = _
      rw [show m - 1 = m - 3 + 2 by omega, pw1, pw1]; omega
/-- the program's reckoning is right for blocks -/
theorem cnt0_noughts {w : Nat} (z : Nat) {bs : List Bk} {ps : List (Nat × Int)} (h : Mts w bs ps) : cnt0 w ps (psize ps + z) = noughts w (bs ++ zes z) := by
  have key : ∀ k, k ≤ w → ((tbl w ps (psize ps + z) k).map val0).sum = 2 ^ (w * dims (bs ++ zes z)) + sumTo (fun m => 2 ^ m * sgs w (m + 1) (bs ++ zes z)) k := by
    intro k
    induction k with
    | zero =>
      intro _
      have e : tbl w ps (psize ps + z) 0 = entry w ps (psize ps + z) 0 0 := by
        unfold tbl oddsOf
        rw [show List.range (0 + 1) = [0] from rfl, List.flatMap_cons, List.flatMap_nil, if_pos rfl, List.flatMap_cons, List.flatMap_nil, List.append_nil, List.append_nil]
      rw [e, entry_zero z h]
      show _ = _ + (0 : Int)
      omega
    | succ k ih =>
      intro hk
      have e : tbl w ps (psize ps + z) (k + 1) = tbl w ps (psize ps + z) k ++ (oddsOf (k + 1)).flatMap fun o => entry w ps (psize ps + z) (k + 1) o := by
        unfold tbl
        rw [List.range_succ (n := k + 1), List.flatMap_append, List.flatMap_cons, List.flatMap_nil, List.append_nil]
      rw [e, List.map_append, List.sum_append_int, ih (by omega), odds_sum hk (by omega) z h]
      show _ = _ + (sumTo (fun m => 2 ^ m * sgs w (m + 1) (bs ++ zes z)) k + 2 ^ k * sgs w (k + 1) (bs ++ zes z))
      rw [Nat.add_sub_cancel]; omega
  unfold cnt0
  rw [key w (Nat.le_refl _), ← noughts_sum, Int.mul_ediv_cancel_left _ (by have := pos2 w; omega)]
end Sq
set_option autoImplicit false
set_option linter.all false
set_option maxHeartbeats 1000000
/-! Noughts of forms of several words, and what keeps their number. -/
namespace Sq
abbrev Vx := Nat → Int
def up (x : Vx) (i : Nat) (v : Int) : Vx := fun j => if j = i then v else x j
theorem up_same (x : Vx) (i : Nat) (v : Int) : up x i v i = v := if_pos rfl
theorem up_ne (x : Vx) {i j : Nat} (v : Int) (h : j ≠ i) : up x i v j = x j := if_neg h
theorem up_up (x : Vx) (i : Nat) (a b : Int) : up (up x i a) i b = up x i b := by
  funext j; unfold up; by_cases h : j = i
  · rw [if_pos h, if_pos h]
  · rw [if_neg h, if_neg h, if_neg h]
theorem up_comm (x : Vx) {i j : Nat} (h : i ≠ j) (a b : Int) : up (up x i a) j b = up (up x j b) i a := by
  funext k; unfold up
  by_cases h1 : k = i
  · subst h1; rw [if_neg h, if_pos rfl, if_pos rfl]
  · by_cases h2 : k = j
    · rw [if_pos h2, if_neg h1, if_pos h2]
    · rw [if_neg h2, if_neg h1, if_neg h1, if_neg h2]
def sv (q : Nat) : List Nat → (Vx → Int) → Vx → Int
  | [], f, x => f x
  | i :: is, f, x => sm q (fun a => sv q is f (up x i a))
theorem sv_perm {q : Nat} {is js : List Nat} (h : is.Perm js) : ∀ (f : Vx → Int) (x : Vx), sv q is f x = sv q js f x := by
  induction h with
  | nil => intro f x; rfl
  | cons i _ ih => intro f x; exact sm_ext fun a => ih f _
  | swap i j l =>
    intro f x
    show sm q (fun a => sm q (fun b => sv q l f (up (up x j a) i b))) = sm q (fun a => sm q (fun b => sv q l f (up (up x i a) j b)))
    by_cases e : i = j
    · subst e; rfl
    · rw [sm_comm]
      exact sm_ext fun b => sm_ext fun a => by rw [up_comm x (fun z => e z.symm)]
  | trans _ _ ih1 ih2 => intro f x; exact (ih1 f x).trans (ih2 f x)
/-- functions that agree where only the names is have moved -/
theorem sv_congr {q : Nat} {f g : Vx → Int} : ∀ {is : List Nat} {x : Vx}, (∀ y : Vx, (∀ j, j ∉ is → y j = x j) → f y = g y) → sv q is f x = sv q is g x
  | [], x, h => h x fun _ _ => rfl
  | i :: is, x, h => sm_ext fun a => sv_congr fun y hy => h y fun j hj => by
      rw [List.mem_cons, not_or] at hj
      rw [hy j hj.2, up_ne x a hj.1]
theorem sv_app (q : Nat) (f : Vx → Int) (js : List Nat) : ∀ (is : List Nat) (x : Vx), sv q (is ++ js) f x = sv q is (fun y => sv q js f y) x
  | [], x => rfl
  | i :: is, x => sm_ext fun a => sv_app q f js is _
theorem perm_last {i : Nat} {is : List Nat} (h : i ∈ is) : ∃ js, is.Perm (js ++ [i]) := by
  have := List.perm_cons_erase h
  exact ⟨is.erase i, this.trans ((List.perm_append_comm (l₁ := [i]) (l₂ := is.erase i)))⟩
def Per (q : Int) (f : Vx → Int) : Prop := ∀ x i, f (up x i (x i + q)) = f x
theorem Per.at {q : Int} {f : Vx → Int} (h : Per q f) (x : Vx) (i : Nat) (a : Int) : f (up x i (a + q)) = f (up x i a) := by
  have e := h (up x i a) i
  rw [up_up, up_same] at e
  exact e
/-- x_i is moved by what does not hang on it -/
theorem sv_shear {q : Nat} {f : Vx → Int} (hp : Per q f) {i : Nat} {g : Vx → Int} (hg : ∀ x a, g (up x i a) = g x) {is : List Nat} (hi : i ∈ is) (x : Vx) : sv q is (fun y => f (up y i (y i + g y))) x = sv q is f x := by
  obtain ⟨js, e⟩ := perm_last hi
  rw [sv_perm e, sv_perm e, sv_app, sv_app]
  refine sv_congr fun y _ => ?_
  show sm q (fun a => f (up (up y i a) i (up y i a i + g (up y i a)))) = sm q (fun a => f (up y i a))
  have z := sm_shift (f := fun a => f (up y i a)) (q := q) (fun a => hp.at y i a) (g y)
  rw [← z]
  exact sm_ext fun a => by rw [up_up, up_same, hg]
/-- x_i is multiplied by an odd number -/
theorem sv_scale {w : Nat} {f : Vx → Int} (hp : Per (2 ^ w) f) {i : Nat} {u : Int} (hu : u % 2 = 1) {is : List Nat} (hi : i ∈ is) (x : Vx) : sv (2 ^ w) is (fun y => f (up y i (u * y i))) x = sv (2 ^ w) is f x := by
  obtain ⟨js, e⟩ := perm_last hi
  rw [sv_perm e, sv_perm e, sv_app, sv_app]
  refine sv_congr fun y _ => ?_
  show sm (2 ^ w) (fun a => f (up (up y i a) i (u * up y i a i))) = sm (2 ^ w) (fun a => f (up y i a))
  have z := sm_odd (w := w) hu (f := fun a => f (up y i a)) (fun a => hp.at y i a)
  rw [← z]
  exact sm_ext fun a => by rw [up_up, up_same]

/-! ### sums over lists of names -/
def sl (f : Nat → Int) (l : List Nat) : Int := (l.map f).sum
theorem sl_nil (f : Nat → Int) : sl f [] = 0 := rfl
theorem sl_cons (f : Nat → Int) (i : Nat) (l : List Nat) : sl f (i :: l) = f i + sl f l := rfl
theorem sl_perm {f : Nat → Int} {l m : List Nat} (h : l.Perm m) : sl f l = sl f m := by
  induction h with
  | nil => rfl
  | cons i _ ih => rw [sl_cons, sl_cons, ih]
  | swap i j l => rw [sl_cons, sl_cons, sl_cons, sl_cons]; omega
  | trans _ _ a b => exact a.trans b
theorem sl_congr {f g : Nat → Int} : ∀ {l : List Nat}, (∀ i ∈ l, f i = g i) → sl f l = sl g l
  | [], _ => rfl
  | i :: l, h => by rw [sl_cons, sl_cons, h i List.mem_cons_self, sl_congr fun j hj => h j (List.mem_cons_of_mem _ hj)]
theorem sl_add (f g : Nat → Int) : ∀ l : List Nat, sl (fun i => f i + g i) l = sl f l + sl g l
  | [] => rfl
  | i :: l => by rw [sl_cons, sl_cons, sl_cons, sl_add f g l]; omega
theorem sl_mul (c : Int) (f : Nat → Int) : ∀ l : List Nat, sl (fun i => c * f i) l = c * sl f l
  | [] => by rw [sl_nil, sl_nil, Int.mul_zero]
  | i :: l => by rw [sl_cons, sl_cons, sl_mul c f l, Int.mul_add]
theorem sl_zero : ∀ l : List Nat, sl (fun _ => 0) l = 0
  | [] => rfl
  | i :: l => by rw [sl_cons, sl_zero l]; rfl
theorem sl_comm (f : Nat → Nat → Int) (m : List Nat) : ∀ l : List Nat, sl (fun i => sl (fun j => f i j) m) l = sl (fun j => sl (fun i => f i j) l) m
  | [] => by rw [sl_nil]; exact (sl_zero m).symm
  | i :: l => by
    rw [sl_cons, sl_comm f m l, ← sl_add]
    exact sl_congr fun j _ => (sl_cons (fun i => f i j) i l).symm
/-- one item alone -/
theorem sl_one {f : Nat → Int} {i : Nat} : ∀ {l : List Nat}, l.Nodup → i ∈ l → (∀ j ∈ l, j ≠ i → f j = 0) → sl f l = f i
  | j :: l, nd, hi, h => by
    rw [List.nodup_cons] at nd
    rw [sl_cons]
    by_cases e : j = i
    · subst e
      rw [sl_congr (g := fun _ => 0) (fun k hk => h k (List.mem_cons_of_mem _ hk) (fun q => nd.1 (q ▸ hk))), sl_zero, Int.add_zero]
    · rw [h j List.mem_cons_self e, Int.zero_add]
      refine sl_one nd.2 ?_ fun k hk => h k (List.mem_cons_of_mem _ hk)
      rcases List.mem_cons.mp hi with q | q
      · exact absurd q.symm e
      · exact q

/-! ### forms -/
abbrev Mx := Nat → Nat → Int
def ql (l : List Nat) (M : Mx) (x : Vx) : Int := sl (fun i => sl (fun j => M i j * (x i * x j)) l) l
theorem ql_perm {l m : List Nat} (h : l.Perm m) (M : Mx) (x : Vx) : ql l M x = ql m M x := by
  unfold ql
  rw [sl_perm h]
  exact sl_congr fun i _ => sl_perm h
/-- how often a form of the names l is 0 by 2 ^ w -/
def nz (w : Nat) (l : List Nat) (M : Mx) : Int := sv (2 ^ w) l (fun x => nul w (ql l M x)) (fun _ => 0)
theorem nul_congr {w : Nat} {a b : Int} (h : (a - b) % 2 ^ w = 0) : nul w a = nul w b := by
  unfold nul
  rw [Int.emod_eq_emod_iff_emod_sub_eq_zero.mpr h]
theorem nul_add {w : Nat} (a k : Int) : nul w (a + 2 ^ w * k) = nul w a := by
  unfold nul; rw [Int.add_mul_emod_self_left]
theorem ql_congr {l : List Nat} {M N : Mx} {x y : Vx} (hx : ∀ i ∈ l, x i = y i) (hM : ∀ i ∈ l, ∀ j ∈ l, M i j = N i j) : ql l M x = ql l N y := by
  unfold ql
  refine sl_congr fun i hi => sl_congr fun j hj => ?_
  rw [hx i hi, hx j hj, hM i hi j hj]
theorem sl_prod (f g : Nat → Int) (m : List Nat) : ∀ l : List Nat, sl f l * sl g m = sl (fun i => sl (fun j => f i * g j) m) l
  | [] => by rw [sl_nil, sl_nil, Int.zero_mul]
  | i :: l => by rw [sl_cons, sl_cons, Int.add_mul, sl_prod f g m l, sl_mul]
/-- the value behind a change -/
def lin (l : List Nat) (U : Mx) (x : Vx) : Vx := fun a => sl (fun i => U a i * x i) l
/-- the form behind a change -/
def cb (l : List Nat) (M U : Mx) : Mx := fun i j => sl (fun b => sl (fun a => U a i * M a b) l * U b j) l
theorem ql_cb (l : List Nat) (M U : Mx) (x : Vx) : ql l (cb l M U) x = ql l M (lin l U x) := by
  have e1 : ∀ i j, cb l M U i j * (x i * x j) = sl (fun a => sl (fun b => M a b * ((U a i * x i) * (U b j * x j))) l) l := fun i j => by
    unfold cb
    rw [Int.mul_comm, ← sl_mul, sl_comm]
    refine sl_congr fun b _ => ?_
    rw [show (x i * x j) * (sl (fun a => U a i * M a b) l * U b j) = (x i * x j * U b j) * sl (fun a => U a i * M a b) l by grind, ← sl_mul]
    exact sl_congr fun a _ => by grind
  have e2 : ∀ a b, M a b * (lin l U x a * lin l U x b) = sl (fun i => sl (fun j => M a b * ((U a i * x i) * (U b j * x j))) l) l := fun a b => by
    unfold lin
    rw [sl_prod, ← sl_mul]
    exact sl_congr fun i _ => (sl_mul _ _ _).symm
  unfold ql
  rw [sl_congr (fun i _ => sl_congr (fun j _ => e1 i j)), sl_congr (g := fun a => sl (fun b => M a b * (lin l U x a * lin l U x b)) l) (l := l) (fun a _ => rfl), sl_congr (fun a _ => sl_congr (fun b _ => e2 a b))]
  -- i j a b to a b i j
  rw [sl_congr (fun i _ => sl_comm (fun j a => sl (fun b => M a b * ((U a i * x i) * (U b j * x j))) l) l l)]
  rw [sl_comm]
  refine sl_congr fun a _ => ?_
  rw [sl_congr (fun i _ => sl_comm (fun j b => M a b * ((U a i * x i) * (U b j * x j))) l l)]
  exact sl_comm _ _ _
theorem cb_symm (l : List Nat) {M : Mx} (U : Mx) (h : ∀ i ∈ l, ∀ j ∈ l, M i j = M j i) (i j : Nat) : cb l M U i j = cb l M U j i := by
  unfold cb
  have e : ∀ i j, sl (fun b => sl (fun a => U a i * M a b) l * U b j) l = sl (fun b => sl (fun a => U a i * M a b * U b j) l) l := fun i j => sl_congr fun b _ => by
    rw [Int.mul_comm, ← sl_mul]; exact sl_congr fun a _ => Int.mul_comm _ _
  rw [e, e, sl_comm]
  refine sl_congr fun a ha => sl_congr fun b hb => ?_
  rw [h a ha b hb]; grind
def tab (W : Nat) (M : Mx) : Mx := fun i j => M i j % (if i = j then 2 ^ W else 2 ^ (W - 1))
theorem ql_cons (i : Nat) (l : List Nat) (M : Mx) (x : Vx) : ql (i :: l) M x = M i i * (x i * x i) + sl (fun j => (M i j + M j i) * (x i * x j)) l + ql l M x := by
  unfold ql
  have e0 : sl (fun k => sl (fun j => M k j * (x k * x j)) (i :: l)) l = sl (fun k => M k i * (x k * x i)) l + sl (fun k => sl (fun j => M k j * (x k * x j)) l) l := by
    rw [← sl_add]; exact sl_congr fun k _ => sl_cons _ _ _
  rw [sl_cons, sl_cons, e0]
  have : sl (fun j => (M i j + M j i) * (x i * x j)) l = sl (fun j => M i j * (x i * x j)) l + sl (fun k => M k i * (x k * x i)) l := by
    rw [← sl_add]; exact sl_congr fun j _ => by grind
  rw [this]; omega
theorem sl_dvd {q : Int} {f : Nat → Int} : ∀ {l : List Nat}, (∀ i ∈ l, q ∣ f i) → q ∣ sl f l
  | [], _ => Int.dvd_zero q
  | i :: l, h => Int.dvd_add (h i List.mem_cons_self) (sl_dvd fun j hj => h j (List.mem_cons_of_mem _ hj))
theorem ql_dvd {q : Int} {M : Mx} {x : Vx} : ∀ {l : List Nat}, (∀ i ∈ l, q ∣ M i i) → (∀ i ∈ l, ∀ j ∈ l, q ∣ M i j + M j i) → q ∣ ql l M x
  | [], _, _ => Int.dvd_zero q
  | i :: l, h1, h2 => by
    rw [ql_cons]
    refine Int.dvd_add (Int.dvd_add (Int.dvd_trans (h1 i List.mem_cons_self) (Int.dvd_mul_right _ _)) (sl_dvd fun j hj => Int.dvd_trans (h2 i List.mem_cons_self j (List.mem_cons_of_mem _ hj)) (Int.dvd_mul_right _ _))) ?_
    exact ql_dvd (fun j hj => h1 j (List.mem_cons_of_mem _ hj)) fun j hj k hk => h2 j (List.mem_cons_of_mem _ hj) k (List.mem_cons_of_mem _ hk)
theorem ql_sub (l : List Nat) (M N : Mx) (x : Vx) : ql l M x - ql l N x = ql l (fun i j => M i j - N i j) x := by
  have e : ql l M x = ql l (fun i j => M i j - N i j) x + ql l N x := by
    unfold ql
    rw [← sl_add]
    refine sl_congr fun i _ => ?_
    rw [← sl_add]
    exact sl_congr fun j _ => by grind
  omega
theorem nz_congr {w : Nat} {l : List Nat} {M N : Mx} (h : ∀ x, (2 : Int) ^ w ∣ ql l M x - ql l N x) : nz w l M = nz w l N := by
  unfold nz
  refine sv_congr fun y _ => nul_congr ?_
  exact Int.emod_eq_zero_of_dvd (h y)
theorem nz_same {w : Nat} {l : List Nat} {M N : Mx} (h : ∀ i ∈ l, ∀ j ∈ l, M i j = N i j) : nz w l M = nz w l N := nz_congr fun x => by
  rw [ql_congr (fun _ _ => rfl) h, Int.sub_self]; exact Int.dvd_zero _
theorem pdvd {a b : Nat} (h : a ≤ b) : (2 : Int) ^ a ∣ 2 ^ b := ⟨2 ^ (b - a), by rw [← Int.pow_add, Nat.add_sub_cancel' h]⟩
theorem emod_sub_dvd (a m : Int) : m ∣ a % m - a := ⟨-(a / m), by have := Int.emod_add_mul_ediv a m; rw [Int.mul_neg]; omega⟩
theorem nz_tab {w W : Nat} (hw : w ≤ W) (h1 : 1 ≤ W) {l : List Nat} {M : Mx} (hs : ∀ i ∈ l, ∀ j ∈ l, M i j = M j i) : nz w l (tab W M) = nz w l M := nz_congr fun x => by
  rw [ql_sub]
  refine ql_dvd (fun i _ => ?_) (fun i hi j hj => ?_)
  · unfold tab; rw [if_pos rfl]; exact Int.dvd_trans (pdvd hw) (emod_sub_dvd _ _)
  · unfold tab
    by_cases e : i = j
    · subst e; rw [if_pos rfl]; exact Int.dvd_trans (pdvd hw) (Int.dvd_add (emod_sub_dvd _ _) (emod_sub_dvd _ _))
    · rw [if_neg e, if_neg (fun z => e z.symm), hs j hj i hi]
      obtain ⟨k, hk⟩ := emod_sub_dvd (M i j) (2 ^ (W - 1))
      rw [hk]
      refine Int.dvd_trans (pdvd hw) ⟨k, ?_⟩
      have : (2 : Int) ^ W = 2 * 2 ^ (W - 1) := by rw [← pw1]; congr 1; omega
      rw [this]; grind
theorem per_ql (w : Nat) (l : List Nat) (M : Mx) : Per (2 ^ w) (fun x => nul w (ql l M x)) := fun x i => by
  refine nul_congr (Int.emod_eq_zero_of_dvd ?_)
  unfold ql
  have e : ∀ (A B : Nat → Int), sl A l - sl B l = sl (fun a => A a - B a) l := fun A B => by
    have := sl_add (fun a => A a - B a) B l
    rw [sl_congr (g := A) (fun a _ => by omega)] at this
    omega
  rw [e]
  refine sl_dvd fun a _ => ?_
  rw [e]
  refine sl_dvd fun b _ => ?_
  have key : ∀ c, ∃ k, up x i (x i + 2 ^ w) c = x c + 2 ^ w * k := fun c => by
    by_cases h : c = i
    · subst h; exact ⟨1, by rw [up_same]; omega⟩
    · exact ⟨0, by rw [up_ne x _ h]; omega⟩
  obtain ⟨k1, h1⟩ := key a
  obtain ⟨k2, h2⟩ := key b
  rw [h1, h2]
  exact ⟨M a b * (k1 * x b + x a * k2 + 2 ^ w * (k1 * k2)), by grind⟩

/-! ### changes -/
def dlt (a i : Nat) : Int := if a = i then 1 else 0
theorem lin_dlt {l : List Nat} (nd : l.Nodup) {U : Mx} {x : Vx} {a : Nat} (ha : a ∈ l) (h : ∀ i ∈ l, U a i = dlt a i) : lin l U x a = x a := by
  unfold lin
  rw [sl_one nd ha (fun j hj e => by rw [h j hj]; unfold dlt; rw [if_neg (fun z => e z.symm), Int.zero_mul]), h a ha]
  unfold dlt; rw [if_pos rfl, Int.one_mul]
theorem nz_lin {w : Nat} {l : List Nat} {M U : Mx} {S : Vx → Vx} (h : ∀ x, ∀ a ∈ l, lin l U x a = S x a) : nz w l (cb l M U) = sv (2 ^ w) l (fun x => nul w (ql l M (S x))) (fun _ => 0) := by
  unfold nz
  refine sv_congr fun y _ => ?_
  rw [ql_cb, ql_congr (h y) (fun _ _ _ _ => rfl)]
theorem nz_shear {w : Nat} {l : List Nat} (nd : l.Nodup) {M U : Mx} {p : Nat} (hp : p ∈ l) (h1 : ∀ a ∈ l, a ≠ p → ∀ i ∈ l, U a i = dlt a i) (h2 : U p p = 1) : nz w l (cb l M U) = nz w l M := by
  have z := sv_shear (per_ql w l M) (i := p) (g := fun x => sl (fun i => if i = p then 0 else U p i * x i) l) (fun x a => sl_congr fun i _ => by
    by_cases e : i = p
    · simp only [if_pos e]
    · simp only [if_neg e]; rw [up_ne x a e]) hp (fun _ => 0)
  rw [show nz w l M = sv (2 ^ w) l (fun x => nul w (ql l M x)) (fun _ => 0) from rfl, ← z]
  refine nz_lin fun x a ha => ?_
  by_cases e : a = p
  · subst e
    rw [up_same]
    unfold lin
    have : sl (fun i => U a i * x i) l = sl (fun i => (if i = a then x a else 0) + (if i = a then 0 else U a i * x i)) l := sl_congr fun i _ => by
      by_cases e : i = a
      · subst e; rw [if_pos rfl, if_pos rfl, h2]; omega
      · rw [if_neg e, if_neg e]; omega
    rw [this, sl_add, sl_one nd ha (fun j _ e => if_neg e), if_pos rfl]
  · rw [up_ne x _ e, lin_dlt nd ha (h1 a ha e)]
theorem nz_scale {w : Nat} {l : List Nat} (nd : l.Nodup) {M U : Mx} {p : Nat} (hp : p ∈ l) (h1 : ∀ a ∈ l, a ≠ p → ∀ i ∈ l, U a i = dlt a i) (h2 : ∀ i ∈ l, i ≠ p → U p i = 0) (h3 : U p p % 2 = 1) : nz w l (cb l M U) = nz w l M := by
  have z := sv_scale (per_ql w l M) (i := p) h3 hp (fun _ => 0)
  rw [show nz w l M = sv (2 ^ w) l (fun x => nul w (ql l M x)) (fun _ => 0) from rfl, ← z]
  refine nz_lin fun x a ha => ?_
  by_cases e : a = p
  · subst e
    rw [up_same]
    unfold lin
    rw [sl_one nd ha (fun j hj e => by rw [h2 j hj e, Int.zero_mul])]
  · rw [up_ne x _ e, lin_dlt nd ha (h1 a ha e)]
/-- a change by two places, in three elementary ones -/
theorem nz_three {w : Nat} {l : List Nat} {M U A B C : Mx} (hA : ∀ N, nz w l (cb l N A) = nz w l N) (hB : ∀ N, nz w l (cb l N B) = nz w l N) (hC : ∀ N, nz w l (cb l N C) = nz w l N) (h : ∀ x, ∀ a ∈ l, lin l U x a = lin l C (lin l B (lin l A x)) a) : nz w l (cb l M U) = nz w l M := by
  rw [← hC M, ← hB (cb l M C), ← hA (cb l (cb l M C) B)]
  unfold nz
  refine sv_congr fun y _ => ?_
  rw [ql_cb, ql_cb, ql_cb, ql_cb]
  rw [ql_congr (h y) (fun _ _ _ _ => rfl)]
/-- two terms alone -/
theorem sl_two {f : Nat → Int} {i j : Nat} {l : List Nat} (nd : l.Nodup) (hi : i ∈ l) (hj : j ∈ l) (hij : i ≠ j) (h : ∀ k ∈ l, k ≠ i → k ≠ j → f k = 0) : sl f l = f i + f j := by
  have : sl f l = sl (fun k => (if k = i then f i else 0) + (if k = i then 0 else f k)) l := sl_congr fun k _ => by
    by_cases e : k = i
    · subst e; rw [if_pos rfl, if_pos rfl]; omega
    · rw [if_neg e, if_neg e]; omega
  rw [this, sl_add, sl_one nd hi (fun k _ e => if_neg e), if_pos rfl, sl_one nd hj (fun k hk e => by
    by_cases q : k = i
    · exact if_pos q
    · rw [if_neg q]; exact h k hk q e), if_neg (fun z => hij z.symm)]
theorem nz_pair {w : Nat} {l : List Nat} (nd : l.Nodup) {M U : Mx} {p q : Nat} (hp : p ∈ l) (hq : q ∈ l) (hpq : p ≠ q) (h1 : ∀ a ∈ l, a ≠ p → a ≠ q → ∀ i ∈ l, U a i = dlt a i) (h2 : ∀ i ∈ l, i ≠ p → i ≠ q → U p i = 0 ∧ U q i = 0) (h3 : U p p = 1) (h4 : (U q q - U q p * U p q) % 2 = 1) : nz w l (cb l M U) = nz w l M := by
  have hqp : q ≠ p := fun z => hpq z.symm
  let A : Mx := fun a i => if a = p ∧ i = q then U p q else dlt a i
  let B : Mx := fun a i => if a = q ∧ i = q then U q q - U q p * U p q else dlt a i
  let C : Mx := fun a i => if a = q ∧ i = p then U q p else dlt a i
  have a1 : ∀ a i, ¬(a = p ∧ i = q) → A a i = dlt a i := fun a i h => if_neg h
  have b1 : ∀ a i, ¬(a = q ∧ i = q) → B a i = dlt a i := fun a i h => if_neg h
  have c1 : ∀ a i, ¬(a = q ∧ i = p) → C a i = dlt a i := fun a i h => if_neg h
  have a2 : A p q = U p q := if_pos ⟨rfl, rfl⟩
  have b2 : B q q = U q q - U q p * U p q := if_pos ⟨rfl, rfl⟩
  have c2 : C q p = U q p := if_pos ⟨rfl, rfl⟩
  have d1 : ∀ a, dlt a a = 1 := fun a => if_pos rfl
  have d0 : ∀ {a b}, a ≠ b → dlt a b = 0 := fun h => if_neg h
  refine nz_three (A := A) (B := B) (C := C) (fun N => nz_shear nd hp (fun a _ h i _ => a1 a i fun z => h z.1) (by rw [a1 p p (fun z => hpq z.2), d1]))
    (fun N => nz_scale nd hq (fun a _ h i _ => b1 a i fun z => h z.1) (fun i _ h => by rw [b1 q i (fun z => h z.2), d0 (fun z => h z.symm)]) (by rw [b2]; exact h4))
    (fun N => nz_shear nd hq (fun a _ h i _ => c1 a i fun z => h z.1) (by rw [c1 q q (fun z => hqp z.2), d1])) fun x a ha => ?_
  have lA : ∀ (x : Vx) a, a ∈ l → a ≠ p → lin l A x a = x a := fun x a ha h => lin_dlt nd ha fun i _ => a1 a i fun z => h z.1
  have lB : ∀ (x : Vx) a, a ∈ l → a ≠ q → lin l B x a = x a := fun x a ha h => lin_dlt nd ha fun i _ => b1 a i fun z => h z.1
  have lC : ∀ (x : Vx) a, a ∈ l → a ≠ q → lin l C x a = x a := fun x a ha h => lin_dlt nd ha fun i _ => c1 a i fun z => h z.1
  have lAp : ∀ x : Vx, lin l A x p = x p + U p q * x q := fun x => by
    unfold lin
    rw [sl_two nd hp hq hpq (fun k _ n1 n2 => by rw [a1 p k (fun z => n2 z.2), d0 (fun z => n1 z.symm), Int.zero_mul]), a2, a1 p p (fun z => hpq z.2), d1, Int.one_mul]
  have lBq : ∀ x : Vx, lin l B x q = (U q q - U q p * U p q) * x q := fun x => by
    unfold lin
    rw [sl_one nd hq (fun k _ n => by rw [b1 q k (fun z => n z.2), d0 (fun z => n z.symm), Int.zero_mul]), b2]
  have lCq : ∀ x : Vx, lin l C x q = x q + U q p * x p := fun x => by
    unfold lin
    rw [sl_two nd hq hp hqp (fun k _ n1 n2 => by rw [c1 q k (fun z => n2 z.2), d0 (fun z => n1 z.symm), Int.zero_mul]), c2, c1 q q (fun z => hqp z.2), d1, Int.one_mul]
  by_cases e1 : a = p
  · subst e1
    rw [lC _ a ha hpq, lB _ a ha hpq, lAp]
    unfold lin
    rw [sl_two nd hp hq hpq (fun k hk n1 n2 => by rw [(h2 k hk n1 n2).1, Int.zero_mul]), h3, Int.one_mul]
  · by_cases e2 : a = q
    · subst e2
      rw [lCq, lBq, lB _ p hp hpq, lA _ a ha e1, lAp]
      unfold lin
      rw [sl_two nd hp ha hpq (fun k hk n1 n2 => by rw [(h2 k hk n1 n2).2, Int.zero_mul])]
      grind
    · rw [lC _ a ha e2, lB _ a ha e2, lA _ a ha e1]
      exact lin_dlt nd ha (h1 a ha e1 e2)
/-- two shears side by side -/
theorem nz_twoshear {w : Nat} {l : List Nat} (nd : l.Nodup) {M U : Mx} {p q : Nat} (hp : p ∈ l) (hq : q ∈ l) (hpq : p ≠ q) (h1 : ∀ a ∈ l, a ≠ p → a ≠ q → ∀ i ∈ l, U a i = dlt a i) (h2 : U p p = 1 ∧ U p q = 0 ∧ U q p = 0 ∧ U q q = 1) : nz w l (cb l M U) = nz w l M := by
  have hqp : q ≠ p := fun z => hpq z.symm
  let A : Mx := fun a i => if a = p then U p i else dlt a i
  let C : Mx := fun a i => if a = q then U q i else dlt a i
  have idn : ∀ N, nz w l (cb l N dlt) = nz w l N := fun N => nz_shear nd hp (fun _ _ _ _ _ => rfl) (if_pos rfl)
  refine nz_three (A := A) (B := dlt) (C := C) (fun N => nz_shear nd hp (fun a _ h i _ => if_neg h) (by show (if p = p then U p p else dlt p p) = 1; rw [if_pos rfl]; exact h2.1)) idn
    (fun N => nz_shear nd hq (fun a _ h i _ => if_neg h) (by show (if q = q then U q q else dlt q q) = 1; rw [if_pos rfl]; exact h2.2.2.2)) fun x a ha => ?_
  have lD : ∀ (x : Vx) a, a ∈ l → lin l dlt x a = x a := fun x a ha => lin_dlt nd ha fun _ _ => rfl
  have lA : ∀ (x : Vx) a, a ∈ l → a ≠ p → lin l A x a = x a := fun x a ha h => lin_dlt nd ha fun i _ => if_neg h
  have lC : ∀ (x : Vx) a, a ∈ l → a ≠ q → lin l C x a = x a := fun x a ha h => lin_dlt nd ha fun i _ => if_neg h
  by_cases e1 : a = p
  · subst e1
    rw [lC _ a ha hpq, lD _ a ha]
    unfold lin
    exact sl_congr fun i _ => by show _ = (if a = a then U a i else dlt a i) * _; rw [if_pos rfl]
  · by_cases e2 : a = q
    · subst e2
      unfold lin
      refine sl_congr fun i hi => ?_
      show _ = (if a = a then U a i else dlt a i) * lin l dlt (lin l A x) i
      rw [if_pos rfl, lD _ i hi]
      by_cases e3 : i = p
      · subst e3; rw [h2.2.2.1, Int.zero_mul, Int.zero_mul]
      · rw [lA x i hi e3]
    · rw [lC _ a ha e2, lD _ a ha, lA _ a ha e1]
      exact lin_dlt nd ha (h1 a ha e1 e2)
end Sq
set_option autoImplicit false
set_option linter.all false
set_option maxHeartbeats 1000000
/-! Twos, least items, inverses and roots by Newton's steps. -/
namespace Sq
def tw (x : Int) : Nat := if h : x ≠ 0 ∧ x % 2 = 0 then tw (x / 2) + 1 else 0
termination_by x.natAbs
decreasing_by omega
theorem tw_even {x : Int} (h : x ≠ 0) (e : x % 2 = 0) : tw x = tw (x / 2) + 1 := by rw [tw, dif_pos ⟨h, e⟩]
theorem tw_odd {x : Int} (e : x % 2 = 1) : tw x = 0 := by rw [tw, dif_neg (fun z => by omega)]
theorem tw_spec (x : Int) (h : x ≠ 0) : ∃ u, x = 2 ^ tw x * u ∧ u % 2 = 1 := by
  by_cases e : x % 2 = 0
  · obtain ⟨u, h1, h2⟩ := tw_spec (x / 2) (by omega)
    rw [tw_even h e]
    exact ⟨u, by rw [pw1, Int.mul_assoc, ← h1]; omega, h2⟩
  · rw [tw_odd (by omega)]
    exact ⟨x, by show x = 1 * x; omega, by omega⟩
termination_by x.natAbs
decreasing_by omega
theorem odd_dvd {u : Int} (hu : u % 2 = 1) : ∀ {s : Nat}, (2 : Int) ^ s ∣ u → s = 0
  | 0, _ => rfl
  | s + 1, h => by
    exfalso
    obtain ⟨k, e⟩ := Int.dvd_trans (show (2 : Int) ∣ 2 ^ (s + 1) from ⟨2 ^ s, pw1 s⟩) h
    omega
theorem le_tw {x : Int} (h : x ≠ 0) {s : Nat} (hs : (2 : Int) ^ s ∣ x) : s ≤ tw x := by
  obtain ⟨u, e, hu⟩ := tw_spec x h
  rcases Nat.lt_or_ge (tw x) s with q | q
  · exfalso
    obtain ⟨d, rfl⟩ : ∃ d, s = tw x + d := ⟨s - tw x, by omega⟩
    obtain ⟨k, hk⟩ := hs
    have : u = 2 ^ d * k := by
      have hp := pos2 (tw x)
      apply Int.eq_of_mul_eq_mul_left (show (2 : Int) ^ tw x ≠ 0 by omega)
      rw [← e, ← Int.mul_assoc, ← Int.pow_add]; exact hk
    have := odd_dvd hu ⟨k, this⟩
    omega
  · exact q
theorem tw_dvd (x : Int) : (2 : Int) ^ tw x ∣ x := by
  by_cases h : x = 0
  · subst h; exact Int.dvd_zero _
  · obtain ⟨u, e, _⟩ := tw_spec x h
    exact ⟨u, e⟩
theorem tw_of (s : Nat) {u : Int} (hu : u % 2 = 1) : tw (2 ^ s * u) = s := by
  have hp := pos2 s
  have hne : 2 ^ s * u ≠ 0 := fun z => by
    rcases Int.mul_eq_zero.mp z with z | z <;> omega
  have h1 := le_tw hne (s := s) ⟨u, rfl⟩
  obtain ⟨v, e, hv⟩ := tw_spec _ hne
  obtain ⟨d, hd⟩ : ∃ d, tw (2 ^ s * u) = s + d := ⟨tw (2 ^ s * u) - s, by omega⟩
  rw [hd, Int.pow_add, Int.mul_assoc] at e
  have e2 : u = 2 ^ d * v := Int.eq_of_mul_eq_mul_left (show (2 : Int) ^ s ≠ 0 by omega) e
  have := odd_dvd hu ⟨v, e2⟩
  omega

/-! ### the least of items -/
abbrev It4 := Nat × Nat × Nat × Nat
def lt4 (a b : It4) : Prop := a.1 < b.1 ∨ (a.1 = b.1 ∧ (a.2.1 < b.2.1 ∨ (a.2.1 = b.2.1 ∧ (a.2.2.1 < b.2.2.1 ∨ (a.2.2.1 = b.2.2.1 ∧ a.2.2.2 < b.2.2.2)))))
instance (a b : It4) : Decidable (lt4 a b) := by unfold lt4; exact inferInstance
def mn (x : It4) (xs : List It4) : It4 := xs.foldl (fun m y => if lt4 y m then y else m) x
theorem mn_spec : ∀ (xs : List It4) (x : It4), mn x xs ∈ x :: xs ∧ ¬ lt4 x (mn x xs) ∧ ∀ y ∈ xs, ¬ lt4 y (mn x xs)
  | [], x => ⟨List.mem_cons_self, by show ¬ lt4 x x; unfold lt4; omega, (fun _ h => nomatch h)⟩
  | y :: ys, x => by
    show mn (if lt4 y x then y else x) ys ∈ _ ∧ ¬ lt4 x (mn (if lt4 y x then y else x) ys) ∧ ∀ z ∈ y :: ys, ¬ lt4 z (mn (if lt4 y x then y else x) ys)
    by_cases h : lt4 y x
    · rw [if_pos h]
      obtain ⟨a, b, c⟩ := mn_spec ys y
      refine ⟨List.mem_cons_of_mem _ a, ?_, fun z hz => ?_⟩
      · unfold lt4 at *; omega
      · rcases List.mem_cons.mp hz with e | e
        · subst e; exact b
        · exact c z e
    · rw [if_neg h]
      obtain ⟨a, b, c⟩ := mn_spec ys x
      refine ⟨?_, b, fun z hz => ?_⟩
      · rcases List.mem_cons.mp a with e | e
        · rw [e]; exact List.mem_cons_self
        · exact List.mem_cons_of_mem _ (List.mem_cons_of_mem _ e)
      · rcases List.mem_cons.mp hz with e | e
        · subst e; unfold lt4 at *; omega
        · exact c z e
def items (R : Mx) (left : List Nat) : List It4 := left.flatMap fun p => ((left.filter fun o => decide (p ≤ o)).filter fun a => decide (R p a ≠ 0)).map fun a => (tw (R p a), (if a = p then 0 else 1), p, a)
theorem mem_items {R : Mx} {left : List Nat} {it : It4} : it ∈ items R left ↔ ∃ p a, p ∈ left ∧ a ∈ left ∧ p ≤ a ∧ R p a ≠ 0 ∧ it = (tw (R p a), (if a = p then 0 else 1), p, a) := by
  unfold items
  rw [List.mem_flatMap]
  constructor
  · rintro ⟨p, hp, h⟩
    obtain ⟨a, ha, e⟩ := List.mem_map.mp h
    rw [List.mem_filter, List.mem_filter] at ha
    exact ⟨p, a, hp, ha.1.1, of_decide_eq_true ha.1.2, of_decide_eq_true ha.2, e.symm⟩
  · rintro ⟨p, a, hp, ha, hl, hn, e⟩
    exact ⟨p, hp, List.mem_map.mpr ⟨a, List.mem_filter.mpr ⟨List.mem_filter.mpr ⟨ha, decide_eq_true hl⟩, decide_eq_true hn⟩, e.symm⟩⟩
/-- what the least item says -/
inductive Least (R : Mx) (left : List Nat) : It4 → Prop
  | sq {s p : Nat} {u : Int} : p ∈ left → R p p = 2 ^ s * u → u % 2 = 1 → (∀ i ∈ left, ∀ j ∈ left, (2 : Int) ^ s ∣ R i j) → Least R left (s, 0, p, p)
  | pr {s p q : Nat} {u : Int} : p ∈ left → q ∈ left → p ≠ q → R p q = 2 ^ s * u → u % 2 = 1 → (∀ i ∈ left, ∀ j ∈ left, (2 : Int) ^ s ∣ R i j) → (∀ i ∈ left, (2 : Int) ^ (s + 1) ∣ R i i) → Least R left (s, 1, p, q)
theorem least_of {R : Mx} {left : List Nat} (hs : ∀ i ∈ left, ∀ j ∈ left, R i j = R j i) {x : It4} {xs : List It4} (e : items R left = x :: xs) : Least R left (mn x xs) := by
  obtain ⟨h1, h2, h3⟩ := mn_spec xs x
  have hall : ∀ y ∈ items R left, ¬ lt4 y (mn x xs) := fun y hy => by
    rw [e] at hy
    rcases List.mem_cons.mp hy with q | q
    · subst q; exact h2
    · exact h3 y q
  rw [← e] at h1
  obtain ⟨p, a, hp, ha, hl, hn, eq⟩ := mem_items.mp h1
  rw [eq] at hall ⊢
  have dv : ∀ i ∈ left, ∀ j ∈ left, (2 : Int) ^ tw (R p a) ∣ R i j := fun i hi j hj => by
    by_cases z : R i j = 0
    · rw [z]; exact Int.dvd_zero _
    · have key : ∀ i ∈ left, ∀ j ∈ left, i ≤ j → R i j ≠ 0 → (2 : Int) ^ tw (R p a) ∣ R i j := fun i hi j hj l z => by
        have q := hall _ (mem_items.mpr ⟨i, j, hi, hj, l, z, rfl⟩)
        have : tw (R p a) ≤ tw (R i j) := by unfold lt4 at q; simp only at q; omega
        exact Int.dvd_trans (pdvd this) (tw_dvd _)
      rcases Nat.le_total i j with l | l
      · exact key i hi j hj l z
      · rw [hs i hi j hj] at z ⊢; exact key j hj i hi l z
  obtain ⟨u, eu, hu⟩ := tw_spec _ hn
  by_cases q : a = p
  · subst q
    rw [if_pos rfl]
    exact .sq hp eu hu dv
  · rw [if_neg q]
    rw [if_neg q] at hall
    refine .pr hp ha (fun z => q z.symm) eu hu dv fun i hi => ?_
    by_cases z : R i i = 0
    · rw [z]; exact Int.dvd_zero _
    · have w := hall _ (mem_items.mpr ⟨i, i, hi, hi, Nat.le_refl _, z, rfl⟩)
      rw [if_pos rfl] at w
      have : tw (R p a) + 1 ≤ tw (R i i) := by unfold lt4 at w; simp only at w; omega
      exact Int.dvd_trans (pdvd this) (tw_dvd _)
theorem none_left {R : Mx} {left : List Nat} (hs : ∀ i ∈ left, ∀ j ∈ left, R i j = R j i) (e : items R left = []) : ∀ i ∈ left, ∀ j ∈ left, R i j = 0 := fun i hi j hj => by
  have key : ∀ i ∈ left, ∀ j ∈ left, i ≤ j → R i j = 0 := fun i hi j hj l => by
    by_cases z : R i j = 0
    · exact z
    · have := mem_items.mpr ⟨i, j, hi, hj, l, z, rfl⟩
      rw [e] at this; cases this
  rcases Nat.le_total i j with l | l
  · exact key i hi j hj l
  · rw [hs i hi j hj]; exact key j hj i hi l

/-! ### Newton's steps -/
/-- r is an inverse of o by 2 ^ W -/
def Iv (W : Nat) (o r : Int) : Prop := (2 : Int) ^ W ∣ o * r - 1
theorem dvd_emod {W : Nat} (a : Int) : (2 : Int) ^ W ∣ a % 2 ^ W - a := emod_sub_dvd a _
theorem Iv.emod {W : Nat} {o r : Int} (h : Iv W o r) : Iv W o (r % 2 ^ W) := by
  unfold Iv at *
  obtain ⟨k, e⟩ := @dvd_emod W r
  obtain ⟨j, f⟩ := h
  exact ⟨o * k + j, by rw [show r % 2 ^ W = r + 2 ^ W * k by omega]; grind⟩
theorem Iv.odd {W : Nat} (h1 : 1 ≤ W) {o r : Int} (h : Iv W o r) : r % 2 = 1 := by
  obtain ⟨k, e⟩ := h
  obtain ⟨w, rfl⟩ : ∃ w, W = w + 1 := ⟨W - 1, by omega⟩
  rw [pw1] at e
  have : o * r = 2 * (2 ^ w * k) + 1 := by rw [← Int.mul_assoc]; omega
  have z : (o * r) % 2 = 1 := by omega
  rw [Int.mul_emod] at z
  rcases Int.emod_two_eq r with q | q
  · rw [q] at z; simp at z
  · exact q
theorem Iv.start {o : Int} (h : o % 2 = 1) : Iv 1 o 1 := ⟨o / 2, by omega⟩
theorem dvd_mono {m a : Nat} {x : Int} (h : m ≤ a) (d : (2 : Int) ^ a ∣ x) : (2 : Int) ^ m ∣ x := Int.dvd_trans (pdvd h) d
/-- one step of the inverse -/
theorem Iv.step {m W : Nat} {o r : Int} (h : Iv m o r) : Iv (min (2 * m) W) o (r * (2 - o * r) % 2 ^ W) := by
  obtain ⟨k, e⟩ := h
  obtain ⟨j, f⟩ := @dvd_emod W (r * (2 - o * r))
  have d1 : (2 : Int) ^ (2 * m) ∣ o * (r * (2 - o * r)) - 1 := ⟨-(k * k), by
    have : o * r = 2 ^ m * k + 1 := by omega
    rw [show 2 * m = m + m by omega, Int.pow_add, show o * (r * (2 - o * r)) = (o * r) * (2 - o * r) by grind, this]; grind⟩
  have e2 : o * (r * (2 - o * r) % 2 ^ W) - 1 = (o * (r * (2 - o * r)) - 1) + 2 ^ W * (o * j) := by
    rw [show r * (2 - o * r) % 2 ^ W = r * (2 - o * r) + 2 ^ W * j by omega]; grind
  unfold Iv
  rw [e2]
  exact Int.dvd_add (dvd_mono (by omega) d1) (Int.dvd_trans (pdvd (by omega)) ⟨o * j, rfl⟩)
/-- one step of the root -/
theorem root_step {m W : Nat} {a b c r i : Int} (h : (2 : Int) ^ m ∣ a + b * r + c * r * r) (hi : Iv W (b + 2 * c * r) i) : (2 : Int) ^ (min (2 * m) W) ∣ a + b * ((r - (a + b * r + c * r * r) * i) % 2 ^ W) + c * ((r - (a + b * r + c * r * r) * i) % 2 ^ W) * ((r - (a + b * r + c * r * r) * i) % 2 ^ W) := by
  obtain ⟨k, e⟩ := h
  obtain ⟨l, f⟩ := hi
  obtain ⟨j, g⟩ := @dvd_emod W (r - (a + b * r + c * r * r) * i)
  generalize hv : a + b * r + c * r * r = v at e g ⊢
  rw [show (r - v * i) % 2 ^ W = r - v * i + 2 ^ W * j by omega]
  have key : a + b * (r - v * i + 2 ^ W * j) + c * (r - v * i + 2 ^ W * j) * (r - v * i + 2 ^ W * j) = 2 ^ (2 * m) * (c * (k * i) * (k * i)) + 2 ^ W * (- (v * l) + b * j + 2 * c * (r - v * i) * j + c * 2 ^ W * j * j) := by
    have f' : (b + 2 * c * r) * i = 2 ^ W * l + 1 := by omega
    rw [show 2 * m = m + m by omega, Int.pow_add, show a = v - b * r - c * r * r by omega]
    have : 2 ^ m * 2 ^ m * (c * (k * i) * (k * i)) = c * (v * i) * (v * i) := by rw [e]; grind
    rw [this]
    have h2 : (b * i + 2 * c * r * i) = 2 ^ W * l + 1 := by rw [← f']; grind
    have h3 : v * (b * i + 2 * c * r * i) = v * (2 ^ W * l + 1) := by rw [h2]
    grind
  rw [key]
  exact Int.dvd_add (Int.dvd_trans (pdvd (by omega)) (Int.dvd_mul_right _ _)) (Int.dvd_trans (pdvd (by omega)) (Int.dvd_mul_right _ _))
end Sq
set_option autoImplicit false
set_option linter.all false
set_option maxHeartbeats 1000000
/-! The splitting: what each step keeps, and what its end says. -/
namespace Sq
/-! ### the 2 x 2 change -/
structure PairOk (S f g t kk root lead by' : Int) : Prop where
  n1 : S ∣ f + g * root + t * root * root - kk
  n2 : S ∣ 2 * f * lead + g * by' + g * root * lead + 2 * t * root * by' - 1
  n3 : S ∣ f * lead * lead + g * lead * by' + t * by' * by' - kk
  n4 : (by' - root * lead) % 2 = 1
theorem pair0 {S f g t r be : Int} (ob : be % 2 = 1) (hr : S ∣ f + g * r + t * r * r) (hb : S ∣ (g + 2 * t * r) * be - 1) : PairOk S f g t 0 r (0 - t * be * be) (be - t * be * be * r) := by
  obtain ⟨a, ha⟩ := hr
  obtain ⟨b, hb⟩ := hb
  have hb' : g * be + 2 * t * r * be = 1 + S * b := by grind
  refine ⟨⟨a, by omega⟩, ⟨b - 2 * (t * be * be) * a, ?_⟩, ⟨(t * be * be) * (t * be * be) * a - (t * be * be) * b, ?_⟩, ?_⟩
  · generalize hL : t * be * be = L
    have : 2 * f * (0 - L) + g * (be - L * r) + g * r * (0 - L) + 2 * t * r * (be - L * r) = (g * be + 2 * t * r * be) - 2 * (L * (f + g * r + t * r * r)) := by clear ha hb hb'; grind
    rw [this, hb', ha]; clear ha hb hb' this; grind
  · generalize hL : t * be * be = L
    have : f * (0 - L) * (0 - L) + g * (0 - L) * (be - L * r) + t * (be - L * r) * (be - L * r) - 0 = L * L * (f + g * r + t * r * r) - L * (g * be + 2 * t * r * be) + t * be * be := by clear ha hb hb'; grind
    rw [this, hb', hL, ha]; clear ha hb hb' this; grind
  · have : be - t * be * be * r - r * (0 - t * be * be) = be := by clear ha hb hb'; grind
    rw [this]; exact ob
theorem p1id {S a b c e m rho : Int} (q : rho * rho * ((1 + 2 * m) * (1 + 2 * m)) = (1 + S * c) * (1 + S * c)) : rho * rho * (m * m * (1 + S * a) + m * (1 + S * b) + (1 + 3 * m + 3 * m * m - S * e)) - 1 = S * (2 * c + S * c * c + rho * rho * (m * m * a + m * b - e)) := by
  have z : rho * rho * (m * m * (1 + S * a) + m * (1 + S * b) + (1 + 3 * m + 3 * m * m - S * e)) = rho * rho * ((1 + 2 * m) * (1 + 2 * m)) + S * (rho * rho * (m * m * a + m * b - e)) := by clear q; grind
  rw [z, q]; clear q z; grind
theorem pair1 {S f g t r be m rho : Int} (ob : be % 2 = 1) (op : rho % 2 = 1) (hr : S ∣ (f - 1) + g * r + t * r * r) (hb : S ∣ (g + 2 * t * r) * be - 1) (hm : S ∣ (1 - t * be * be) + 3 * m + 3 * m * m) (hp : S ∣ (1 + 2 * m) * rho - 1) : PairOk S f g t 1 r (m * rho) ((be + m * r) * rho) := by
  obtain ⟨a, ha⟩ := hr
  obtain ⟨b, hb⟩ := hb
  obtain ⟨e, he⟩ := hm
  obtain ⟨c, hc⟩ := hp
  have ha' : f + g * r + t * r * r = 1 + S * a := by omega
  have hb' : g * be + 2 * t * r * be = 1 + S * b := by clear ha he hc ha'; grind
  have he' : t * be * be = 1 + 3 * m + 3 * m * m - S * e := by omega
  have hc' : (1 + 2 * m) * rho = 1 + S * c := by omega
  refine ⟨⟨a, by omega⟩, ⟨c + 2 * m * rho * a + rho * b, ?_⟩, ⟨2 * c + S * c * c + rho * rho * (m * m * a + m * b - e), ?_⟩, ?_⟩
  · have : 2 * f * (m * rho) + g * ((be + m * r) * rho) + g * r * (m * rho) + 2 * t * r * ((be + m * r) * rho) = 2 * m * rho * (f + g * r + t * r * r) + rho * (g * be + 2 * t * r * be) := by clear ha hb he hc ha' hb' he' hc'; grind
    rw [this, hb', ha']
    have z : 2 * m * rho * (1 + S * a) + rho * (1 + S * b) - 1 = (1 + 2 * m) * rho - 1 + S * (2 * m * rho * a + rho * b) := by clear ha hb he hc ha' hb' he' hc' this; grind
    rw [z, hc']; clear ha hb he hc ha' hb' he' hc' this z; grind
  · have : f * (m * rho) * (m * rho) + g * (m * rho) * ((be + m * r) * rho) + t * ((be + m * r) * rho) * ((be + m * r) * rho) = rho * rho * (m * m * (f + g * r + t * r * r) + m * (g * be + 2 * t * r * be) + t * be * be) := by clear ha hb he hc ha' hb' he' hc'; grind
    have q : rho * rho * ((1 + 2 * m) * (1 + 2 * m)) = (1 + S * c) * (1 + S * c) := by
      rw [← hc']; clear ha hb he hc ha' hb' he' hc' this; grind
    rw [this, ha', hb', he']
    exact p1id q
  · have : (be + m * r) * rho - r * (m * rho) = be * rho := by clear ha hb he hc ha' hb' he' hc'; grind
    rw [this, Int.mul_emod, ob, op]; rfl

/-! ### blocks that are split off -/
inductive BkOk (W n : Nat) (R : Mx) : (Nat × Int) × List Nat → Prop
  | sq {s p : Nat} {k u : Int} : p < n → (∀ j, j < n → j ≠ p → R p j = 0) → R p p = 2 ^ s * u → Mt W (.sq s u) (s, k) → BkOk W n R ((s, k), [p])
  | pr {s p q : Nat} {k : Int} : p < n → q < n → p ≠ q → (∀ j, j < n → j ≠ p → j ≠ q → R p j = 0 ∧ R q j = 0) → (k = 0 ∨ k = 2) → R p q = 2 ^ s → R p p = 2 ^ s * k → R q q = 2 ^ s * k → BkOk W n R ((s, k), [p, q])
theorem BkOk.lt {W n : Nat} {R : Mx} {it : (Nat × Int) × List Nat} (h : BkOk W n R it) : ∀ f ∈ it.2, f < n := by
  cases h with
  | sq a _ _ _ => intro f hf; rw [List.mem_singleton] at hf; rw [hf]; exact a
  | pr a b _ _ _ _ _ _ =>
    intro f hf
    rcases List.mem_cons.mp hf with e | e
    · rw [e]; exact a
    · rw [List.mem_singleton] at e; rw [e]; exact b
theorem BkOk.off {W n : Nat} {R : Mx} {it : (Nat × Int) × List Nat} (h : BkOk W n R it) : ∀ f ∈ it.2, ∀ j, j < n → j ∉ it.2 → R f j = 0 := by
  cases h with
  | sq a b _ _ =>
    intro f hf j hj hn
    rw [List.mem_singleton] at hf hn
    rw [hf]; exact b j hj hn
  | pr a b _ c _ _ _ _ =>
    intro f hf j hj hn
    rw [List.mem_cons, List.mem_singleton, not_or] at hn
    have z := c j hj hn.1 hn.2
    rcases List.mem_cons.mp hf with e | e
    · rw [e]; exact z.1
    · rw [List.mem_singleton] at e; rw [e]; exact z.2
theorem BkOk.congr {W n : Nat} {R R' : Mx} {it : (Nat × Int) × List Nat} (h : BkOk W n R it) (e : ∀ f ∈ it.2, ∀ j, j < n → R' f j = R f j) : BkOk W n R' it := by
  cases h with
  | @sq s p k u a b c d =>
    have e := fun j hj => e p (List.mem_singleton.mpr rfl) j hj
    exact .sq a (fun j hj n => by rw [e j hj]; exact b j hj n) (by rw [e p a]; exact c) d
  | @pr s p q k a b c d e1 e2 e3 e4 =>
    have f1 := fun j hj => e p List.mem_cons_self j hj
    have f2 := fun j hj => e q (List.mem_cons_of_mem _ List.mem_cons_self) j hj
    exact .pr a b c (fun j hj n1 n2 => by rw [f1 j hj, f2 j hj]; exact d j hj n1 n2) e1 (by rw [f1 q b]; exact e2) (by rw [f1 p a]; exact e3) (by rw [f2 q b]; exact e4)
theorem Mt.mono {W w : Nat} (h : w ≤ W) {s : Nat} {u k : Int} (m : Mt W (.sq s u) (s, k)) : Mt w (.sq s u) (s, k) := ⟨rfl, m.2.1, m.2.2.1, fun z => m.2.2.2.1 (by omega), fun z => m.2.2.2.2 (by omega)⟩
theorem BkOk.mono {W w n : Nat} (h : w ≤ W) {R : Mx} {it : (Nat × Int) × List Nat} (b : BkOk W n R it) : BkOk w n R it := by
  cases b with
  | sq a b c d => exact .sq a b c (d.mono h)
  | pr a b c d e f g i => exact .pr a b c d e f g i

/-! ### the end: blocks and nothing -/
theorem k02 {k : Int} (h : k = 0 ∨ k = 2) : k % 2 = 0 ∧ (k = 2 ↔ k / 2 % 2 = 1 ∧ k / 2 % 2 = 1) := by
  rcases h with h | h <;> subst h <;> decide
theorem pdiv (s : Nat) (x : Int) : (2 ^ s * x) / 2 ^ s = x := Int.mul_ediv_cancel_left _ (by have := pos2 s; omega)
/-- the block that an item stands for -/
def bkx (R : Mx) : (Nat × Int) × List Nat → Bk
  | ((s, _), [p]) => .sq s (R p p / 2 ^ s)
  | ((s, k), _) => .pr s (k / 2) 1 (k / 2)
theorem sv_zes {w : Nat} {f : Int → Int} (c : Int) : ∀ (l : List Nat) (x : Vx), sv (2 ^ w) l (fun _ => f c) x = cnt w f (zes l.length) c
  | [], _ => rfl
  | i :: l, x => by
    show sm (2 ^ w) (fun a => sv (2 ^ w) l (fun _ => f c) (up x i a)) = sm (2 ^ w) (fun _ => cnt w f (zes l.length) c)
    exact sm_ext fun a => sv_zes c l _
theorem ql_zero {l : List Nat} {R : Mx} (h : ∀ i ∈ l, ∀ j ∈ l, R i j = 0) (x : Vx) : ql l R x = 0 := by
  unfold ql
  rw [sl_congr (g := fun _ => 0) (fun i hi => by rw [sl_congr (g := fun _ => 0) (fun j hj => by rw [h i hi j hj, Int.zero_mul]), sl_zero]), sl_zero]
theorem sl_zero' {f : Nat → Int} {l : List Nat} (h : ∀ i ∈ l, f i = 0) : sl f l = 0 := by rw [sl_congr h, sl_zero]
theorem blocks_nz {w n : Nat} {R : Mx} (hs : ∀ i j, i < n → j < n → R i j = R j i) {left : List Nat} (hz : ∀ i ∈ left, ∀ j ∈ left, R i j = 0) : ∀ (fd : List ((Nat × Int) × List Nat)), (fd.flatMap (·.2) ++ left).Nodup → (∀ i ∈ fd.flatMap (·.2) ++ left, i < n) → (∀ it ∈ fd, BkOk w n R it) →
    ∃ bs, bs = fd.map (bkx R) ∧ Mts w bs (fd.map (·.1)) ∧ ∀ (c : Int) (x : Vx), sv (2 ^ w) (fd.flatMap (·.2) ++ left) (fun y => nul w (c + ql (fd.flatMap (·.2) ++ left) R y)) x = cnt w (nul w) (bs ++ zes left.length) c
  | [], _, _, _ => ⟨[], rfl, .nil, fun c x => by
    rw [show ([] : List ((Nat × Int) × List Nat)).flatMap (·.2) ++ left = left from rfl, show ([] : List Bk) ++ zes left.length = zes left.length from rfl, ← sv_zes]
    refine sv_congr fun y _ => ?_
    rw [ql_zero hz, Int.add_zero]⟩
  | it :: fd, nd, hl, hb => by
    have h0 := hb it List.mem_cons_self
    rw [List.flatMap_cons] at nd hl
    cases h0 with
    | @sq s p k u a b c d =>
      have nd : (p :: (fd.flatMap (·.2) ++ left)).Nodup := nd
      have hl : ∀ i ∈ p :: (fd.flatMap (·.2) ++ left), i < n := hl
      rw [List.nodup_cons] at nd
      obtain ⟨bs, eb, m, h⟩ := blocks_nz hs hz fd nd.2 (fun i hi => hl i (List.mem_cons_of_mem _ hi)) (fun i hi => hb i (List.mem_cons_of_mem _ hi))
      refine ⟨.sq s u :: bs, by rw [eb, List.map_cons]; congr 1; show _ = Bk.sq s (R p p / 2 ^ s); rw [c, pdiv], .cons d m, fun c0 x => ?_⟩
      rw [show (((s, k), [p]) :: fd).flatMap (·.2) ++ left = p :: (fd.flatMap (·.2) ++ left) from rfl]
      show sm (2 ^ w) _ = sm (2 ^ w) _
      refine sm_ext fun v => ?_
      refine Eq.trans (sv_congr fun y hy => ?_) (h (c0 + 2 ^ s * u * (v * v)) (up x p v))
      rw [ql_cons, sl_zero' (fun j hj => ?_), hy p nd.1, up_same, c]
      · congr 1; omega
      · have hj' : j ≠ p := fun e => nd.1 (e ▸ hj)
        have hn := hl j (List.mem_cons_of_mem _ hj)
        rw [hs j p hn a, b j hn hj']; simp
    | @pr s p q k a b c d e1 e2 e3 e4 =>
      have nd : (p :: q :: (fd.flatMap (·.2) ++ left)).Nodup := nd
      have hl : ∀ i ∈ p :: q :: (fd.flatMap (·.2) ++ left), i < n := hl
      rw [List.nodup_cons, List.nodup_cons] at nd
      obtain ⟨bs, eb, m, h⟩ := blocks_nz hs hz fd nd.2.2 (fun i hi => hl i (List.mem_cons_of_mem _ (List.mem_cons_of_mem _ hi))) (fun i hi => hb i (List.mem_cons_of_mem _ hi))
      refine ⟨.pr s (k / 2) 1 (k / 2) :: bs, by rw [eb, List.map_cons]; rfl, .cons ⟨rfl, rfl, (k02 e1).1, (k02 e1).2⟩ m, fun c0 x => ?_⟩
      rw [show (((s, k), [p, q]) :: fd).flatMap (·.2) ++ left = p :: q :: (fd.flatMap (·.2) ++ left) from rfl]
      show sm (2 ^ w) _ = sm (2 ^ w) _
      refine sm_ext fun v => ?_
      show sm (2 ^ w) _ = sm (2 ^ w) _
      refine sm_ext fun v2 => ?_
      refine Eq.trans (sv_congr fun y hy => ?_) (h (c0 + 2 ^ (s + 1) * (k / 2 * (v * v) + 1 * (v * v2) + k / 2 * (v2 * v2))) (up (up x p v) q v2))
      have off : ∀ j ∈ fd.flatMap (·.2) ++ left, R p j = 0 ∧ R q j = 0 ∧ R j p = 0 ∧ R j q = 0 := fun j hj => by
        have h1 : j ≠ p := fun e => nd.1 (List.mem_cons_of_mem _ (e ▸ hj))
        have h2 : j ≠ q := fun e => nd.2.1 (e ▸ hj)
        have hn := hl j (List.mem_cons_of_mem _ (List.mem_cons_of_mem _ hj))
        obtain ⟨z1, z2⟩ := d j hn h1 h2
        exact ⟨z1, z2, by rw [hs j p hn a]; exact z1, by rw [hs j q hn b]; exact z2⟩
      rw [ql_cons, sl_cons, sl_zero' (fun j hj => by rw [(off j hj).1, (off j hj).2.2.1]; simp), ql_cons, sl_zero' (fun j hj => by rw [(off j hj).2.1, (off j hj).2.2.2]; simp)]
      have hyp : y p = v := by
        rw [hy p (fun z => nd.1 (List.mem_cons_of_mem _ z)), up_ne _ _ c, up_same]
      have hyq : y q = v2 := by rw [hy q nd.2.1, up_same]
      rw [hyp, hyq, hs q p b a, e2, e3, e4]
      congr 1
      have hk : k = 2 * (k / 2) := by omega
      generalize k / 2 = kk at hk ⊢
      subst hk
      rw [pw1]; grind

/-! ### changes at work -/
theorem col_dlt {l : List Nat} (nd : l.Nodup) {M U : Mx} {i b : Nat} (hi : i ∈ l) (h : ∀ a ∈ l, U a i = dlt a i) : sl (fun a => U a i * M a b) l = M i b := by
  rw [sl_one nd hi (fun a ha e => by rw [h a ha]; unfold dlt; rw [if_neg e, Int.zero_mul]), h i hi]
  unfold dlt; rw [if_pos rfl, Int.one_mul]
theorem cb_fix {l : List Nat} (nd : l.Nodup) {M U : Mx} {f j : Nat} (hf : f ∈ l) (hj : j ∈ l) (h1 : ∀ a ∈ l, U a f = dlt a f) (h2 : ∀ b ∈ l, M f b ≠ 0 → U b j = dlt b j) : cb l M U f j = M f j := by
  unfold cb
  rw [sl_congr (g := fun b => M f b * dlt b j) (fun b hb => ?_), sl_one nd hj (fun b hb e => by unfold dlt; rw [if_neg e, Int.mul_zero])]
  · unfold dlt; rw [if_pos rfl, Int.mul_one]
  · rw [col_dlt nd hf h1]
    by_cases z : M f b = 0
    · rw [z, Int.zero_mul, Int.zero_mul]
    · rw [h2 b hb z]
abbrev ns (n : Nat) : List Nat := List.range n
theorem ns_nd (n : Nat) : (ns n).Nodup := List.nodup_range
theorem ns_mem {n i : Nat} : i ∈ ns n ↔ i < n := List.mem_range
theorem tab_tab (W : Nat) (M : Mx) (i j : Nat) : tab W (tab W M) i j = tab W M i j := by unfold tab; rw [Int.emod_emod]
theorem tab_of {W : Nat} {M : Mx} {i j : Nat} {v : Int} (h : M i j = v) : tab W M i j = v % (if i = j then 2 ^ W else 2 ^ (W - 1)) := by unfold tab; rw [h]
structure Inv0 (W n : Nat) (M0 R : Mx) (fd : List ((Nat × Int) × List Nat)) : Prop where
  sy : ∀ i j, i < n → j < n → R i j = R j i
  rd : ∀ i j, i < n → j < n → tab W R i j = R i j
  nz : ∀ w, w ≤ W → nz w (ns n) R = nz w (ns n) M0
  bk : ∀ it ∈ fd, BkOk W n R it
theorem Inv0.go {W n : Nat} {M0 R U : Mx} {fd : List ((Nat × Int) × List Nat)} (I : Inv0 W n M0 R fd) (h1 : 1 ≤ W) (hnz : ∀ w, Sq.nz w (ns n) (cb (ns n) R U) = Sq.nz w (ns n) R)
    (hf : ∀ it ∈ fd, ∀ f ∈ it.2, (∀ a, a < n → U a f = dlt a f) ∧ ∀ j, j < n → U f j = dlt f j) : Inv0 W n M0 (tab W (cb (ns n) R U)) fd := by
  have sy' : ∀ i ∈ ns n, ∀ j ∈ ns n, R i j = R j i := fun i hi j hj => I.sy i j (ns_mem.mp hi) (ns_mem.mp hj)
  have sc : ∀ i j, cb (ns n) R U i j = cb (ns n) R U j i := fun i j => cb_symm _ U sy' i j
  refine ⟨fun i j _ _ => ?_, fun i j _ _ => tab_tab W _ i j, fun w hw => ?_, fun it hit => ?_⟩
  · unfold tab; rw [sc i j]
    by_cases e : i = j
    · subst e; rfl
    · rw [if_neg e, if_neg (fun z => e z.symm)]
  · rw [nz_tab hw h1 (fun i _ j _ => sc i j), hnz, I.nz w hw]
  · have b := I.bk it hit
    refine b.congr fun f hfi j hj => ?_
    have hfn := b.lt f hfi
    rw [tab_of (cb_fix (ns_nd n) (ns_mem.mpr hfn) (ns_mem.mpr hj) (fun a ha => (hf it hit f hfi).1 a (ns_mem.mp ha)) (fun c hc z => ?_))]
    · exact I.rd f j hfn hj
    · by_cases m : c ∈ it.2
      · exact (hf it hit c m).2 j hj
      · exact absurd (b.off f hfi c (ns_mem.mp hc) m) z
/-- block forms as they stand -/
inductive PlainRow (n : Nat) (M : Mx) (i : Nat) : Prop
  | ze : (∀ j, j < n → M i j = 0) → PlainRow n M i
  | one {s : Nat} {k : Int} : s ≤ 4 → k % 2 = 1 → 0 < k → k < 8 → M i i = 2 ^ s * k → (∀ j, j < n → j ≠ i → M i j = 0) → PlainRow n M i
  | two {q s : Nat} {k : Int} : q < n → q ≠ i → s ≤ 4 → (k = 0 ∨ k = 2) → M i q = 2 ^ s → M i i = 2 ^ s * k → M q q = 2 ^ s * k → (∀ j, j < n → j ≠ i → j ≠ q → M i j = 0 ∧ M q j = 0) → PlainRow n M i
def Plain (n : Nat) (M : Mx) : Prop := ∀ i, i < n → PlainRow n M i
structure Inv (W n : Nat) (M0 R : Mx) (left : List Nat) (fd : List ((Nat × Int) × List Nat)) : Prop where
  i0 : Inv0 W n M0 R fd
  pm : (fd.flatMap (·.2) ++ left).Perm (ns n)
  bd : ∀ it ∈ fd, it.1.1 < W ∧ 0 ≤ it.1.2 ∧ it.1.2 < 8
  pl : Plain n M0 → 8 ≤ W → (∀ i ∈ left, ∀ j, j < n → R i j = M0 i j) ∧ ∀ it ∈ fd, ∀ w, BkOk w n M0 it
section
variable {W n : Nat} {M0 R : Mx} {left : List Nat} {fd : List ((Nat × Int) × List Nat)}
theorem Inv.nd (I : Inv W n M0 R left fd) : (fd.flatMap (·.2) ++ left).Nodup := I.pm.nodup_iff.mpr (ns_nd n)
theorem Inv.lt (I : Inv W n M0 R left fd) {i : Nat} (h : i ∈ left) : i < n := ns_mem.mp (I.pm.mem_iff.mp (List.mem_append_right _ h))
theorem Inv.apart (I : Inv W n M0 R left fd) {i : Nat} (h : i ∈ left) {it : (Nat × Int) × List Nat} (hit : it ∈ fd) : i ∉ it.2 := fun m => by
  have := (List.nodup_append.mp I.nd).2.2 i (List.mem_flatMap.mpr ⟨it, hit, m⟩) i h
  exact this rfl
theorem Inv.out (I : Inv W n M0 R left fd) {i j : Nat} (h : i ∈ left) (hj : j < n) (hn : j ∉ left) : R i j = 0 := by
  have : j ∈ fd.flatMap (·.2) ++ left := I.pm.mem_iff.mpr (ns_mem.mpr hj)
  rcases List.mem_append.mp this with m | m
  · obtain ⟨it, hit, hm⟩ := List.mem_flatMap.mp m
    rw [I.i0.sy i j (I.lt h) hj]
    exact (I.i0.bk it hit).off j hm i (I.lt h) (I.apart h hit)
  · exact absurd m hn
theorem Inv.sym (I : Inv W n M0 R left fd) : ∀ i ∈ left, ∀ j ∈ left, R i j = R j i := fun i hi j hj => I.i0.sy i j (I.lt hi) (I.lt hj)
/-- what is told -/
structure Tell (W n : Nat) (M0 : Mx) (ps : List (Nat × Int)) : Prop where
  bd : ∀ p ∈ ps, p.1 < W ∧ 0 ≤ p.2 ∧ p.2 < 8
  sz : ∃ z : Nat, (n : Int) = psize ps + z
  ct : ∀ w, w ≤ W ∨ (Plain n M0 ∧ 8 ≤ W) → cnt0 w ps n = nz w (ns n) M0
theorem dims_zes (z : Nat) : dims (zes z) = z := by
  unfold dims zes
  rw [List.map_replicate]
  show (List.replicate z 1).sum = z
  rw [List.sum_replicate_nat]; omega
theorem fd_cnt {w : Nat} {R : Mx} (hs : ∀ i j, i < n → j < n → R i j = R j i) (hz : ∀ i ∈ left, ∀ j ∈ left, R i j = 0) (pm : (fd.flatMap (·.2) ++ left).Perm (ns n)) (hb : ∀ it ∈ fd, BkOk w n R it) :
    cnt0 w (fd.map (·.1)) (psize (fd.map (·.1)) + left.length) = nz w (ns n) R := by
  obtain ⟨bs, eb, m, h⟩ := blocks_nz hs hz fd (pm.nodup_iff.mpr (ns_nd n)) (fun i hi => ns_mem.mp (pm.mem_iff.mp hi)) hb
  rw [cnt0_noughts left.length m]
  unfold noughts nz
  rw [← h 0 (fun _ => 0), sv_perm pm]
  refine sv_congr fun y _ => ?_
  rw [ql_perm pm, Int.zero_add]
theorem fd_size {w : Nat} {R : Mx} : ∀ {fd : List ((Nat × Int) × List Nat)}, (∀ it ∈ fd, BkOk w n R it) → ((fd.flatMap (·.2)).length : Int) = psize (fd.map (·.1))
  | [], _ => rfl
  | it :: fd, h => by
    have ih := fd_size (fd := fd) fun i hi => h i (List.mem_cons_of_mem _ hi)
    rw [List.flatMap_cons, List.length_append, Int.natCast_add, ih]
    show _ = (2 - it.1.2 % 2) + psize (fd.map (·.1))
    congr 1
    cases h it List.mem_cons_self with
    | sq a b c d => have := d.2.2.1; simp only at this ⊢; rw [this]; rfl
    | pr a b c d e _ _ _ => rcases e with e | e <;> subst e <;> rfl
theorem Inv.tell {fd' : List ((Nat × Int) × List Nat)} (I : Inv W n M0 R left fd) (hM : ∀ i j, i < n → j < n → M0 i j = M0 j i) (hz : ∀ i ∈ left, ∀ j ∈ left, R i j = 0) (pf : fd'.Perm fd) : Tell W n M0 (fd'.map (·.1)) := by
  have pm' : (fd'.flatMap (·.2) ++ left).Perm (ns n) := ((pf.flatMap_right (·.2)).append_right left).trans I.pm
  have bk' : ∀ it ∈ fd', BkOk W n R it := fun it h => I.i0.bk it (pf.mem_iff.mp h)
  have sz : (n : Int) = psize (fd'.map (·.1)) + left.length := by
    rw [← fd_size bk', ← Int.natCast_add, ← List.length_append, pm'.length_eq, List.length_range]
  refine ⟨fun p hp => ?_, ⟨_, sz⟩, fun w hw => ?_⟩
  · obtain ⟨it, hit, rfl⟩ := List.mem_map.mp hp
    exact I.bd it (pf.mem_iff.mp hit)
  · rw [sz]
    rcases hw with hw | ⟨p1, p2⟩
    · rw [← I.i0.nz w hw]
      exact fd_cnt I.i0.sy hz pm' fun it h => (bk' it h).mono hw
    · obtain ⟨q1, q2⟩ := I.pl p1 p2
      exact fd_cnt hM (fun i hi j hj => by rw [← q1 i hi j (I.lt hj)]; exact hz i hi j hj) pm' fun it h => q2 it (pf.mem_iff.mp h) w
end
end Sq
set_option autoImplicit false
set_option linter.all false
set_option maxHeartbeats 1000000
/-! The two kinds of step of the splitting. -/
namespace Sq
theorem dlt_self (a : Nat) : dlt a a = 1 := if_pos rfl
theorem dlt_ne {a b : Nat} (h : a ≠ b) : dlt a b = 0 := if_neg h
theorem sl_three {f : Nat → Int} {i j k : Nat} {l : List Nat} (nd : l.Nodup) (hi : i ∈ l) (hj : j ∈ l) (hk : k ∈ l) (hij : i ≠ j) (hik : i ≠ k) (hjk : j ≠ k) (h : ∀ a ∈ l, a ≠ i → a ≠ j → a ≠ k → f a = 0) : sl f l = f i + f j + f k := by
  have : sl f l = sl (fun a => (if a = i then f i else 0) + (if a = i then 0 else f a)) l := sl_congr fun a _ => by
    by_cases e : a = i
    · subst e; rw [if_pos rfl, if_pos rfl]; omega
    · rw [if_neg e, if_neg e]; omega
  rw [this, sl_add, sl_one nd hi (fun a _ e => if_neg e), if_pos rfl, sl_two nd hj hk hjk (fun a ha e1 e2 => by
    by_cases q : a = i
    · exact if_pos q
    · rw [if_neg q]; exact h a ha q e1 e2), if_neg (fun z => hij z.symm), if_neg (fun z => hik z.symm), Int.add_assoc]
theorem pmod {s m : Nat} (h : s ≤ m) (x : Int) : (2 ^ s * x) % 2 ^ m = 2 ^ s * (x % 2 ^ (m - s)) := by
  have : (2 : Int) ^ m = 2 ^ s * 2 ^ (m - s) := by rw [← Int.pow_add]; congr 1; omega
  rw [this, Int.mul_emod_mul_of_pos _ _ (pos2 s)]
theorem c2mod {c : Int} (h : c % 2 = 1) (o : Int) : (c * c * o) % 8 = o % 8 := by
  obtain ⟨T, e⟩ := sq_tri (c / 2)
  rw [show 2 * (c / 2) + 1 = c by omega] at e
  rw [e, show (8 * T + 1) * o = o + 8 * (T * o) by grind]; omega
section
variable {W n : Nat} {M0 R : Mx} {left : List Nat} {fd : List ((Nat × Int) × List Nat)}
/-- entries between those that are left, and all else, in block forms -/
theorem Inv.plain_off (I : Inv W n M0 R left fd) (hp : Plain n M0) (h8 : 8 ≤ W) {i : Nat} (hi : i ∈ left) : PlainRow n R i := by
  obtain ⟨q, _⟩ := I.pl hp h8
  have e := q i hi
  cases hp i (I.lt hi) with
  | ze a => exact .ze fun j hj => by rw [e j hj]; exact a j hj
  | one a b c d f g => exact .one a b c d (by rw [e i (I.lt hi)]; exact f) fun j hj n => by rw [e j hj]; exact g j hj n
  | @two q' s k a b c d f g h m =>
    have hq : q' ∈ left := by
      by_cases z : q' ∈ left
      · exact z
      · have := I.out hi a z
        rw [e q' a, f] at this
        have := pos2 s; omega
    exact .two a b c d (by rw [e q' a]; exact f) (by rw [e i (I.lt hi)]; exact g) (by rw [q q' hq q' a]; exact h) fun j hj n1 n2 => by rw [e j hj, q q' hq j hj]; exact m j hj n1 n2
theorem pow_inj {a b : Nat} {u v : Int} (hu : u % 2 = 1) (hv : v % 2 = 1) (h : (2 : Int) ^ a * u = 2 ^ b * v) : a = b ∧ u = v := by
  have h1 := tw_of a hu
  rw [h, tw_of b hv] at h1
  subst h1
  exact ⟨rfl, Int.eq_of_mul_eq_mul_left (by have := pos2 b; omega) h⟩
def sqU (R : Mx) (left : List Nat) (p s : Nat) (back : Int) : Mx := fun a i => if a = p ∧ i ∈ left ∧ i ≠ p then 0 - R p i / 2 ^ s * back else dlt a i
def sqV (p : Nat) (c : Int) : Mx := fun a i => if a = p ∧ i = p then c else dlt a i
theorem sqU_1 {R : Mx} {p s : Nat} {back : Int} {a i : Nat} (h : a ≠ p ∨ i ∉ left ∨ i = p) : sqU R left p s back a i = dlt a i := if_neg fun z => by
  rcases h with h | h | h
  · exact h z.1
  · exact h z.2.1
  · exact z.2.2 h
theorem sqV_1 {p : Nat} {c : Int} {a i : Nat} (h : a ≠ p ∨ i ≠ p) : sqV p c a i = dlt a i := if_neg fun z => by
  rcases h with h | h
  · exact h z.1
  · exact h z.2
theorem pow_lt_exp {a b : Nat} {u : Int} (hu : 1 ≤ u) (h : (2 : Int) ^ a * u < 2 ^ b) : a < b := by
  rcases Nat.lt_or_ge a b with q | q
  · exact q
  · exfalso
    have h1 : (2 : Int) ^ b ≤ 2 ^ a := Int.le_of_dvd (pos2 a) (pdvd q)
    have h2 := pos2 a
    have : (2 : Int) ^ a * 1 ≤ 2 ^ a * u := Int.mul_le_mul_of_nonneg_left hu (by omega)
    omega
theorem Inv.nonneg (I : Inv W n M0 R left fd) {i j : Nat} (hi : i < n) (hj : j < n) : 0 ≤ R i j ∧ R i j < (if i = j then 2 ^ W else 2 ^ (W - 1)) := by
  have e := I.i0.rd i j hi hj
  unfold tab at e
  have hp : (0 : Int) < (if i = j then 2 ^ W else 2 ^ (W - 1)) := by split <;> exact pos2 _
  have h1 := Int.emod_nonneg (R i j) (show (if i = j then (2 : Int) ^ W else 2 ^ (W - 1)) ≠ 0 by omega)
  have h2 := Int.emod_lt_of_pos (R i j) hp
  rw [e] at h1 h2
  exact ⟨h1, h2⟩
theorem sqV_row {n p : Nat} (hp : p < n) {c : Int} {N : Mx} (h : ∀ j, j < n → j ≠ p → N p j = 0) (j : Nat) : cb (ns n) N (sqV p c) p j = c * N p p * sqV p c p j := by
  have nd := ns_nd n
  have pm := ns_mem.mpr hp
  have colV : ∀ b, sl (fun a => sqV p c a p * N a b) (ns n) = c * N p b := fun b => by
    rw [sl_one nd pm (fun a ha e => by rw [sqV_1 (.inl e), dlt_ne e, Int.zero_mul])]
    have : sqV p c p p = c := if_pos ⟨rfl, rfl⟩
    rw [this]
  unfold cb
  rw [sl_one nd pm (fun b hb e => by rw [colV, h b (ns_mem.mp hb) e, Int.mul_zero, Int.zero_mul]), colV]
theorem mem_left' {p x : Nat} : x ∈ left.filter (fun i => decide (i ∉ [p])) ↔ x ∈ left ∧ x ≠ p := by
  rw [List.mem_filter, decide_eq_true_eq, List.mem_singleton]
theorem perm_drop1 {l : List Nat} (nd : l.Nodup) {p : Nat} (hp : p ∈ l) : l.Perm (p :: l.filter (fun i => decide (i ∉ [p]))) := by
  refine (List.perm_ext_iff_of_nodup nd ?_).mpr fun x => ?_
  · rw [List.nodup_cons]
    exact ⟨fun h => (mem_left'.mp h).2 rfl, nd.filter _⟩
  · rw [List.mem_cons, mem_left']
    constructor
    · intro h
      by_cases e : x = p
      · exact .inl e
      · exact .inr ⟨h, e⟩
    · rintro (h | h)
      · rw [h]; exact hp
      · exact h.1
theorem sq_step (I : Inv W n M0 R left fd) (h1 : 1 ≤ W) {s p : Nat} {odd back c : Int} (hp : p ∈ left) (hR : R p p = 2 ^ s * odd) (ho : odd % 2 = 1) (hd : ∀ i ∈ left, ∀ j ∈ left, (2 : Int) ^ s ∣ R i j)
    (hb : Iv W odd back) (hc : c % 2 = 1) :
    Inv W n M0 (tab W (cb (ns n) (tab W (cb (ns n) R (sqU R left p s back))) (sqV p c))) (left.filter (fun i => decide (i ∉ [p]))) (fd ++ [((s, odd % 2 ^ min (W - s) 3), [p])]) := by
  have hpn := I.lt hp
  have pm := ns_mem.mpr hpn
  have nd := ns_nd n
  obtain ⟨r1, r2⟩ := I.nonneg hpn hpn
  rw [if_pos rfl] at r2
  have hs2 := pos2 s
  have o1 : 1 ≤ odd := by
    rcases (show odd < 1 ∨ 1 ≤ odd by omega) with q | q
    · exfalso
      have : odd ≤ -1 := by omega
      have : (2 : Int) ^ s * odd ≤ 2 ^ s * (-1) := Int.mul_le_mul_of_nonneg_left this (by omega)
      omega
    · exact q
  have hsW : s < W := pow_lt_exp o1 (by rw [← hR]; exact r2)
  -- the first change
  have colU : ∀ f, f ∉ left ∨ f = p → ∀ a, a < n → sqU R left p s back a f = dlt a f := fun f hf a _ => sqU_1 (.inr hf)
  have I1 := I.i0.go h1 (U := sqU R left p s back) (fun w => nz_shear nd pm (fun a _ h i _ => sqU_1 (.inl h)) (by rw [sqU_1 (.inr (.inr rfl)), dlt_self])) (fun it hit f hf => by
    have fl : f ∉ left := fun z => I.apart z hit hf
    exact ⟨fun a ha => colU f (.inl fl) a ha, fun j _ => sqU_1 (.inl fun z => fl (by rw [z]; exact hp))⟩)
  have row : ∀ j, j < n → j ≠ p → tab W (cb (ns n) R (sqU R left p s back)) p j = 0 := fun j hj hjp => by
    have e : cb (ns n) R (sqU R left p s back) p j = R p p * sqU R left p s back p j + R p j := by
      unfold cb
      rw [sl_two nd pm (ns_mem.mpr hj) (fun z => hjp z.symm) (fun k hk n1 n2 => by rw [sqU_1 (.inl n1), dlt_ne n2, Int.mul_zero])]
      rw [col_dlt nd pm (fun a ha => colU p (.inr rfl) a (ns_mem.mp ha)), col_dlt nd pm (fun a ha => colU p (.inr rfl) a (ns_mem.mp ha)), sqU_1 (a := j) (.inl hjp), dlt_self, Int.mul_one]
    rw [tab_of e, if_neg (fun z => hjp z.symm)]
    refine Int.emod_eq_zero_of_dvd ?_
    by_cases hl : j ∈ left
    · obtain ⟨t, ht⟩ := hd p hp j hl
      obtain ⟨k, hk⟩ := hb
      have eu : sqU R left p s back p j = 0 - t * back := by
        unfold sqU; rw [if_pos ⟨rfl, hl, hjp⟩, ht, pdiv]
      rw [eu, hR, ht]
      have : (2 : Int) ^ s * odd * (0 - t * back) + 2 ^ s * t = 2 ^ W * (2 ^ s * (- (t * k))) := by
        have : odd * back = 2 ^ W * k + 1 := by omega
        have : 2 ^ s * odd * (0 - t * back) + 2 ^ s * t = 2 ^ s * (t * (1 - odd * back)) := by grind
        rw [this, show 1 - odd * back = -(2 ^ W * k) by omega]; grind
      rw [this]
      exact Int.dvd_trans (pdvd (by omega)) (Int.dvd_mul_right _ _)
    · rw [I.out hp hj hl, sqU_1 (.inr (.inl hl)), dlt_ne (fun z => hjp z.symm)]
      simp
  have dia : tab W (cb (ns n) R (sqU R left p s back)) p p = R p p := by
    have e : cb (ns n) R (sqU R left p s back) p p = R p p := by
      unfold cb
      rw [sl_one nd pm (fun b hb hbp => by rw [colU p (.inr rfl) b (ns_mem.mp hb), dlt_ne hbp, Int.mul_zero]), col_dlt nd pm (fun a ha => colU p (.inr rfl) a (ns_mem.mp ha)), colU p (.inr rfl) p hpn, dlt_self, Int.mul_one]
    rw [tab_of e, if_pos rfl, Int.emod_eq_of_lt r1 r2]
  -- the second
  have I2 := I1.go h1 (U := sqV p c) (fun w => nz_scale nd pm (fun a _ h i _ => sqV_1 (.inl h)) (fun i _ h => by rw [sqV_1 (.inr h), dlt_ne (fun z => h z.symm)]) (by unfold sqV; rw [if_pos ⟨rfl, rfl⟩]; exact hc)) (fun it hit f hf => by
    have fp : f ≠ p := fun z => I.apart hp hit (z ▸ hf)
    exact ⟨fun a _ => sqV_1 (.inr fp), fun j _ => sqV_1 (.inl fp)⟩)
  -- other rows in block forms
  have same : Plain n M0 → 8 ≤ W → ∀ i ∈ left, i ≠ p → ∀ j, j < n → tab W (cb (ns n) (tab W (cb (ns n) R (sqU R left p s back))) (sqV p c)) i j = R i j := fun hpl h8 i hi hip j hj => by
    have hin := I.lt hi
    have ipz : R p i = 0 := by
      cases I.plain_off hpl h8 hp with
      | ze a => exact a i hin
      | one _ _ _ _ _ a => exact a i hin hip
      | @two q s' k a b c' d e f g m =>
        exfalso
        have hq : q ∈ left := by
          by_cases z : q ∈ left
          · exact z
          · have := I.out hp a z
            rw [e] at this; have := pos2 s'; omega
        have q1 := hd p hp q hq
        rw [e] at q1
        have q2 := le_tw (by have := pos2 s'; omega) q1
        have q3 := tw_of s' (u := 1) rfl
        rw [Int.mul_one] at q3
        rw [hR] at f
        rcases d with d | d
        · subst d
          rw [Int.mul_zero] at f
          rcases Int.mul_eq_zero.mp f with z | z <;> omega
        · subst d
          have : (2 : Int) ^ s * odd = 2 ^ (s' + 1) * 1 := by rw [f, pw1]; omega
          have := (pow_inj ho rfl this).1
          omega
    have iz : R i p = 0 := by rw [I.i0.sy i p hin hpn]; exact ipz
    have cU : ∀ a, a < n → sqU R left p s back a i = dlt a i := fun a ha => by
      by_cases e : a = p
      · subst e
        unfold sqU; rw [if_pos ⟨rfl, hi, hip⟩, ipz, dlt_ne (fun z => hip z.symm)]; simp
      · exact sqU_1 (.inl e)
    have e1 : ∀ j, j < n → tab W (cb (ns n) R (sqU R left p s back)) i j = R i j := fun j hj => by
      rw [tab_of (cb_fix nd (ns_mem.mpr hin) (ns_mem.mpr hj) (fun a ha => cU a (ns_mem.mp ha)) (fun b hb z => sqU_1 (.inl fun e => z (by rw [e]; exact iz))))]
      exact I.i0.rd i j hin hj
    rw [tab_of (cb_fix nd (ns_mem.mpr hin) (ns_mem.mpr hj) (fun a _ => sqV_1 (.inr hip)) (fun b hb z => sqV_1 (.inl fun e => z (by rw [e, e1 p hpn]; exact iz))))]
    rw [e1 j hj]
    exact I.i0.rd i j hin hj
  have hkind : ∀ j : Int, (odd % 2 ^ min (W - s) 3) % 2 = 1 := fun _ => by
    rw [Int.emod_emod_of_dvd _ (show (2 : Int) ∣ 2 ^ min (W - s) 3 from ⟨2 ^ (min (W - s) 3 - 1), by rw [← pw1]; congr 1; omega⟩)]; exact ho
  have hk8 : 0 ≤ odd % 2 ^ min (W - s) 3 ∧ odd % 2 ^ min (W - s) 3 < 8 := by
    have h3 := pos2 (min (W - s) 3)
    have hle : (2 : Int) ^ min (W - s) 3 ≤ 8 := Int.le_of_dvd (by omega) (pdvd (b := 3) (by omega))
    exact ⟨Int.emod_nonneg _ (by omega), by have := Int.emod_lt_of_pos odd h3; omega⟩
  refine ⟨⟨I2.sy, I2.rd, I2.nz, fun it hit => ?_⟩, ?_, fun it hit => ?_, fun hpl h8 => ?_⟩
  · rcases List.mem_append.mp hit with m | m
    · exact I2.bk it m
    · rw [List.mem_singleton] at m
      subst m
      have e2 : ∀ j, j < n → cb (ns n) (tab W (cb (ns n) R (sqU R left p s back))) (sqV p c) p j = c * R p p * sqV p c p j := fun j hj => by
        rw [sqV_row hpn row j, dia]
      refine .sq (u := (c * c * odd) % 2 ^ (W - s)) hpn (fun j hj hjp => ?_) ?_ ⟨rfl, ?_, hkind 0, fun h => ?_, fun h => ?_⟩
      · rw [tab_of (e2 j hj), sqV_1 (.inr hjp), dlt_ne (fun z => hjp z.symm)]
        simp
      · rw [tab_of (e2 p hpn), if_pos rfl]
        have : sqV p c p p = c := if_pos ⟨rfl, rfl⟩
        rw [this, hR, ← pmod (by omega)]
        congr 1; grind
      · rw [Int.emod_emod_of_dvd _ (show (2 : Int) ∣ 2 ^ (W - s) from ⟨2 ^ (W - s - 1), by rw [← pw1]; congr 1; omega⟩)]
        have := c2mod hc odd; omega
      · rw [Int.emod_emod_of_dvd _ (show (4 : Int) ∣ 2 ^ (W - s) from pdvd (a := 2) (by omega)), Int.emod_emod_of_dvd _ (show (4 : Int) ∣ 2 ^ min (W - s) 3 from pdvd (a := 2) (by omega))]
        have := c2mod hc odd; omega
      · rw [Int.emod_emod_of_dvd _ (show (8 : Int) ∣ 2 ^ (W - s) from pdvd (a := 3) (by omega)), Int.emod_emod_of_dvd _ (show (8 : Int) ∣ 2 ^ min (W - s) 3 from pdvd (a := 3) (by omega))]
        exact c2mod hc odd
  · rw [List.flatMap_append, List.append_assoc]
    refine (List.Perm.append_left _ ?_).trans I.pm
    show (p :: _).Perm left
    exact (perm_drop1 (List.nodup_append.mp I.nd).2.1 hp).symm
  · rcases List.mem_append.mp hit with m | m
    · exact I.bd it m
    · rw [List.mem_singleton] at m
      subst m
      exact ⟨hsW, hk8⟩
  · obtain ⟨q1, q2⟩ := I.pl hpl h8
    refine ⟨fun i hi j hj => ?_, fun it hit w => ?_⟩
    · obtain ⟨hi, hip⟩ := mem_left'.mp hi
      rw [same hpl h8 i hi hip j hj]
      exact q1 i hi j hj
    · rcases List.mem_append.mp hit with m | m
      · exact q2 it m w
      · rw [List.mem_singleton] at m
        subst m
        have rp := q1 p hp
        cases I.plain_off hpl h8 hp with
        | ze a =>
          have := a p hpn
          rw [hR] at this
          rcases Int.mul_eq_zero.mp this with z | z <;> omega
        | @one s' k a b c1 d e f =>
          rw [hR] at e
          obtain ⟨e1, e2⟩ := pow_inj ho b e
          subst e1 e2
          have : odd % 2 ^ min (W - s) 3 = odd := by
            rw [show min (W - s) 3 = 3 by omega]; exact Int.emod_eq_of_lt (by omega) d
          rw [this]
          exact .sq hpn (fun j hj hjp => by rw [← rp j hj]; exact f j hj hjp) (by rw [← rp p hpn]; exact hR) ⟨rfl, ho, ho, fun _ => rfl, fun _ => rfl⟩
        | @two q s' k a b c' d e f g m =>
          exfalso
          have hq : q ∈ left := by
            by_cases z : q ∈ left
            · exact z
            · have := I.out hp a z
              rw [e] at this; have := pos2 s'; omega
          have q1 := hd p hp q hq
          rw [e] at q1
          have q2 := le_tw (by have := pos2 s'; omega) q1
          have q3 := tw_of s' (u := 1) rfl
          rw [Int.mul_one] at q3
          rw [hR] at f
          rcases d with d | d
          · subst d
            rw [Int.mul_zero] at f
            rcases Int.mul_eq_zero.mp f with z | z <;> omega
          · subst d
            have : (2 : Int) ^ s * odd = 2 ^ (s' + 1) * 1 := by rw [f, pw1]; omega
            have := (pow_inj ho rfl this).1
            omega
end
end Sq
set_option autoImplicit false
set_option linter.all false
set_option maxHeartbeats 1000000
/-! The pair step of the splitting. -/
namespace Sq
theorem i1 (S f : Int) : 2 * S * f = S * (2 * f) := by grind
theorem i2 (S f t u r : Int) : (1 * (2 * S * f) + r * (S * u)) * 1 + (1 * (S * u) + r * (2 * S * t)) * r = S * (2 * (f + u * r + t * r * r)) := by grind
theorem i3 (S f t u l b : Int) : (l * (2 * S * f) + b * (S * u)) * l + (l * (S * u) + b * (2 * S * t)) * b = S * (2 * (f * l * l + u * l * b + t * b * b)) := by grind
theorem i4 (S P a : Int) : 2 * (P * S * a) = P * (2 * a * S) := by grind
theorem i5 (S f t u r l b : Int) : (1 * (2 * S * f) + r * (S * u)) * l + (1 * (S * u) + r * (2 * S * t)) * b = S * (2 * f * l + u * b + u * r * l + 2 * t * r * b) := by grind
theorem i6 (S P a : Int) : P * (2 * S) * a = P * (a * (2 * S)) := by grind
theorem i7 {k B S b : Int} (h : (k * k - 1) * B - 1 = S * b) : k * k * B = 1 + B + S * b := by grind
theorem i8 (S k x y B : Int) : S * k * ((y - k * x) * B) + S * 1 * ((x - k * y) * B) + S * x = S * (x * (1 + B - k * k * B)) := by grind
theorem i9 (S x B W b : Int) : S * (x * (1 + B - (1 + B + W * b))) = W * -(S * x * b) := by grind
theorem i10 (S k x y B : Int) : S * 1 * ((y - k * x) * B) + S * k * ((x - k * y) * B) + S * y = S * (y * (1 + B - k * k * B)) := by grind
def prU (p q : Nat) (root lead by' : Int) : Mx := fun a i => if a = q ∧ i = p then root else if a = p ∧ i = q then lead else if a = q ∧ i = q then by' else dlt a i
def prV (R : Mx) (left : List Nat) (p q s : Nat) (k B : Int) : Mx := fun a i => if a = p ∧ i ∈ left ∧ i ≠ p ∧ i ≠ q then (R q i / 2 ^ s - k * (R p i / 2 ^ s)) * B else if a = q ∧ i ∈ left ∧ i ≠ p ∧ i ≠ q then (R p i / 2 ^ s - k * (R q i / 2 ^ s)) * B else dlt a i
section
variable {p q : Nat} {root lead by' : Int} {a i : Nat}
theorem prU_1 (h : a ≠ q) (h' : a ≠ p) : prU p q root lead by' a i = dlt a i := by
  unfold prU; rw [if_neg (fun z => h z.1), if_neg (fun z => h' z.1), if_neg (fun z => h z.1)]
theorem prU_2 (h : i ≠ q) (h' : i ≠ p) : prU p q root lead by' a i = dlt a i := by
  unfold prU; rw [if_neg (fun z => h' z.2), if_neg (fun z => h z.2), if_neg (fun z => h z.2)]
theorem prU_qp : prU p q root lead by' q p = root := if_pos ⟨rfl, rfl⟩
theorem prU_pq (h : p ≠ q) : prU p q root lead by' p q = lead := by unfold prU; rw [if_neg (fun z => h z.1), if_pos ⟨rfl, rfl⟩]
theorem prU_qq (h : p ≠ q) : prU p q root lead by' q q = by' := by unfold prU; rw [if_neg (fun z => h z.2.symm), if_neg (fun z => h z.1.symm), if_pos ⟨rfl, rfl⟩]
theorem prU_pp (h : p ≠ q) : prU p q root lead by' p p = 1 := by unfold prU; rw [if_neg (fun z => h z.1), if_neg (fun z => h z.2), if_neg (fun z => h z.1), dlt_self]
/-- rows p, q behind the change -/
theorem prU_col {n : Nat} (hp : p < n) (hq : q < n) (h : p ≠ q) {N : Mx} {f b : Nat} : (f = p ∨ f = q) → sl (fun a => prU p q root lead by' a f * N a b) (ns n) = prU p q root lead by' p f * N p b + prU p q root lead by' q f * N q b := fun hf => by
  rw [sl_two (ns_nd n) (ns_mem.mpr hp) (ns_mem.mpr hq) h (fun k _ n1 n2 => by
    rw [prU_1 n2 n1, dlt_ne (fun z => by rcases hf with e | e; exact n1 (z.trans e); exact n2 (z.trans e)), Int.zero_mul])]
theorem prU_in {n : Nat} (hp : p < n) (hq : q < n) (h : p ≠ q) {N : Mx} {f j : Nat} (hf : f = p ∨ f = q) (hj : j = p ∨ j = q) : cb (ns n) N (prU p q root lead by') f j =
    (prU p q root lead by' p f * N p p + prU p q root lead by' q f * N q p) * prU p q root lead by' p j + (prU p q root lead by' p f * N p q + prU p q root lead by' q f * N q q) * prU p q root lead by' q j := by
  unfold cb
  rw [sl_two (ns_nd n) (ns_mem.mpr hp) (ns_mem.mpr hq) h (fun k _ n1 n2 => by
    rw [prU_1 n2 n1, dlt_ne (fun z => by rcases hj with e | e; exact n1 (z.trans e); exact n2 (z.trans e)), Int.mul_zero])]
  rw [prU_col hp hq h hf, prU_col hp hq h hf]
theorem prU_out {n : Nat} (hp : p < n) (hq : q < n) (h : p ≠ q) {N : Mx} {f j : Nat} (hf : f = p ∨ f = q) (hjn : j < n) (hj1 : j ≠ p) (hj2 : j ≠ q) : cb (ns n) N (prU p q root lead by') f j =
    prU p q root lead by' p f * N p j + prU p q root lead by' q f * N q j := by
  unfold cb
  rw [sl_one (ns_nd n) (ns_mem.mpr hjn) (fun b _ e => by rw [prU_2 hj2 hj1, dlt_ne e, Int.mul_zero]), prU_2 hj2 hj1, dlt_self, Int.mul_one, prU_col hp hq h hf]
end
theorem mem_left2 {left : List Nat} {p q x : Nat} : x ∈ left.filter (fun i => decide (i ∉ [p, q])) ↔ x ∈ left ∧ x ≠ p ∧ x ≠ q := by
  rw [List.mem_filter, decide_eq_true_eq, List.mem_cons, List.mem_singleton, not_or]
theorem perm_drop2 {l : List Nat} (nd : l.Nodup) {p q : Nat} (hp : p ∈ l) (hq : q ∈ l) (h : p ≠ q) : l.Perm (p :: q :: l.filter (fun i => decide (i ∉ [p, q]))) := by
  refine (List.perm_ext_iff_of_nodup nd ?_).mpr fun x => ?_
  · rw [List.nodup_cons, List.nodup_cons]
    exact ⟨fun z => by
      rcases List.mem_cons.mp z with z | z
      · exact h z
      · exact (mem_left2.mp z).2.1 rfl, fun z => (mem_left2.mp z).2.2 rfl, nd.filter _⟩
  · rw [List.mem_cons, List.mem_cons, mem_left2]
    constructor
    · intro h
      by_cases e : x = p
      · exact .inl e
      · by_cases e2 : x = q
        · exact .inr (.inl e2)
        · exact .inr (.inr ⟨h, e, e2⟩)
    · rintro (h | h | h)
      · rw [h]; exact hp
      · rw [h]; exact hq
      · exact h.1
section
variable {W n : Nat} {M0 R : Mx} {left : List Nat} {fd : List ((Nat × Int) × List Nat)}
theorem tab_mul {W : Nat} {M : Mx} {i j : Nat} {s m : Nat} (hm : (if i = j then W else W - 1) = m) (hs : s ≤ m) {x v : Int} (h : M i j = 2 ^ s * x) (hx : x % 2 ^ (m - s) = v) : tab W M i j = 2 ^ s * v := by
  have e : (if i = j then (2 : Int) ^ W else 2 ^ (W - 1)) = 2 ^ m := by rw [← hm]; split <;> rfl
  rw [tab_of h, e, pmod hs, hx]
theorem emod_dvd_of {S v x : Int} (h : S ∣ x - v) (h0 : 0 ≤ v) (h1 : v < S) : x % S = v := by
  obtain ⟨k, e⟩ := h
  rw [show x = v + S * k by omega, Int.add_mul_emod_self_left, Int.emod_eq_of_lt h0 h1]
theorem two_lt {m : Nat} (h : 2 ≤ m) : (4 : Int) ≤ 2 ^ m := Int.le_of_dvd (pos2 m) (pdvd (a := 2) h)
theorem pr_step (I : Inv W n M0 R left fd) (h1 : 1 ≤ W) {s p q : Nat} {u kk root lead by' B : Int} (hp : p ∈ left) (hq : q ∈ left) (hpq : p ≠ q) (hR : R p q = 2 ^ s * u) (hu : u % 2 = 1) (hd : ∀ i ∈ left, ∀ j ∈ left, (2 : Int) ^ s ∣ R i j) (hdd : ∀ i ∈ left, (2 : Int) ^ (s + 1) ∣ R i i)
    (hkk : kk = R p p / 2 ^ (s + 1) * (R q q / 2 ^ (s + 1)) % 2) (ok : PairOk (2 ^ W) (R p p / 2 ^ (s + 1)) u (R q q / 2 ^ (s + 1)) kk root lead by')
    (hB : Iv W (2 * kk * (2 * kk) - 1) B) :
    Inv W n M0 (tab W (cb (ns n) (tab W (cb (ns n) R (prU p q root lead by'))) (prV (tab W (cb (ns n) R (prU p q root lead by'))) left p q s (2 * kk) B)))
      (left.filter (fun i => decide (i ∉ [p, q]))) (fd ++ [((s, 2 * kk), [p, q])]) := by
  have hpn := I.lt hp
  have hqn := I.lt hq
  have pm := ns_mem.mpr hpn
  have qm := ns_mem.mpr hqn
  have nd := ns_nd n
  have hqp : q ≠ p := fun z => hpq z.symm
  have hs2 := pos2 s
  have kcase : kk = 0 ∨ kk = 1 := by omega
  obtain ⟨f, hf⟩ := hdd p hp
  obtain ⟨t, ht⟩ := hdd q hq
  rw [hf, ht, pdiv, pdiv] at ok hkk
  rw [pw1] at hf ht
  obtain ⟨⟨a1, ha1⟩, ⟨a2, ha2⟩, ⟨a3, ha3⟩, det⟩ := ok
  have hsW : s + 2 ≤ W := by
    obtain ⟨r1, r2⟩ := I.nonneg hpn hqn
    rw [if_neg hpq, hR] at r2
    rw [hR] at r1
    have u1 : 1 ≤ u := by
      rcases (show u < 1 ∨ 1 ≤ u by omega) with z | z
      · exfalso
        have : (2 : Int) ^ s * u ≤ 2 ^ s * (-1) := Int.mul_le_mul_of_nonneg_left (by omega) (by omega)
        omega
      · exact z
    have := pow_lt_exp u1 r2
    omega
  have hRqp : R q p = 2 ^ s * u := by rw [I.i0.sy q p hqn hpn]; exact hR
  have Wd : (2 : Int) ^ W = 2 ^ (W - 1 - s) * (2 * 2 ^ s) := by
    rw [← pw1, ← Int.pow_add]; congr 1; omega
  -- the first change
  have I1 := I.i0.go h1 (U := prU p q root lead by') (fun w => nz_pair nd pm qm hpq (fun a _ e1 e2 i _ => prU_1 e2 e1) (fun i _ e1 e2 => by rw [prU_2 e2 e1, prU_2 e2 e1, dlt_ne (fun z => e1 z.symm), dlt_ne (fun z => e2 z.symm)]; exact ⟨rfl, rfl⟩) (prU_pp hpq) (by rw [prU_qq hpq, prU_qp, prU_pq hpq]; exact det)) (fun it hit f hf => by
    have fp : f ≠ p := fun z => I.apart hp hit (z ▸ hf)
    have fq : f ≠ q := fun z => I.apart hq hit (z ▸ hf)
    exact ⟨fun a _ => prU_2 fq fp, fun j _ => prU_1 fq fp⟩)
  have outU : ∀ f, f = p ∨ f = q → ∀ j, j < n → j ≠ p → j ≠ q → cb (ns n) R (prU p q root lead by') f j = prU p q root lead by' p f * R p j + prU p q root lead by' q f * R q j := fun f hf j hj e1 e2 => prU_out hpn hqn hpq hf hj e1 e2
  have inU : ∀ f j, (f = p ∨ f = q) → (j = p ∨ j = q) → cb (ns n) R (prU p q root lead by') f j = (prU p q root lead by' p f * R p p + prU p q root lead by' q f * R q p) * prU p q root lead by' p j + (prU p q root lead by' p f * R p q + prU p q root lead by' q f * R q q) * prU p q root lead by' q j := fun f j hf hj => prU_in hpn hqn hpq hf hj
  generalize hN : tab W (cb (ns n) R (prU p q root lead by')) = N at I1 ⊢
  have npp : N p p = 2 ^ s * (2 * kk) := by
    rw [← hN]
    refine tab_mul (m := W) (if_pos rfl) (by omega) (x := 2 * (f + u * root + t * root * root)) ?_ (emod_dvd_of ⟨2 * a1 * 2 ^ s, ?_⟩ (by omega) ?_)
    · rw [inU p p (.inl rfl) (.inl rfl), prU_pp hpq, prU_qp, hf, ht, hR, hRqp]; exact i2 _ _ _ _ _
    · have : (2 : Int) ^ W = 2 ^ (W - s) * 2 ^ s := by rw [← Int.pow_add]; congr 1; omega
      rw [this] at ha1
      have : 2 * (f + u * root + t * root * root) - 2 * kk = 2 * (f + u * root + t * root * root - kk) := by omega
      rw [this, ha1]; exact i4 _ _ _
    · have := two_lt (m := W - s) (by omega); omega
  have nqq : N q q = 2 ^ s * (2 * kk) := by
    rw [← hN]
    refine tab_mul (m := W) (if_pos rfl) (by omega) (x := 2 * (f * lead * lead + u * lead * by' + t * by' * by')) ?_ (emod_dvd_of ⟨2 * a3 * 2 ^ s, ?_⟩ (by omega) ?_)
    · rw [inU q q (.inr rfl) (.inr rfl), prU_pq hpq, prU_qq hpq, hf, ht, hR, hRqp]; exact i3 _ _ _ _ _ _
    · have : (2 : Int) ^ W = 2 ^ (W - s) * 2 ^ s := by rw [← Int.pow_add]; congr 1; omega
      rw [this] at ha3
      have : 2 * (f * lead * lead + u * lead * by' + t * by' * by') - 2 * kk = 2 * (f * lead * lead + u * lead * by' + t * by' * by' - kk) := by omega
      rw [this, ha3]; exact i4 _ _ _
    · have := two_lt (m := W - s) (by omega); omega
  have npq : N p q = 2 ^ s * 1 := by
    rw [← hN]
    refine tab_mul (m := W - 1) (if_neg hpq) (by omega) (x := 2 * f * lead + u * by' + u * root * lead + 2 * t * root * by') ?_ (emod_dvd_of ⟨a2 * (2 * 2 ^ s), ?_⟩ (by omega) ?_)
    · rw [inU p q (.inl rfl) (.inr rfl), prU_pp hpq, prU_qp, prU_pq hpq, prU_qq hpq, hf, ht, hR, hRqp]; exact i5 _ _ _ _ _ _ _
    · rw [Wd] at ha2
      rw [ha2]; exact i6 _ _ _
    · have := pos2 (W - 1 - s - 1)
      have : (2 : Int) ^ (W - 1 - s) = 2 * 2 ^ (W - 1 - s - 1) := by rw [← pw1]; congr 1; omega
      omega
  have nqp : N q p = 2 ^ s * 1 := by rw [I1.sy q p hqn hpn]; exact npq
  have noff : ∀ f, f = p ∨ f = q → ∀ j, j < n → j ≠ p → j ≠ q → (j ∉ left → N f j = 0) ∧ (j ∈ left → (2 : Int) ^ s ∣ N f j) := fun f hf j hj e1 e2 => by
    rw [← hN]
    have fj : f ≠ j := fun z => by rcases hf with e | e; exact e1 (z.symm.trans e); exact e2 (z.symm.trans e)
    rw [tab_of (outU f hf j hj e1 e2), if_neg fj]
    constructor
    · intro hl
      rw [I.out hp hj hl, I.out hq hj hl]; simp
    · intro hl
      have z : (2 : Int) ^ s ∣ prU p q root lead by' p f * R p j + prU p q root lead by' q f * R q j := Int.dvd_add (Int.dvd_trans (hd p hp j hl) (Int.dvd_mul_left _ _)) (Int.dvd_trans (hd q hq j hl) (Int.dvd_mul_left _ _))
      obtain ⟨x, ex⟩ := z
      rw [ex, pmod (by omega)]
      exact Int.dvd_mul_right _ _
  -- the second
  have V1 : ∀ {a i : Nat}, a ≠ p → a ≠ q → prV N left p q s (2 * kk) B a i = dlt a i := fun h h' => by
    unfold prV; rw [if_neg (fun z => h z.1), if_neg (fun z => h' z.1)]
  have V2 : ∀ {a i : Nat}, i ∉ left ∨ i = p ∨ i = q → prV N left p q s (2 * kk) B a i = dlt a i := fun h => by
    unfold prV
    have : ∀ {a i x : Nat}, (i ∉ left ∨ i = p ∨ i = q) → ¬(a = x ∧ i ∈ left ∧ i ≠ p ∧ i ≠ q) := fun h z => by
      rcases h with h | h | h
      · exact h z.2.1
      · exact z.2.2.1 h
      · exact z.2.2.2 h
    rw [if_neg (this h), if_neg (this h)]
  have I2 := I1.go h1 (U := prV N left p q s (2 * kk) B) (fun w => nz_twoshear nd pm qm hpq (fun a _ e1 e2 i _ => V1 e1 e2) ⟨by rw [V2 (.inr (.inl rfl)), dlt_self], by rw [V2 (.inr (.inr rfl)), dlt_ne hpq], by rw [V2 (.inr (.inl rfl)), dlt_ne hqp], by rw [V2 (.inr (.inr rfl)), dlt_self]⟩) (fun it hit f hf => by
    have fp : f ≠ p := fun z => I.apart hp hit (z ▸ hf)
    have fq : f ≠ q := fun z => I.apart hq hit (z ▸ hf)
    have fl : f ∉ left := fun z => I.apart z hit hf
    exact ⟨fun a _ => V2 (.inl fl), fun j _ => V1 fp fq⟩)
  have colV : ∀ f, f = p ∨ f = q → ∀ b, sl (fun a => prV N left p q s (2 * kk) B a f * N a b) (ns n) = N f b := fun f hf b => by
    refine col_dlt nd ?_ fun a _ => V2 (by rcases hf with e | e; exact .inr (.inl e); exact .inr (.inr e))
    rcases hf with e | e <;> rw [e] <;> assumption
  -- entries inside stay
  have inV : ∀ f, f = p ∨ f = q → ∀ j, j = p ∨ j = q → tab W (cb (ns n) N (prV N left p q s (2 * kk) B)) f j = N f j := fun f hf j hj => by
    have fn : f < n := by rcases hf with e | e <;> rw [e] <;> assumption
    have jn : j < n := by rcases hj with e | e <;> rw [e] <;> assumption
    have e : cb (ns n) N (prV N left p q s (2 * kk) B) f j = N f j := by
      unfold cb
      rw [sl_one nd (ns_mem.mpr jn) (fun b _ e => by rw [V2 (by rcases hj with z | z; exact .inr (.inl z); exact .inr (.inr z)), dlt_ne e, Int.mul_zero]), colV f hf, V2 (by rcases hj with z | z; exact .inr (.inl z); exact .inr (.inr z)), dlt_self, Int.mul_one]
    rw [tab_of e]
    exact I1.rd f j fn jn
  obtain ⟨bb, hbb⟩ := hB
  have outV : ∀ f, f = p ∨ f = q → ∀ j, j < n → j ≠ p → j ≠ q → tab W (cb (ns n) N (prV N left p q s (2 * kk) B)) f j = 0 := fun f hf j hj e1 e2 => by
    have fj : f ≠ j := fun z => by rcases hf with e | e; exact e1 (z.symm.trans e); exact e2 (z.symm.trans e)
    by_cases hl : j ∈ left
    · have e : cb (ns n) N (prV N left p q s (2 * kk) B) f j = N f p * prV N left p q s (2 * kk) B p j + N f q * prV N left p q s (2 * kk) B q j + N f j := by
        unfold cb
        rw [sl_three nd pm qm (ns_mem.mpr hj) hpq (fun z => e1 z.symm) (fun z => e2 z.symm) (fun b _ n1 n2 n3 => by rw [V1 n1 n2, dlt_ne n3, Int.mul_zero]), colV f hf, colV f hf, colV f hf, V1 e1 e2, dlt_self, Int.mul_one]
      obtain ⟨x, hx⟩ := (noff p (.inl rfl) j hj e1 e2).2 hl
      obtain ⟨y, hy⟩ := (noff q (.inr rfl) j hj e1 e2).2 hl
      have v1 : prV N left p q s (2 * kk) B p j = (y - 2 * kk * x) * B := by
        unfold prV; rw [if_pos ⟨rfl, hl, e1, e2⟩, hx, hy, pdiv, pdiv]
      have v2 : prV N left p q s (2 * kk) B q j = (x - 2 * kk * y) * B := by
        unfold prV; rw [if_neg (fun z => hqp z.1), if_pos ⟨rfl, hl, e1, e2⟩, hx, hy, pdiv, pdiv]
      have hB' : 2 * kk * (2 * kk) * B = 1 + B + 2 ^ W * bb := i7 hbb
      rw [tab_of e, if_neg fj, v1, v2]
      refine Int.emod_eq_zero_of_dvd (Int.dvd_trans (pdvd (b := W) (by omega)) ?_)
      rcases hf with e | e
      · subst e
        rw [npp, npq, hx]
        refine ⟨- (2 ^ s * x * bb), ?_⟩
        have : 2 ^ s * (2 * kk) * ((y - 2 * kk * x) * B) + 2 ^ s * 1 * ((x - 2 * kk * y) * B) + 2 ^ s * x = 2 ^ s * (x * (1 + B - 2 * kk * (2 * kk) * B)) := i8 _ _ _ _ _
        rw [this, hB']; exact i9 _ _ _ _ _
      · subst e
        rw [nqp, nqq, hy]
        refine ⟨- (2 ^ s * y * bb), ?_⟩
        have : 2 ^ s * 1 * ((y - 2 * kk * x) * B) + 2 ^ s * (2 * kk) * ((x - 2 * kk * y) * B) + 2 ^ s * y = 2 ^ s * (y * (1 + B - 2 * kk * (2 * kk) * B)) := i10 _ _ _ _ _
        rw [this, hB']; exact i9 _ _ _ _ _
    · have nz0 := (noff f hf j hj e1 e2).1 hl
      have e : cb (ns n) N (prV N left p q s (2 * kk) B) f j = N f j := by
        unfold cb
        rw [sl_one nd (ns_mem.mpr hj) (fun b _ e => by rw [V2 (.inl hl), dlt_ne e, Int.mul_zero]), colV f hf, V2 (.inl hl), dlt_self, Int.mul_one]
      rw [tab_of e, nz0]; simp
  -- other rows in block forms
  have shape : Plain n M0 → 8 ≤ W → ∃ k : Int, (k = 0 ∨ k = 2) ∧ u = 1 ∧ R p p = 2 ^ s * k ∧ R q q = 2 ^ s * k ∧ ∀ j, j < n → j ≠ p → j ≠ q → R p j = 0 ∧ R q j = 0 := fun hpl h8 => by
    cases I.plain_off hpl h8 hp with
    | ze a => have := a q hqn; rw [hR] at this; rcases Int.mul_eq_zero.mp this with z | z <;> omega
    | one _ _ _ _ _ a => have := a q hqn hqp; rw [hR] at this; rcases Int.mul_eq_zero.mp this with z | z <;> omega
    | @two q' s' k a b c d e f g m =>
      have : q' = q := by
        by_cases z : q' = q
        · exact z
        · have := (m q hqn hqp (fun y => z y.symm)).1
          rw [hR] at this; rcases Int.mul_eq_zero.mp this with z | z <;> omega
      subst this
      have es : (2 : Int) ^ s * u = 2 ^ s' * 1 := by rw [← hR, e]; omega
      obtain ⟨e1, e2⟩ := pow_inj hu rfl es
      subst e1
      exact ⟨k, d, e2, f, g, m⟩
  have same : Plain n M0 → 8 ≤ W → ∀ i ∈ left, i ≠ p → i ≠ q → ∀ j, j < n → tab W (cb (ns n) N (prV N left p q s (2 * kk) B)) i j = R i j := fun hpl h8 i hi hip hiq j hj => by
    have hin := I.lt hi
    obtain ⟨k, _, _, _, _, off⟩ := shape hpl h8
    obtain ⟨ipz, iqz⟩ := off i hin hip hiq
    have zp : R i p = 0 := by rw [I.i0.sy i p hin hpn]; exact ipz
    have zq : R i q = 0 := by rw [I.i0.sy i q hin hqn]; exact iqz
    have e1 : ∀ j, j < n → N i j = R i j := fun j hj => by
      rw [← hN, tab_of (cb_fix nd (ns_mem.mpr hin) (ns_mem.mpr hj) (fun a _ => prU_2 hiq hip) (fun b hb z => prU_1 (fun e => z (by rw [e]; exact zq)) (fun e => z (by rw [e]; exact zp))))]
      exact I.i0.rd i j hin hj
    have np : N p i = 0 := by rw [I1.sy p i hpn hin, e1 p hpn]; exact zp
    have nq : N q i = 0 := by rw [I1.sy q i hqn hin, e1 q hqn]; exact zq
    have cV : ∀ a, prV N left p q s (2 * kk) B a i = dlt a i := fun a => by
      by_cases e : a = p
      · rw [e]; unfold prV; rw [if_pos ⟨rfl, hi, hip, hiq⟩, np, nq, dlt_ne (fun z => hip z.symm)]; simp
      · by_cases e2 : a = q
        · rw [e2]; unfold prV; rw [if_neg (fun z => hqp z.1), if_pos ⟨rfl, hi, hip, hiq⟩, np, nq, dlt_ne (fun z => hiq z.symm)]; simp
        · exact V1 e e2
    rw [tab_of (cb_fix nd (ns_mem.mpr hin) (ns_mem.mpr hj) (fun a _ => cV a) (fun b hb z => V1 (fun e => z (by rw [e, e1 p hpn]; exact zp)) (fun e => z (by rw [e, e1 q hqn]; exact zq)))), e1 j hj]
    exact I.i0.rd i j hin hj
  have k2 : 2 * kk = 0 ∨ 2 * kk = 2 := by omega
  refine ⟨⟨I2.sy, I2.rd, I2.nz, fun it hit => ?_⟩, ?_, fun it hit => ?_, fun hpl h8 => ?_⟩
  · rcases List.mem_append.mp hit with m | m
    · exact I2.bk it m
    · rw [List.mem_singleton] at m
      subst m
      exact .pr hpn hqn hpq (fun j hj e1 e2 => ⟨outV p (.inl rfl) j hj e1 e2, outV q (.inr rfl) j hj e1 e2⟩) k2 (by rw [inV p (.inl rfl) q (.inr rfl), npq, Int.mul_one]) (by rw [inV p (.inl rfl) p (.inl rfl), npp]) (by rw [inV q (.inr rfl) q (.inr rfl), nqq])
  · rw [List.flatMap_append, List.append_assoc]
    refine (List.Perm.append_left _ ?_).trans I.pm
    show (p :: q :: _).Perm left
    exact (perm_drop2 (List.nodup_append.mp I.nd).2.1 hp hq hpq).symm
  · rcases List.mem_append.mp hit with m | m
    · exact I.bd it m
    · rw [List.mem_singleton] at m
      subst m
      exact ⟨by show s < W; omega, by show 0 ≤ 2 * kk; omega, by show 2 * kk < 8; omega⟩
  · obtain ⟨q1, q2⟩ := I.pl hpl h8
    refine ⟨fun i hi j hj => ?_, fun it hit w => ?_⟩
    · obtain ⟨hi, hip, hiq⟩ := mem_left2.mp hi
      rw [same hpl h8 i hi hip hiq j hj]
      exact q1 i hi j hj
    · rcases List.mem_append.mp hit with m | m
      · exact q2 it m w
      · rw [List.mem_singleton] at m
        subst m
        obtain ⟨k, k1, hu1, s1, s2, off⟩ := shape hpl h8
        have ek : 2 * kk = k := by
          have ef : 2 ^ s * (2 * f) = 2 ^ s * k := by rw [← s1, hf]; exact (i1 _ _).symm
          have et : 2 ^ s * (2 * t) = 2 ^ s * k := by rw [← s2, ht]; exact (i1 _ _).symm
          have ef := Int.eq_of_mul_eq_mul_left (show (2 : Int) ^ s ≠ 0 by omega) ef
          have et := Int.eq_of_mul_eq_mul_left (show (2 : Int) ^ s ≠ 0 by omega) et
          have : f = t := by omega
          subst this
          rcases k1 with e | e
          · have : f = 0 := by omega
            subst this; subst e; rw [hkk]; rfl
          · have : f = 1 := by omega
            subst this; subst e; rw [hkk]; rfl
        rw [ek]
        refine .pr hpn hqn hpq (fun j hj e1 e2 => ?_) k1 (by rw [← q1 p hp q hqn, hR, hu1, Int.mul_one]) (by rw [← q1 p hp p hpn]; exact s1) (by rw [← q1 q hq q hqn]; exact s2)
        rw [← q1 p hp j hj, ← q1 q hq j hj]
        exact off j hj e1 e2
end
end Sq
set_option autoImplicit false
set_option linter.all false
set_option maxHeartbeats 1000000
/-! What the law needs of the nought count. -/
namespace Sq
/-! ### sums over lists and over names -/
theorem sv_base {q : Nat} {g : Vx → Int} {i : Nat} {b : Int} : ∀ {l : List Nat} {x : Vx}, i ∉ l → sv q l g (up x i b) = sv q l (fun y => g (up y i b)) x
  | [], _, _ => rfl
  | j :: l, x, h => by
    rw [List.mem_cons, not_or] at h
    show sm q (fun a => sv q l g (up (up x i b) j a)) = sm q (fun a => sv q l (fun y => g (up y i b)) (up x j a))
    refine sm_ext fun a => ?_
    rw [← sv_base h.2, up_comm x h.1]
theorem sv_add (q : Nat) (f g : Vx → Int) : ∀ (l : List Nat) (x : Vx), sv q l (fun y => f y + g y) x = sv q l f x + sv q l g x
  | [], _ => rfl
  | i :: l, x => by
    show sm q _ = sm q _ + sm q _
    rw [← sm_add]; exact sm_ext fun a => sv_add q f g l _
theorem sv_mul (q : Nat) (c : Int) (f : Vx → Int) : ∀ (l : List Nat) (x : Vx), sv q l (fun y => c * f y) x = c * sv q l f x
  | [], _ => rfl
  | i :: l, x => by
    show sm q _ = c * sm q _
    rw [← sm_mul]; exact sm_ext fun a => sv_mul q c f l _
theorem sv_const (q : Nat) (c : Int) : ∀ (l : List Nat) (x : Vx), sv q l (fun _ => c) x = (q : Int) ^ l.length * c
  | [], _ => by show c = 1 * c; omega
  | i :: l, x => by
    show sm q (fun a => sv q l (fun _ => c) (up x i a)) = _
    rw [sm_ext (fun a => sv_const q c l _), sm_const, List.length_cons, Int.pow_succ]; grind
def dbl (l : List Nat) (y : Vx) : Vx := fun i => if i ∈ l then 2 * y i else y i
theorem sv_even (q : Nat) : ∀ {l : List Nat}, l.Nodup → ∀ (f : Vx → Int) (x : Vx), sv (2 * q) l (fun y => if ∀ i ∈ l, y i % 2 = 0 then f y else 0) x = sv q l (fun y => f (dbl l y)) x
  | [], _, f, x => by
    show (if ∀ i ∈ [], x i % 2 = 0 then f x else 0) = f (dbl [] x)
    rw [if_pos (fun i h => nomatch h)]; rfl
  | i :: l, nd, f, x => by
    rw [List.nodup_cons] at nd
    show sm (2 * q) (fun a => sv (2 * q) l (fun y => if ∀ j ∈ i :: l, y j % 2 = 0 then f y else 0) (up x i a)) = sm q (fun a => sv q l (fun y => f (dbl (i :: l) y)) (up x i a))
    rw [sm_split]
    have e0 : ∀ a : Int, sv (2 * q) l (fun y => if ∀ j ∈ i :: l, y j % 2 = 0 then f y else 0) (up x i (2 * a)) = sv q l (fun y => f (dbl (i :: l) y)) (up x i a) := fun a => by
      rw [sv_congr (g := fun y => if ∀ j ∈ l, y j % 2 = 0 then f y else 0) (fun y hy => ?_), sv_even q nd.2, sv_base nd.1, sv_base nd.1]
      · refine sv_congr fun y _ => ?_
        congr 1
        funext j
        unfold dbl
        by_cases e : j = i
        · subst e; rw [if_neg nd.1, if_pos List.mem_cons_self, up_same, up_same]
        · by_cases m : j ∈ l
          · rw [if_pos m, if_pos (List.mem_cons_of_mem _ m), up_ne _ _ e, up_ne _ _ e]
          · rw [if_neg m, if_neg (fun z => by rcases List.mem_cons.mp z with z | z; exact e z; exact m z), up_ne _ _ e, up_ne _ _ e]
      · have : y i = 2 * a := by rw [hy i nd.1, up_same]
        by_cases q : ∀ j ∈ l, y j % 2 = 0
        · rw [if_pos q, if_pos (fun j hj => by
            rcases List.mem_cons.mp hj with e | e
            · subst e; rw [this]; omega
            · exact q j e)]
        · rw [if_neg q, if_neg (fun z => q fun j hj => z j (List.mem_cons_of_mem _ hj))]
    have e1 : ∀ a : Int, sv (2 * q) l (fun y => if ∀ j ∈ i :: l, y j % 2 = 0 then f y else 0) (up x i (2 * a + 1)) = 0 := fun a => by
      rw [sv_congr (g := fun _ => 0) (fun y hy => ?_), sv_const, Int.mul_zero]
      have : y i = 2 * a + 1 := by rw [hy i nd.1, up_same]
      rw [if_neg (fun z => by have := z i List.mem_cons_self; omega)]
    rw [sm_ext e0, sm_ext e1, sm_zero, Int.add_zero]
theorem sv_twice (q : Nat) {f : Vx → Int} (hp : Per q f) : ∀ (l : List Nat) (x : Vx), sv (2 * q) l f x = 2 ^ l.length * sv q l f x
  | [], x => by show f x = 1 * f x; omega
  | i :: l, x => by
    rw [List.length_cons]
    show sm (2 * q) (fun a => sv (2 * q) l f (up x i a)) = 2 ^ (l.length + 1) * sm q (fun a => sv q l f (up x i a))
    rw [sm_ext (fun a => sv_twice q hp l _), sm_mul, Nat.two_mul, sm_cat, Int.pow_succ]
    have this : sm q (fun a => sv q l f (up x i (a + q))) = sm q (fun a => sv q l f (up x i a)) := sm_ext fun a => by
      have e : ∀ (l : List Nat) (z : Vx), (∀ y, f (up y i (y i + q)) = f y) → sv q l f (up z i (z i + q)) = sv q l f z := by
        intro l
        induction l with
        | nil => intro z h; exact h z
        | cons j l ih =>
          intro z h
          refine sm_ext fun b => ?_
          by_cases e : i = j
          · subst e; rw [up_up]
          · rw [up_comm z e]
            have := ih (up z j b) h
            rw [up_ne z b e] at this
            exact this
      have := e l (up x i a) (fun y => hp y i)
      rw [up_up, up_same] at this
      exact this
    rw [this]; grind
/-! ### odd lists -/
def od (l : List Nat) (x : Vx) : Int := if ∀ i ∈ l, x i % 2 = 0 then 0 else 1
def oddN (n w : Nat) (M : Mx) : Int := if w = 1 then nz 1 (ns n) M - 1 else nz w (ns n) M - 2 ^ n * (if w = 2 then 1 else nz (w - 2) (ns n) M)
theorem nul_four {w : Nat} (h : 2 ≤ w) (c : Int) : nul w (4 * c) = nul (w - 2) c := by
  unfold nul
  have e := pmod (s := 2) h c
  rw [show (2 : Int) ^ 2 = 4 from rfl] at e
  rw [e]
  by_cases z : c % 2 ^ (w - 2) = 0
  · rw [if_pos z, z]; rfl
  · rw [if_neg z, if_neg (by omega)]
theorem ql_dbl {l : List Nat} {M : Mx} {y : Vx} : ql l M (dbl l y) = 4 * ql l M y := by
  unfold ql
  rw [← sl_mul]
  refine sl_congr fun i hi => ?_
  rw [← sl_mul]
  refine sl_congr fun j hj => ?_
  unfold dbl
  rw [if_pos hi, if_pos hj]; grind
theorem odd_sum {n w : Nat} (h : 1 ≤ w) (M : Mx) : sv (2 ^ w) (ns n) (fun x => nul w (ql (ns n) M x) * od (ns n) x) (fun _ => 0) = oddN n w M := by
  have e1 : sv (2 ^ w) (ns n) (fun x => nul w (ql (ns n) M x) * od (ns n) x) (fun _ => 0) = nz w (ns n) M - sv (2 ^ w) (ns n) (fun x => if ∀ i ∈ ns n, x i % 2 = 0 then nul w (ql (ns n) M x) else 0) (fun _ => 0) := by
    have := sv_add (2 ^ w) (fun x => nul w (ql (ns n) M x) * od (ns n) x) (fun x => if ∀ i ∈ ns n, x i % 2 = 0 then nul w (ql (ns n) M x) else 0) (ns n) (fun _ => 0)
    rw [sv_congr (g := fun x => nul w (ql (ns n) M x)) (fun y _ => by
      unfold od
      split
      · omega
      · omega)] at this
    show _ = sv (2 ^ w) (ns n) (fun x => nul w (ql (ns n) M x)) (fun _ => 0) - _
    omega
  obtain ⟨v, rfl⟩ : ∃ v, w = v + 1 := ⟨w - 1, by omega⟩
  rw [e1, show 2 ^ (v + 1) = 2 * 2 ^ v by rw [Nat.pow_succ, Nat.mul_comm], sv_even (2 ^ v) (ns_nd n)]
  rw [sv_congr (g := fun y => nul (v + 1) (4 * ql (ns n) M y)) (fun y _ => by rw [ql_dbl])]
  unfold oddN
  by_cases h1 : v + 1 = 1
  · have : v = 0 := by omega
    subst this
    rw [if_pos rfl]
    rw [sv_congr (g := fun _ => 1) (fun y _ => by unfold nul; rw [if_pos (by show _ % (2 : Int) ^ 1 = 0; omega)]), sv_const]
    show _ - ((1 : Nat) : Int) ^ _ * 1 = _ - 1
    rw [show ((1 : Nat) : Int) = 1 from rfl, Int.one_pow, Int.mul_one]
  · rw [if_neg h1]
    by_cases h2 : v + 1 = 2
    · have : v = 1 := by omega
      subst this
      rw [if_pos rfl, sv_congr (g := fun _ => 1) (fun y _ => by unfold nul; rw [if_pos (by show _ % (2 : Int) ^ 2 = 0; omega)]), sv_const, List.length_range]
      show _ - ((2 : Nat) : Int) ^ n * 1 = _
      rfl
    · rw [if_neg h2]
      obtain ⟨u, rfl⟩ : ∃ u, v = u + 1 := ⟨v - 1, by omega⟩
      rw [sv_congr (g := fun y => nul u (ql (ns n) M y)) (fun y _ => by rw [nul_four (by omega)]; rfl), show 2 ^ (u + 1) = 2 * 2 ^ u by rw [Nat.pow_succ, Nat.mul_comm], sv_twice (2 ^ u) (by have := per_ql u (ns n) M; rw [← nat_pow] at this; exact this), List.length_range]
      rfl

/-! ### all lists of words -/
def allL (q : Nat) : Nat → List (List Int)
  | 0 => [[]]
  | n + 1 => (allL q n).flatMap fun it => (List.range q).map fun w => it ++ [((w : Nat) : Int)]
theorem sum_flatMap {α β : Type} (f : β → Int) (g : α → List β) : ∀ l : List α, ((l.flatMap g).map f).sum = (l.map fun a => ((g a).map f).sum).sum
  | [] => rfl
  | a :: l => by rw [List.flatMap_cons, List.map_append, List.sum_append_int, sum_flatMap f g l, List.map_cons, List.sum_cons]
theorem sum_range (f : Int → Int) : ∀ q : Nat, ((List.range q).map fun w => f ((w : Nat) : Int)).sum = sm q f
  | 0 => rfl
  | q + 1 => by
    rw [List.range_succ, List.map_append, List.sum_append_int, sum_range f q]
    show _ + (f q + 0) = sm q f + f q
    omega
theorem all_sum (q : Nat) (x : Vx) : ∀ (n : Nat) (g : List Int → Int), ((allL q n).map g).sum = sv q (ns n) (fun y => g ((ns n).map y)) x
  | 0, g => by show g [] + 0 = g []; omega
  | n + 1, g => by
    show (((allL q n).flatMap fun it => (List.range q).map fun w => it ++ [((w : Nat) : Int)]).map g).sum = _
    rw [sum_flatMap]
    have e : ∀ it : List Int, (((List.range q).map fun w => it ++ [((w : Nat) : Int)]).map g).sum = sm q (fun a => g (it ++ [a])) := fun it => by
      rw [List.map_map, ← sum_range]; rfl
    rw [List.map_congr_left (fun it _ => e it), all_sum q x n (fun it => sm q (fun a => g (it ++ [a])))]
    show _ = sv q (List.range (n + 1)) _ x
    rw [List.range_succ, sv_app]
    refine sv_congr fun y _ => ?_
    show _ = sm q (fun a => g ((List.range (n + 1)).map (up y n a)))
    refine sm_ext fun a => ?_
    rw [List.range_succ]
    rw [List.map_append, List.map_cons, List.map_nil, up_same]
    congr 2
    refine List.map_congr_left fun i hi => ?_
    rw [up_ne _ _ (by have := List.mem_range.mp hi; omega)]

/-! ### one unknown more -/
theorem ql_snoc {n : Nat} {M N : Mx} (h0 : ∀ i, i ≤ n → M i n = 0 ∧ M n i = 0) (h : ∀ i j, i < n → j < n → M i j = N i j) (x : Vx) : ql (ns (n + 1)) M x = ql (ns n) N x := by
  have pm : (ns (n + 1)).Perm (n :: ns n) := by
    show (List.range (n + 1)).Perm _
    rw [List.range_succ]; exact List.perm_append_comm
  rw [ql_perm pm, ql_cons, (h0 n (Nat.le_refl n)).1, Int.zero_mul, sl_zero' (fun j hj => by
    have := ns_mem.mp hj
    rw [(h0 j (by omega)).1, (h0 j (by omega)).2]; simp), Int.zero_add, Int.zero_add]
  exact ql_congr (fun _ _ => rfl) fun i hi j hj => h i j (ns_mem.mp hi) (ns_mem.mp hj)
theorem nz_wider {n w : Nat} {M N : Mx} (h0 : ∀ i, i ≤ n → M i n = 0 ∧ M n i = 0) (h : ∀ i j, i < n → j < n → M i j = N i j) : nz w (ns (n + 1)) M = 2 ^ w * nz w (ns n) N := by
  unfold nz
  have e : ns (n + 1) = ns n ++ [n] := List.range_succ
  rw [sv_congr (g := fun x => nul w (ql (ns n) N x)) (fun y _ => by rw [ql_snoc h0 h]), e, sv_app, ← sv_mul]
  refine sv_congr fun y _ => ?_
  show sm (2 ^ w) (fun a => nul w (ql (ns n) N (up y n a))) = _
  rw [sm_ext (g := fun _ => nul w (ql (ns n) N y)) (fun a => ?_), sm_const, nat_pow]
  rw [ql_congr (fun i hi => up_ne y a (by have := ns_mem.mp hi; omega)) (fun _ _ _ _ => rfl)]

/-! ### sizes -/
theorem sm_bound {f : Int → Int} {B : Int} (h : ∀ x, 0 ≤ f x ∧ f x ≤ B) : ∀ q : Nat, 0 ≤ sm q f ∧ sm q f ≤ q * B
  | 0 => ⟨Int.le_refl _, by show (0 : Int) ≤ ((0 : Nat) : Int) * B; simp⟩
  | q + 1 => by
    obtain ⟨a, b⟩ := sm_bound h q
    obtain ⟨c, d⟩ := h q
    refine ⟨by show 0 ≤ sm q f + f q; omega, ?_⟩
    show sm q f + f q ≤ ((q + 1 : Nat) : Int) * B
    rw [Int.natCast_add, Int.add_mul]; simp; omega
theorem sv_bound {f : Vx → Int} (q : Nat) (h : ∀ x, 0 ≤ f x ∧ f x ≤ 1) : ∀ (l : List Nat) (x : Vx), 0 ≤ sv q l f x ∧ sv q l f x ≤ (q : Int) ^ l.length
  | [], x => h x
  | i :: l, x => by
    have := sm_bound (B := (q : Int) ^ l.length) (fun a => sv_bound q h l (up x i a)) q
    refine ⟨this.1, Int.le_trans this.2 ?_⟩
    rw [List.length_cons, Int.pow_succ, Int.mul_comm]; exact Int.le_refl _
theorem nz_bound (w n : Nat) (M : Mx) : 0 ≤ nz w (ns n) M ∧ nz w (ns n) M ≤ 2 ^ (w * n) := by
  have := sv_bound (2 ^ w) (f := fun x => nul w (ql (ns n) M x)) (fun x => by unfold nul; split <;> omega) (ns n) (fun _ => 0)
  rw [nat_pow, List.length_range, ← Int.pow_mul] at this
  exact this
/-- a form that is 0 -/
theorem nz_null {n w : Nat} {M : Mx} (h : ∀ i j, i < n → j < n → M i j = 0) : nz w (ns n) M = 2 ^ (w * n) := by
  unfold nz
  rw [sv_congr (g := fun _ => 1) (fun y _ => by
    rw [ql_zero (fun i hi j hj => h i j (ns_mem.mp hi) (ns_mem.mp hj))]
    unfold nul; simp), sv_const, List.length_range, nat_pow, Int.mul_one, ← Int.pow_mul]

/-! ### moved forms -/
def mvU (p q : Nat) (by' : Int) : Mx := fun a i => if a = p ∧ i = q then by' else dlt a i
theorem mv_cb {n p q : Nat} (hp : p < n) (hq : q < n) (hpq : p ≠ q) {by' : Int} (R : Mx) (i j : Nat) (hi : i < n) (hj : j < n) : cb (ns n) R (mvU p q by') i j = (R i j + (if i = q then by' * R p j else 0)) + (if j = q then by' * (R i p + (if i = q then by' * R p p else 0)) else 0) := by
  have nd := ns_nd n
  have off : ∀ {a i}, a ≠ p ∨ i ≠ q → mvU p q by' a i = dlt a i := fun h => if_neg fun z => by
    rcases h with h | h
    · exact h z.1
    · exact h z.2
  have on : mvU p q by' p q = by' := if_pos ⟨rfl, rfl⟩
  have inner : ∀ b, sl (fun a => mvU p q by' a i * R a b) (ns n) = R i b + (if i = q then by' * R p b else 0) := fun b => by
    by_cases e : i = q
    · subst e
      rw [sl_two nd (ns_mem.mpr hi) (ns_mem.mpr hp) (fun z => hpq z.symm) (fun k _ n1 n2 => by rw [off (.inl n2), dlt_ne n1, Int.zero_mul]), on, off (.inl fun z => hpq z.symm), dlt_self, Int.one_mul, if_pos rfl]
    · rw [col_dlt nd (ns_mem.mpr hi) (fun a _ => off (.inr e)), if_neg e, Int.add_zero]
  unfold cb
  rw [sl_congr (fun b _ => by rw [inner b])]
  by_cases e : j = q
  · subst e
    rw [sl_two nd (ns_mem.mpr hj) (ns_mem.mpr hp) (fun z => hpq z.symm) (fun k _ n1 n2 => by rw [off (.inl n2), dlt_ne n1, Int.mul_zero]), on, off (.inl fun z => hpq z.symm), dlt_self, Int.mul_one, if_pos rfl, Int.mul_comm _ by']
  · rw [sl_one nd (ns_mem.mpr hj) (fun b _ n1 => by rw [off (.inr e), dlt_ne n1, Int.mul_zero]), off (.inr e), dlt_self, Int.mul_one, if_neg e, Int.add_zero]
theorem mv_nz {n p q : Nat} (hp : p < n) (hq : q < n) (hpq : p ≠ q) {by' : Int} (R : Mx) (w : Nat) : nz w (ns n) (cb (ns n) R (mvU p q by')) = nz w (ns n) R :=
  nz_shear (ns_nd n) (ns_mem.mpr hp) (fun a _ h i _ => if_neg fun z => h z.1) (by unfold mvU; rw [if_neg (fun z => hpq z.2), dlt_self])
end Sq
set_option autoImplicit false
set_option linter.all false
set_option maxHeartbeats 1000000
/-! From a width on, every width more multiplies the odd lists by the same power of two. -/
namespace Sq
def Bk.top : Bk → Nat
  | .sq s _ => s
  | .pr s _ _ _ => s + 1
  | .ze => 0
def Bk.full : Bk → Prop
  | .ze => False
  | _ => True
def upP (d : Nat) : Option (Nat × Int) → Option (Nat × Int)
  | some (h, t) => some (h + 2 * d, t)
  | none => none
def valP : Option (Nat × Int) → Int
  | some (h, t) => wholePart h t
  | none => 0
theorem valP_up (d : Nat) (o : Option (Nat × Int)) : valP (upP d o) = 2 ^ d * valP o := by
  cases o with
  | none => show (0 : Int) = _ * 0; rw [Int.mul_zero]
  | some x =>
    obtain ⟨h, t⟩ := x
    show wholePart ((h + 2 * d : Nat) : Int) t = 2 ^ d * wholePart h t
    rw [← whole_more (h : Int) t (by omega) d]; congr 1
theorem sgs_val {w m : Nat} (hm : m ≤ w) (h1 : 1 ≤ m) {bs : List Bk} (ok : ∀ b ∈ bs, b.ok) : sgs w m bs = valP (bparts w m bs) := by
  have z := cnt_parts hm h1 (dl_an m) bs ok 0
  unfold sgs
  rw [z]
  cases bparts w m bs with
  | none => rfl
  | some x =>
    obtain ⟨h, t⟩ := x
    show vl m (dl m) h t (8 * 0) = wholePart h t
    rw [Int.mul_zero, ← whole_vl m h (t := t) (t' := t) (by omega)]
theorem dims_cons (b : Bk) (bs : List Bk) : dims (b :: bs) = b.dim + dims bs := by unfold dims; rw [List.map_cons, List.sum_cons]
theorem bparts_cons (w m : Nat) (b : Bk) (bs : List Bk) : bparts w m (b :: bs) = match bpart w m b, bparts w m bs with
    | some (h, t), some (h', t') => some (h' + h, t' + t)
    | _, _ => none := rfl
theorem bparts_up {w m w' m' : Nat} : ∀ {bs : List Bk}, (∀ b ∈ bs, bpart w' m' b = upP b.dim (bpart w m b)) → bparts w' m' bs = upP (dims bs) (bparts w m bs)
  | [], _ => rfl
  | b :: bs, h => by
    rw [bparts_cons, bparts_cons, h b List.mem_cons_self, bparts_up (fun c hc => h c (List.mem_cons_of_mem _ hc)), dims_cons]
    cases bpart w m b with
    | none => rfl
    | some x =>
      obtain ⟨h1, t1⟩ := x
      cases bparts w m bs with
      | none => rfl
      | some y =>
        obtain ⟨h2, t2⟩ := y
        show some (h2 + 2 * dims bs + (h1 + 2 * b.dim), t2 + t1) = some (h2 + h1 + 2 * (b.dim + dims bs), t2 + t1)
        congr 2; omega
theorem bpart_sq (w m s : Nat) (u : Int) : bpart w m (.sq s u) = if m ≤ s then some (2 * w, 0) else if m = s + 1 then none else some (2 * w - (m - s) + 1, if (m - s) % 2 = 1 then u else 2 - u % 4) := rfl
theorem bpart_w {w m : Nat} (hm : m ≤ w) (b : Bk) : bpart (w + 1) m b = upP b.dim (bpart w m b) := by
  cases b with
  | sq s u =>
    rw [bpart_sq, bpart_sq]
    by_cases h1 : m ≤ s
    · rw [if_pos h1, if_pos h1]; rfl
    · by_cases h2 : m = s + 1
      · rw [if_neg h1, if_pos h2, if_neg h1, if_pos h2]; rfl
      · rw [if_neg h1, if_neg h2, if_neg h1, if_neg h2]
        show some _ = some (_ + 2 * 1, _)
        congr 2; omega
  | pr s a b d =>
    show some (4 * (w + 1) - 2 * (m - (s + 1)), _) = some (4 * w - 2 * (m - (s + 1)) + 2 * 2, _)
    congr 2; omega
  | ze => rfl
theorem bpart_two {m : Nat} (b : Bk) (hf : b.full) (ht : b.top + 2 ≤ m) : bpart (m + 2) (m + 2) b = upP b.dim (bpart m m b) := by
  cases b with
  | sq s u =>
    have ht : s + 2 ≤ m := ht
    rw [bpart_sq, bpart_sq]
    rw [if_neg (show ¬ m + 2 ≤ s by omega), if_neg (show ¬ m + 2 = s + 1 by omega), if_neg (show ¬ m ≤ s by omega), if_neg (show ¬ m = s + 1 by omega)]
    show some (_, _) = some (_ + 2 * 1, _)
    rw [show (m + 2 - s) % 2 = (m - s) % 2 by omega]
    congr 2; omega
  | pr s a b d =>
    have ht : s + 1 + 2 ≤ m := ht
    show some (4 * (m + 2) - 2 * (m + 2 - (s + 1)), if (m + 2 - (s + 1)) % 2 = 1 ∧ a % 2 = 1 ∧ d % 2 = 1 then 4 else 0) = some (4 * m - 2 * (m - (s + 1)) + 2 * 2, if (m - (s + 1)) % 2 = 1 ∧ a % 2 = 1 ∧ d % 2 = 1 then 4 else 0)
    rw [show (m + 2 - (s + 1)) % 2 = (m - (s + 1)) % 2 by omega]
    congr 2; omega
  | ze => exact hf.elim
theorem sumTo_mul (c : Int) (f g : Nat → Int) : ∀ k, (∀ m, m < k → f m = c * g m) → sumTo f k = c * sumTo g k
  | 0, _ => by show (0 : Int) = c * 0; rw [Int.mul_zero]
  | k + 1, h => by
    show sumTo f k + f k = c * (sumTo g k + g k)
    rw [sumTo_mul c f g k fun m hm => h m (by omega), h k (by omega), Int.mul_add]
theorem sumA {w : Nat} {bs : List Bk} (ok : ∀ b ∈ bs, b.ok) : 2 ^ (w + 1) * noughts (w + 1) bs = 2 ^ dims bs * (2 ^ w * noughts w bs) + 2 ^ w * sgs (w + 1) (w + 1) bs := by
  rw [noughts_sum, noughts_sum, Int.mul_add, ← Int.pow_add, show (w + 1) * dims bs = dims bs + w * dims bs by rw [Nat.add_mul]; omega]
  show _ + (sumTo _ w + 2 ^ w * sgs (w + 1) (w + 1) bs) = _
  rw [sumTo_mul (2 ^ dims bs) (fun m => 2 ^ m * sgs (w + 1) (m + 1) bs) (fun m => 2 ^ m * sgs w (m + 1) bs) w fun m hm => ?_]
  · omega
  · show _ * _ = _ * (_ * _)
    rw [sgs_val (by omega) (by omega) ok, sgs_val (by omega) (by omega) ok, bparts_up (fun b _ => bpart_w (by omega) b), valP_up, Int.mul_left_comm]
theorem hensel {bs : List Bk} (ok : ∀ b ∈ bs, b.ok) (full : ∀ b ∈ bs, b.full) {t w : Nat} (top : ∀ b ∈ bs, b.top ≤ t) (hw : t + 3 ≤ w) (h1 : 1 ≤ dims bs) :
    noughts (w + 1) bs - 2 ^ dims bs * noughts (w - 1) bs = 2 ^ (dims bs - 1) * (noughts w bs - 2 ^ dims bs * noughts (w - 2) bs) := by
  obtain ⟨v, rfl⟩ : ∃ v, w = v + 2 := ⟨w - 2, by omega⟩
  have a1 := sumA (w := v + 2) ok
  have a2 := sumA (w := v) ok
  have e : sgs (v + 1 + 2) (v + 1 + 2) bs = 2 ^ dims bs * sgs (v + 1) (v + 1) bs := by
    rw [sgs_val (Nat.le_refl _) (by omega) ok, sgs_val (Nat.le_refl _) (by omega) ok, bparts_up (fun b hb => bpart_two b (full b hb) (by have := top b hb; omega)), valP_up]
  rw [show v + 2 + 1 = v + 1 + 2 by omega] at a1
  rw [e] at a1
  rw [show v + 2 + 1 = v + 1 + 2 by omega, show v + 2 - 1 = v + 1 by omega, show v + 2 - 2 = v by omega]
  obtain ⟨d, hd⟩ : ∃ d, dims bs = d + 1 := ⟨dims bs - 1, by omega⟩
  rw [hd] at a1 a2 ⊢
  rw [Nat.add_sub_cancel]
  have p2 : (2 : Int) ^ (v + 2) = 2 * (2 * 2 ^ v) := by rw [pw1, pw1]
  rw [show v + 1 + 2 = v + 3 by omega] at a1 ⊢
  rw [show (2 : Int) ^ (v + 3) = 2 * (2 * (2 * 2 ^ v)) by rw [pw1, pw1, pw1], p2, pw1 d] at a1
  rw [pw1 v, pw1 d] at a2
  rw [pw1 d]
  have hv := pos2 v
  apply Int.eq_of_mul_eq_mul_left (show (2 * (2 * (2 * 2 ^ v)) : Int) ≠ 0 by omega)
  generalize (2 : Int) ^ v = S at a1 a2 ⊢
  generalize (2 : Int) ^ d = D at a1 a2 ⊢
  generalize noughts (v + 3) bs = n3 at a1 a2 ⊢
  generalize noughts (v + 2) bs = n2 at a1 a2 ⊢
  generalize noughts (v + 1) bs = n1 at a1 a2 ⊢
  generalize noughts v bs = n0 at a1 a2 ⊢
  generalize sgs (v + 1) (v + 1) bs = g at a1 a2 ⊢
  have : 2 * (2 * (2 * S)) * (n3 - 2 * D * n1) = 2 * (2 * (2 * S)) * n3 - 8 * D * (2 * S * n1) := by clear a1 a2; grind
  rw [this, a1, a2]
  clear a1 a2 this; grind

/-! ### forms of blocks that stand -/
inductive BkX (n : Nat) (M : Mx) (t : Nat) : (Nat × Int) × List Nat → Prop
  | sq {s p : Nat} {k : Int} : p < n → (∀ j, j < n → j ≠ p → M p j = 0) → M p p = 2 ^ s * k → k % 2 = 1 → 0 < k → k < 8 → s ≤ 4 → s ≤ t → BkX n M t ((s, k), [p])
  | pr {s p q : Nat} {k : Int} : p < n → q < n → p ≠ q → (∀ j, j < n → j ≠ p → j ≠ q → M p j = 0 ∧ M q j = 0) → (k = 0 ∨ k = 2) → M p q = 2 ^ s → M p p = 2 ^ s * k → M q q = 2 ^ s * k → s ≤ 4 → s + 1 ≤ t → BkX n M t ((s, k), [p, q])
theorem BkX.ok {n : Nat} {M : Mx} {t : Nat} {it : (Nat × Int) × List Nat} (h : BkX n M t it) (w : Nat) : BkOk w n M it := by
  cases h with
  | sq a b c d _ _ _ _ => exact .sq a b c ⟨rfl, d, d, fun _ => rfl, fun _ => rfl⟩
  | pr a b c d e f g i _ _ => exact .pr a b c d e f g i
theorem BkX.bk {n : Nat} {M : Mx} {t : Nat} {it : (Nat × Int) × List Nat} (h : BkX n M t it) : (bkx M it).ok ∧ (bkx M it).full ∧ (bkx M it).top ≤ t := by
  cases h with
  | sq a b c d _ _ _ f => exact ⟨by show (_ / _) % 2 = 1; rw [c, pdiv]; exact d, trivial, f⟩
  | pr a b c d e f g i _ j => exact ⟨rfl, trivial, j⟩
structure Blocks (n : Nat) (M : Mx) (t : Nat) (fd : List ((Nat × Int) × List Nat)) : Prop where
  sy : ∀ i j, i < n → j < n → M i j = M j i
  pm : (fd.flatMap (·.2)).Perm (ns n)
  bk : ∀ it ∈ fd, BkX n M t it
theorem Blocks.nz {n : Nat} {M : Mx} {t : Nat} {fd : List ((Nat × Int) × List Nat)} (h : Blocks n M t fd) (w : Nat) : nz w (ns n) M = noughts w (fd.map (bkx M)) ∧ dims (fd.map (bkx M)) = n := by
  have pm : (fd.flatMap (fun it => it.2) ++ ([] : List Nat)).Perm (ns n) := by rw [List.append_nil]; exact h.pm
  have bo : ∀ it ∈ fd, BkOk w n M it := fun it hit => (h.bk it hit).ok w
  obtain ⟨bs, eb, m, k⟩ := blocks_nz (w := w) h.sy (left := []) (fun _ h => nomatch h) fd (pm.nodup_iff.mpr (ns_nd n)) (fun i hi => ns_mem.mp (pm.mem_iff.mp hi)) bo
  subst eb
  constructor
  · unfold noughts Sq.nz
    have := k 0 (fun _ => 0)
    rw [show fd.map (bkx M) ++ zes ([] : List Nat).length = fd.map (bkx M) from List.append_nil _] at this
    rw [← this, sv_perm pm]
    refine sv_congr fun y _ => ?_
    rw [ql_perm pm, Int.zero_add]
  · have e1 := m.dims
    have e2 := fd_size bo
    have e3 := h.pm.length_eq
    rw [List.length_range] at e3
    omega
theorem Blocks.hensel {n : Nat} {M : Mx} {t : Nat} {fd : List ((Nat × Int) × List Nat)} (h : Blocks n M t fd) (h1 : 1 ≤ n) {w : Nat} (hw : t + 3 ≤ w) : oddN n (w + 1) M = 2 ^ (n - 1) * oddN n w M := by
  have bb : ∀ b ∈ fd.map (bkx M), b.ok ∧ b.full ∧ b.top ≤ t := fun b hb => by
    obtain ⟨it, hit, rfl⟩ := List.mem_map.mp hb
    exact BkX.bk (h.bk it hit)
  have z := Sq.hensel (bs := fd.map (bkx M)) (fun b hb => (bb b hb).1) (fun b hb => (bb b hb).2.1) (fun b hb => (bb b hb).2.2) hw (by rw [(h.nz 0).2]; exact h1)
  rw [(h.nz 0).2, ← (h.nz _).1, ← (h.nz _).1, ← (h.nz _).1, ← (h.nz _).1] at z
  unfold oddN
  rw [if_neg (by omega), if_neg (by omega), if_neg (by omega), if_neg (by omega), show w + 1 - 2 = w - 1 by omega]
  exact z
theorem Blocks.plain {n : Nat} {M : Mx} {t : Nat} {fd : List ((Nat × Int) × List Nat)} (h : Blocks n M t fd) : Plain n M := fun i hi => by
  obtain ⟨it, hit, hm⟩ := List.mem_flatMap.mp (h.pm.mem_iff.mpr (ns_mem.mpr hi))
  have b := h.bk it hit
  cases b with
  | sq a b c d e f g _ =>
    rw [List.mem_singleton] at hm
    subst hm
    exact .one g d e f c b
  | pr a b c d e f g i' j _ =>
    rcases List.mem_cons.mp hm with z | z
    · subst z
      exact .two b (fun z => c z.symm) j e f g i' d
    · rw [List.mem_singleton] at z
      subst z
      exact .two a c j e (by rw [h.sy _ _ b a]; exact f) i' g fun j hj n1 n2 => ⟨(d j hj n2 n1).2, (d j hj n2 n1).1⟩
theorem Plain.wider {n : Nat} {M N : Mx} (p : Plain n N) (h0 : ∀ i, i ≤ n → M i n = 0 ∧ M n i = 0) (h : ∀ i j, i < n → j < n → M i j = N i j) : Plain (n + 1) M := fun i hi => by
  by_cases e : i = n
  · subst e; exact .ze fun j hj => (h0 j (by omega)).2
  · have hi : i < n := by omega
    cases p i hi with
    | ze a =>
      refine .ze fun j hj => ?_
      by_cases q : j = n
      · subst q; exact (h0 i (by omega)).1
      · rw [h i j hi (by omega)]; exact a j (by omega)
    | one a b c d f g => exact .one a b c d (by rw [h i i hi hi]; exact f) (fun j hj nq => by
        by_cases q : j = n
        · subst q; exact (h0 i (by omega)).1
        · rw [h i j hi (by omega)]; exact g j (by omega) nq)
    | @two q s k a b c d f g k2 m => exact .two (q := q) (by omega) b c d (by rw [h i q hi a]; exact f) (by rw [h i i hi hi]; exact g) (by rw [h q q a a]; exact k2) (fun j hj n1 n2 => by
        by_cases z : j = n
        · subst z; exact ⟨(h0 i (by omega)).1, (h0 q (by omega)).1⟩
        · rw [h i j hi (by omega), h q j a (by omega)]; exact m j (by omega) n1 n2)
/-- one idle unknown more -/
theorem odd_wider {n w : Nat} (hw : 3 ≤ w) {M N : Mx} (h0 : ∀ i, i ≤ n → M i n = 0 ∧ M n i = 0) (h : ∀ i j, i < n → j < n → M i j = N i j) : oddN (n + 1) w M = 2 ^ w * oddN n w N + 2 ^ (w - 1) * (nz w (ns n) N - oddN n w N) := by
  unfold oddN
  rw [if_neg (by omega), if_neg (by omega), if_neg (by omega), if_neg (by omega), nz_wider h0 h, nz_wider h0 h]
  obtain ⟨v, rfl⟩ : ∃ v, w = v + 2 := ⟨w - 2, by omega⟩
  rw [show v + 2 - 2 = v by omega, show v + 2 - 1 = v + 1 by omega, pw1 (v + 1), pw1 v, pw1 n]
  generalize nz (v + 2) (ns n) N = A
  generalize nz v (ns n) N = B
  generalize (2 : Int) ^ v = S
  generalize (2 : Int) ^ n = T
  grind
end Sq
set_option Elab.async false
set_option linter.all false
set_option maxRecDepth 100000
set_option maxHeartbeats 4000000
set_option autoImplicit false
/-! A Hoare logic over data: what stands in the frozen part F of the heap, one list or matrix of one's own, one generator, one object. -/
namespace WS
open PySem PySem.Spec PyProof.Rows L2

/-! ### data that stands -/
mutual
inductive Rp (F : Hp) : V → PyData → Prop
  | non : Rp F .non .none
  | bl (b : Bool) : Rp F (.bl b) (.bool b)
  | int (i : Int) : Rp F (.int i) (.int i)
  | str (x : Str) : Rp F (.str x) (.str x)
  | lst {a : Addr} {xs : List V} {ds : List PyData} : F a = some (.lst xs) → Rps F xs ds → Rp F (.ref a) (.list ds)
  | tup {a : Addr} {xs : List V} {ds : List PyData} : F a = some (.tup xs) → Rps F xs ds → Rp F (.ref a) (.tuple ds)
inductive Rps (F : Hp) : List V → List PyData → Prop
  | nil : Rps F [] []
  | cons {v : V} {vs : List V} {d : PyData} {ds : List PyData} : Rp F v d → Rps F vs ds → Rps F (v :: vs) (d :: ds)
end
mutual
theorem Rp.mono {F F' : Hp} (e : Same F F') : ∀ (d : PyData) (v : V), Rp F v d → Rp F' v d
  | .none, _, h => by cases h; exact .non
  | .bool b, _, h => by cases h; exact .bl b
  | .int i, _, h => by cases h; exact .int i
  | .str x, _, h => by cases h; exact .str x
  | .list ds, _, h => by
    cases h with
    | lst ha hr => exact .lst (e _ _ ha) (Rps.mono e ds _ hr)
  | .tuple ds, _, h => by
    cases h with
    | tup ha hr => exact .tup (e _ _ ha) (Rps.mono e ds _ hr)
  | .dict _, _, h => by cases h
theorem Rps.mono {F F' : Hp} (e : Same F F') : ∀ (ds : List PyData) (vs : List V), Rps F vs ds → Rps F' vs ds
  | [], _, h => by cases h; exact .nil
  | d :: ds, _, h => by
    cases h with
    | cons h1 h2 => exact .cons (Rp.mono e d _ h1) (Rps.mono e ds _ h2)
end
theorem Rp.up {F F' : Hp} {d : PyData} {v : V} (h : Rp F v d) (e : Same F F') : Rp F' v d := Rp.mono e d v h
theorem Rps.up {F F' : Hp} {d : List PyData} {v : List V} (h : Rps F v d) (e : Same F F') : Rps F' v d := Rps.mono e d v h
mutual
theorem Rp.dpm {K : PySem.W.Frag} {F : Hp} : ∀ (d : PyData) (v : V), Rp F v d → Dp K F v d
  | .none, _, h => by cases h; exact .non
  | .bool b, _, h => by cases h; exact .bl b
  | .int i, _, h => by cases h; exact .int i
  | .str x, _, h => by cases h; exact .str x
  | .list ds, _, h => by
    cases h with
    | lst ha hr => exact .lst (SqL.of ha) (Rps.dpm ds _ hr)
  | .tuple ds, _, h => by
    cases h with
    | tup ha hr => exact .tup (SqT.of ha) (Rps.dpm ds _ hr)
  | .dict _, _, h => by cases h
theorem Rps.dpm {K : PySem.W.Frag} {F : Hp} : ∀ (ds : List PyData) (vs : List V), Rps F vs ds → DpAll K F vs ds
  | [], _, h => by cases h; exact .nil
  | d :: ds, _, h => by
    cases h with
    | cons h1 h2 => exact .cons (Rp.dpm d _ h1) (Rps.dpm ds _ h2)
end
theorem Rp.dp {K : PySem.W.Frag} {F : Hp} {d : PyData} {v : V} (h : Rp F v d) : Dp K F v d := Rp.dpm d v h
theorem Rps.dp {K : PySem.W.Frag} {F : Hp} {d : List PyData} {v : List V} (h : Rps F v d) : DpAll K F v d := Rps.dpm d v h
theorem Rps.len {F : Hp} : ∀ {vs : List V} {ds : List PyData}, Rps F vs ds → vs.length = ds.length
  | [], [], _ => rfl
  | _ :: _, _ :: _, h => by
    cases h with
    | cons h1 h2 => simp [Rps.len h2]
  | [], _ :: _, h => by cases h
  | _ :: _, [], h => by cases h
theorem Rps.get {F : Hp} : ∀ {vs : List V} {ds : List PyData} {i : Nat} {d : PyData}, Rps F vs ds → ds[i]? = some d → ∃ v, vs[i]? = some v ∧ Rp F v d
  | _, _, _, _, .nil, e => by simp at e
  | _, _, 0, _, .cons r _, e => by simp at e; subst e; exact ⟨_, rfl, r⟩
  | _, _, i + 1, d, .cons _ t, e => by
    obtain ⟨v, h1, h2⟩ := Rps.get (i := i) (d := d) t (by simpa using e)
    exact ⟨v, by simpa using h1, h2⟩
theorem Rps.getV {F : Hp} : ∀ {vs : List V} {ds : List PyData} {i : Nat} {v : V}, Rps F vs ds → vs[i]? = some v → ∃ d, ds[i]? = some d ∧ Rp F v d
  | _, _, _, _, .nil, e => by simp at e
  | _, _, 0, _, .cons r _, e => by simp at e; subst e; exact ⟨_, rfl, r⟩
  | _, _, i + 1, d, .cons _ t, e => by
    obtain ⟨v, h1, h2⟩ := Rps.getV (i := i) (v := d) t (by simpa using e)
    exact ⟨v, by simpa using h1, h2⟩
theorem Rps.app {F : Hp} : ∀ {vs ws : List V} {ds es : List PyData}, Rps F vs ds → Rps F ws es → Rps F (vs ++ ws) (ds ++ es)
  | _, _, _, _, .nil, s => s
  | _, _, _, _, .cons r t, s => .cons r (Rps.app t s)
theorem Rps.snoc {F : Hp} {vs : List V} {ds : List PyData} {v : V} {d : PyData} (h : Rps F vs ds) (r : Rp F v d) : Rps F (vs ++ [v]) (ds ++ [d]) := h.app (.cons r .nil)
theorem Rps.setAt {F : Hp} {v : V} {d : PyData} (r : Rp F v d) : ∀ {vs : List V} {ds : List PyData} (i : Nat), Rps F vs ds → Rps F (vs.set i v) (ds.set i d)
  | _, _, _, .nil => .nil
  | _, _, 0, .cons _ t => .cons r t
  | _, _, i + 1, .cons q t => .cons q (Rps.setAt r i t)
theorem Rps.ints {F : Hp} : ∀ {vs : List V} {ns : List Int}, Rps F vs (ns.map PyData.int) → vs = ns.map V.int
  | [], [], _ => rfl
  | v :: vs, n :: ns, h => by
    cases h with
    | cons h1 h2 => cases h1; simp [Rps.ints h2]
  | [], _ :: _, h => by cases h
  | _ :: _, [], h => by cases h
theorem Rps.of_ints {F : Hp} : ∀ {ns : List Int}, Rps F (ns.map V.int) (ns.map PyData.int)
  | [] => .nil
  | n :: ns => .cons (.int n) Rps.of_ints

/-! ### the state -/
/-- a name's place: nothing, data, the generator, the object, the script, the thing of one's own -/
inductive Ent where
  | un | dat (d : PyData) | gen | slf | scr (ns : List Int) | own
/-- what is of one's own: nothing, a list, a matrix -/
inductive Own where
  | no | lst (a : Addr) (ds : List PyData) | mat (a : Addr) (rs : List Addr) (m : List (List PyData))
structure En where
  sl : List Ent
  ow : Own := .no
  fs : List (Str × PyData) := []
  fo : List PyData := []
  ct : Nat := 0
def En.set (en : En) (i : Nat) (e : Ent) : En := { en with sl := en.sl.set i e }
structure Ob where
  C : Addr
  dx : Addr
  p : Addr
  l : Option Addr
structure Bs where
  F0 : Hp
  H0 : Hp
  g : Option Addr
  o : Option Ob
/-- the generator's list, its last number at most n -/
def Gen (n : Nat) (H : Hp) (g : Addr) : Prop := ∃ a b c : Int, H g = some (.lst [.int a, .int b, .int c]) ∧ 0 ≤ a ∧ a.natAbs < 2 ^ 2000 ∧ b.natAbs < 2 ^ 40 ∧ 0 ≤ c ∧ c ≤ (n : Int)
structure Grow (g : Option Addr) (F H F' H' : Hp) : Prop where
  f : Same F F'
  fh : Same F' H'
  h : ∀ a o, H a = some o → H' a = some o
  fr : ∀ a o, H a = some o → F' a = F a
def Bs.M (b : Bs) (a : Addr) : Prop := b.g = some a ∨ ∃ o, b.o = some o ∧ (a = o.p ∨ o.l = some a)
structure BOk (b : Bs) : Prop where
  g1 : ∀ g, b.g = some g → b.F0 g = none ∧ ∃ o, b.H0 g = some o
  o1 : ∀ o, b.o = some o → b.F0 o.p = none ∧ (∃ u, b.H0 o.p = some u) ∧ ∀ l, o.l = some l → b.F0 l = none ∧ (∃ u, b.H0 l = some u) ∧ o.p ≠ l
  x1 : b.g = none ∨ b.o = none
/-- the object: its fields, its list -/
def ObR (o : Ob) (en : En) (F H : Hp) : Prop := ∃ vs, H o.p = some (.ins o.C o.dx vs) ∧ (vs.length ≤ en.fs.length + 1 ∧ (o.l = none → vs.length ≤ en.fs.length)) ∧ (∀ f d, en.fs.lookup f = some d → ∃ v, vs.lookup f = some v ∧ Rp F v d) ∧
  (∀ f : Str, en.fs.lookup f = none → f ≠ ("found" : Str) → vs.lookup f = none) ∧ ∀ l, o.l = some l → vs.lookup ("found" : Str) = some (.ref l) ∧ ∃ xs, H l = some (.lst xs) ∧ Rps F xs en.fo
theorem ObR.keep {o : Ob} {en en' : En} {F H F' H' : Hp} (h : ObR o en F H) (s : Same F F') (e1 : ∀ u, H o.p = some u → H' o.p = some u) (e2 : ∀ l u, o.l = some l → H l = some u → H' l = some u) (f1 : en'.fs = en.fs := by rfl) (f2 : en'.fo = en.fo := by rfl) : ObR o en' F' H' := by
  obtain ⟨vs, q, q0, q2, qn, q3⟩ := h
  refine ⟨vs, e1 _ q, by rw [f1]; exact q0, fun f d hf => ?_, fun f hf => qn f (by rw [← f1]; exact hf), fun l hl => ?_⟩
  · rw [f1] at hf
    obtain ⟨v, z1, z2⟩ := q2 f d hf
    exact ⟨v, z1, z2.up s⟩
  · obtain ⟨z1, xs, z2, z3⟩ := q3 l hl
    exact ⟨z1, xs, e2 l _ hl z2, by rw [f2]; exact z3.up s⟩
theorem ObR.mem {o : Ob} {en : En} {F H : Hp} (h : ObR o en F H) {a : Addr} (z : a = o.p ∨ o.l = some a) : ∃ u, H a = some u := by
  obtain ⟨vs, q, _, _, _, q3⟩ := h
  rcases z with z | z
  · subst z; exact ⟨_, q⟩
  · obtain ⟨_, xs, z2, _⟩ := q3 a z
    exact ⟨_, z2⟩
def EntR (K : PySem.W.Frag) (b : Bs) (ow : Own) (F : Hp) (s : Option (Option V)) : Ent → Prop
  | .un => True
  | .dat d => ∃ v, s = some (some v) ∧ Rp F v d
  | .gen => ∃ g, b.g = some g ∧ s = some (some (.ref g))
  | .slf => ∃ o, b.o = some o ∧ s = some (some (.ref o.p))
  | .scr ns => ∃ a, s = some (some (.ref a)) ∧ SqL K b.H0 a (ns.map V.int) ∧ ¬ b.M a
  | .own => match ow with
    | .no => False
    | .lst a _ => s = some (some (.ref a))
    | .mat a _ _ => s = some (some (.ref a))
def OwR (b : Bs) (F H : Hp) : Own → Prop
  | .no => True
  | .lst a ds => b.H0 a = none ∧ F a = none ∧ ∃ xs, H a = some (.lst xs) ∧ Rps F xs ds
  | .mat a rs m => b.H0 a = none ∧ F a = none ∧ H a = some (.lst (rs.map V.ref)) ∧ rs.Nodup ∧ a ∉ rs ∧ rs.length = m.length ∧
      ∀ (j : Nat) (r : Addr) (row : List PyData), rs[j]? = some r → m[j]? = some row → b.H0 r = none ∧ F r = none ∧ ∃ xs, H r = some (.lst xs) ∧ Rps F xs row
structure Rel (K : PySem.W.Frag) (b : Bs) (en : En) (σ : L2.St) (F H : Hp) : Prop where
  bo : BOk b
  ff : Same b.F0 F
  fh : Same F H
  hh : ∀ a o, b.H0 a = some o → ¬ b.M a → H a = some o
  fr : ∀ a o, b.H0 a = some o → F a = b.F0 a
  gn : ∀ g, b.g = some g → Gen en.ct H g
  ob : ∀ o, b.o = some o → ObR o en F H
  ln : en.sl.length = σ.length
  sl : ∀ (i : Nat) (e : Ent), en.sl[i]? = some e → EntR K b en.ow F (σ[i]?) e
  ow : OwR b F H en.ow

section
variable {K : PySem.W.Frag} {b : Bs} {en : En} {σ : L2.St} {F H F' H' : Hp} {g : Option Addr}
theorem Grow.refl (e : Same F H) : Grow g F H F H := ⟨Same.refl F, e, fun _ _ h => h, fun _ _ _ => rfl⟩
theorem Grow.trans {F2 H2 : Hp} (a : Grow g F H F' H') (c : Grow g F' H' F2 H2) : Grow g F H F2 H2 :=
  ⟨a.f.trans c.f, c.fh, fun x o h => c.h x o (a.h x o h), fun x o h => (c.fr x o (a.h x o h)).trans (a.fr x o h)⟩
theorem Grow.alloc {p : Addr} {o : HO} (e : Same F H) (hp : H p = none) : Grow g F H (upd F p o) (upd H p o) := by
  have fp : F p = none := by
    cases q : F p with
    | none => rfl
    | some u => rw [e p u q] at hp; cases hp
  refine ⟨fun a u h => ?_, fun a u h => ?_, fun a u h => ?_, fun a u h => ?_⟩
  · rw [upd_ne (ne_of_none h fp)]; exact h
  · by_cases q : a = p
    · subst q; rw [upd_same] at h ⊢; exact h
    · rw [upd_ne q] at h ⊢; exact e a u h
  · rw [upd_ne (ne_of_none h hp)]; exact h
  · rw [upd_ne (ne_of_none h hp)]
theorem Rel.gnm (R : Rel K b en σ F H) {g : Addr} (h : b.g = some g) : b.M g := .inl h
theorem Rel.own_ne (R : Rel K b en σ F H) {a : Addr} (h : b.H0 a = none) : ¬ b.M a := by
  rintro (e | ⟨o, e, z⟩)
  · obtain ⟨_, u, q⟩ := R.bo.g1 a e; rw [h] at q; cases q
  · obtain ⟨_, ⟨u, q⟩, k⟩ := R.bo.o1 o e
    rcases z with z | z
    · rw [z, q] at h; cases h
    · obtain ⟨_, ⟨u', q'⟩, _⟩ := k a z
      rw [q'] at h; cases h
theorem Rel.grow (R : Rel K b en σ F H) (G : Grow b.g F H F' H') : Rel K b en σ F' H' := by
  refine ⟨R.bo, R.ff.trans G.f, G.fh, fun a o h n => G.h a o (R.hh a o h n), fun a o h => ?_, fun g hg => by
    obtain ⟨x, y, z, q, r⟩ := R.gn g hg
    exact ⟨x, y, z, G.h _ _ q, r⟩, fun o ho => ?_, R.ln, fun i e h => ?_, ?_⟩
  · by_cases n : b.M a
    · rcases n with n | ⟨o', e, z⟩
      · obtain ⟨x, y, z, q, _⟩ := R.gn a n
        exact (G.fr a _ q).trans (R.fr a o h)
      · obtain ⟨u, q⟩ := (R.ob o' e).mem z
        exact (G.fr _ _ q).trans (R.fr _ o h)
    · exact (G.fr a o (R.hh a o h n)).trans (R.fr a o h)
  · exact (R.ob o ho).keep G.f (fun u q => G.h _ _ q) (fun l u _ q => G.h _ _ q)
  · have q := R.sl i e h
    cases e with
    | dat d => obtain ⟨v, e1, e2⟩ := q; exact ⟨v, e1, e2.up G.f⟩
    | _ => exact q
  · have q := R.ow
    cases hw : en.ow with
    | no => trivial
    | lst a ds =>
      rw [hw] at q
      obtain ⟨q1, q2, xs, q3, q4⟩ := q
      exact ⟨q1, (G.fr a _ q3).trans q2, xs, G.h _ _ q3, q4.up G.f⟩
    | mat a rs m =>
      rw [hw] at q
      obtain ⟨q1, q2, q3, q4, q5, q6, q7⟩ := q
      refine ⟨q1, (G.fr a _ q3).trans q2, G.h _ _ q3, q4, q5, q6, fun j r row h1 h2 => ?_⟩
      obtain ⟨z1, z2, xs, z3, z4⟩ := q7 j r row h1 h2
      exact ⟨z1, (G.fr r _ z3).trans z2, xs, G.h _ _ z3, z4.up G.f⟩
/-- new list or tuple -/
theorem Rel.alloc (R : Rel K b en σ F H) {p : Addr} {o : HO} (hp : H p = none) : Rel K b en σ (upd F p o) (upd H p o) := R.grow (Grow.alloc R.fh hp)
theorem Rel.fnone (R : Rel K b en σ F H) {p : Addr} (hp : H p = none) : F p = none := by
  cases q : F p with
  | none => rfl
  | some u => rw [R.fh p u q] at hp; cases hp
theorem Rel.same_alloc (R : Rel K b en σ F H) {p : Addr} {o : HO} (hp : H p = none) : Same F (upd F p o) := fun a u h => by
  rw [upd_ne (ne_of_none h (R.fnone hp))]; exact h
theorem Rel.gid (R : Rel K b en σ F H) : Grow b.g F H F H := Grow.refl R.fh
theorem Rel.galloc (R : Rel K b en σ F H) {p : Addr} {o : HO} (hp : H p = none) : Grow b.g F H (upd F p o) (upd H p o) := Grow.alloc R.fh hp
/-- an object that is younger is changed -/
theorem Grow.mut {p : Addr} {o : HO} (G : Grow g F H F' H') (hp : H p = none) (fp : F' p = none) : Grow g F H F' (upd H' p o) :=
  ⟨G.f, fun a u h => by rw [upd_ne (ne_of_none h fp)]; exact G.fh a u h, fun a u h => by rw [upd_ne (ne_of_none h hp)]; exact G.h a u h, G.fr⟩
/-- .. is data from now on -/
theorem Grow.frz {p : Addr} {o : HO} (G : Grow g F H F' H') (hp : H p = none) (fp : F' p = none) (e : H' p = some o) : Grow g F H (upd F' p o) H' :=
  ⟨fun a u h => by rw [upd_ne (ne_of_none (G.f a u h) fp)]; exact G.f a u h, fun a u h => by
    by_cases q : a = p
    · subst q; rw [upd_same] at h; cases h; exact e
    · rw [upd_ne q] at h; exact G.fh a u h, G.h, fun a u h => by rw [upd_ne (ne_of_none h hp)]; exact G.fr a u h⟩
theorem Rel.setS (R : Rel K b en σ F H) {i : Nat} {v : V} {e : Ent} (h : EntR K b en.ow F (some (some v)) e) : Rel K b (en.set i e) (σ.set i (some v)) F H := by
  refine ⟨R.bo, R.ff, R.fh, R.hh, R.fr, R.gn, fun o ho => R.ob o ho, by simp [En.set, R.ln], fun j e' he => ?_, R.ow⟩
  have he : (en.sl.set i e)[j]? = some e' := he
  by_cases q : i = j
  · subst q
    have hl : i < en.sl.length := by
      have := (List.getElem?_eq_some_iff.mp he).1
      simpa using this
    rw [List.getElem?_set_self hl] at he
    cases he
    rw [List.getElem?_set_self (by rw [← R.ln]; exact hl)]
    exact h
  · rw [List.getElem?_set_ne q] at he
    rw [List.getElem?_set_ne q]
    exact R.sl j e' he
theorem Rel.setD (R : Rel K b en σ F H) {i : Nat} {v : V} {d : PyData} (h : Rp F v d) : Rel K b (en.set i (.dat d)) (σ.set i (some v)) F H := R.setS ⟨v, rfl, h⟩
end
end WS
set_option Elab.async false
set_option linter.all false
set_option maxRecDepth 100000
set_option maxHeartbeats 4000000
set_option autoImplicit false
namespace WS
open PySem PySem.Spec PyProof.Rows L2

/-- a family of contexts: a def's body, a comprehension's block started anywhere -/
structure Ctx where
  T : Type
  X : T → Cx
  P : Program
  w : World
  K : PySem.W.Frag
  mg : Str → Option Value
  base : Heap
  A : Around
  N : List Str
  sc : Scope
  hP : ∀ i, (X i).prog = P
  hw : ∀ i, (X i).w = w
  hK : ∀ i, (X i).K = K
  hm : ∀ i, (X i).mg = mg
  hb : ∀ i, (X i).base = base
  hA : ∀ i, (X i).A = A
  hN : ∀ i, (X i).N = N
  hs : ∀ i, (X i).env.scope = sc
  hc : ∀ i, (X i).calm = true
  nd : N.Nodup
  un : A.units + 200 < cLine
theorem Ctx.u64 (Z : Ctx) (i : Z.T) : (Z.X i).A.units + 64 < cLine := by rw [Z.hA i]; have := Z.un; omega
theorem Ctx.mgN {Z : Ctx} {x : Str} (h : Z.mg x = none) (i : Z.T) : (Z.X i).mg x = none := by rw [Z.hm i]; exact h
theorem Ctx.mgS {Z : Ctx} {x : Str} {u : Value} (h : Z.mg x = some u) (i : Z.T) : (Z.X i).mg x = some u := by rw [Z.hm i]; exact h
theorem Ctx.vis {Z : Ctx} {x : Str} (h : Vis Z.sc x) (i : Z.T) : Vis (Z.X i).env.scope x := by rw [Z.hs i]; exact h
theorem Ctx.nth {Z : Ctx} {j : Nat} {x : Str} (h : Z.N[j]? = some x) (i : Z.T) : (Z.X i).N[j]? = some x := by rw [Z.hN i]; exact h
/-- a global name -/
def GlS (sc : Scope) (x : Str) : Prop := sc.names.lookup x = some .globalImplicit
theorem Ctx.gl {Z : Ctx} {x : Str} (h : GlS Z.sc x) (i : Z.T) : Gl (Z.X i) x := by
  show (Z.X i).env.scope.names.lookup x = _
  rw [Z.hs i]; exact h

/-- an expression gives data with P -/
def HE (Z : Ctx) (b : Bs) (e : Expr) (en : En) (P : PyData → Prop) : Prop :=
  ∀ (σ : L2.St) (F H : Hp), Rel Z.K b en σ F H → ∀ Q : VK, (∀ v d F' H', Rel Z.K b en σ F' H' → Grow b.g F H F' H' → Rp F' v d → P d → Q v H') → ∃ t, (∀ i, PE (Z.X i) e t) ∧ t σ H Q
/-- .. this data -/
def HV (Z : Ctx) (b : Bs) (e : Expr) (en : En) (d : PyData) : Prop := HE Z b e en (fun x => x = d)
/-- a test -/
def HC (Z : Ctx) (b : Bs) (e : Expr) (en : En) (P : Bool → Prop) : Prop :=
  ∀ (σ : L2.St) (F H : Hp), Rel Z.K b en σ F H → ∀ Q : Bool → Hp → Prop, (∀ c F' H', Rel Z.K b en σ F' H' → Grow b.g F H F' H' → P c → Q c H') → ∃ t, (∀ i, PT (Z.X i) e t) ∧ t σ H Q
/-- arguments -/
def HA (Z : Ctx) (b : Bs) (es : List Expr) (en : En) (P : List PyData → Prop) : Prop :=
  ∀ (σ : L2.St) (F H : Hp), Rel Z.K b en σ F H → ∀ Q : List V → Hp → Prop, (∀ vs ds F' H', Rel Z.K b en σ F' H' → Grow b.g F H F' H' → Rps F' vs ds → P ds → Q vs H') → ∃ t, (∀ i, PA (Z.X i) es t) ∧ t σ H Q

/-- the strongest readings -/
def tE (Z : Ctx) (e : Expr) : TE := fun σ H Q => ∃ t, (∀ i, PE (Z.X i) e t) ∧ t σ H Q
theorem pe_tE (Z : Ctx) (e : Expr) (i : Z.T) : PE (Z.X i) e (tE Z e) := ⟨fun pins s σ H Q I ⟨t, h, q⟩ => (h i).run pins s σ H Q I q⟩
def tT (Z : Ctx) (e : Expr) : TT := fun σ H Q => ∃ t, (∀ i, PT (Z.X i) e t) ∧ t σ H Q
theorem pt_tT (Z : Ctx) (e : Expr) (i : Z.T) : PT (Z.X i) e (tT Z e) := ⟨fun pins s σ H Q I ⟨t, h, q⟩ => (h i).run pins s σ H Q I q⟩
def tAr (Z : Ctx) (e : List Expr) : TA := fun σ H Q => ∃ t, (∀ i, PA (Z.X i) e t) ∧ t σ H Q
theorem pa_tA (Z : Ctx) (e : List Expr) (i : Z.T) : PA (Z.X i) e (tAr Z e) := ⟨fun pos pins s σ H Q I ⟨t, h, q⟩ => (h i).run pos pins s σ H Q I q⟩

section
variable {Z : Ctx} {bs : Bs} {en : En} {a b c e : Expr} {es : List Expr} {pos : Pos} {P Pa Pb : PyData → Prop}

theorem HE.imp {P' : PyData → Prop} (h : HE Z bs e en P) (k : ∀ d, P d → P' d) : HE Z bs e en P' := fun σ F H R Q q => h σ F H R Q fun v d F' H' R' s r p => q v d F' H' R' s r (k d p)
theorem HV.he {d : PyData} (h : HV Z bs e en d) (k : P d) : HE Z bs e en P := h.imp fun x ex => by subst ex; exact k
theorem HV.to {d d' : PyData} (h : HV Z bs e en d) (k : d = d') : HV Z bs e en d' := by subst k; exact h

/-- a two-place rule -/
theorem HE_two {r : R2} {mk : Expr} (hp : ∀ i ta tb, PE (Z.X i) a ta → PE (Z.X i) b tb → PE (Z.X i) mk (tOp r ta tb)) (ha : HE Z bs a en Pa) (hb : HE Z bs b en Pb)
    (hr : ∀ x y dx dy F H σ Q, Rel Z.K bs en σ F H → Rp F x dx → Rp F y dy → Pa dx → Pb dy → (∀ v d F' H', Rel Z.K bs en σ F' H' → Grow bs.g F H F' H' → Rp F' v d → P d → Q v H') → r x y H Q) : HE Z bs mk en P := by
  intro σ F H R Q q
  refine ⟨_, fun i => hp i _ _ (pe_tE Z a i) (pe_tE Z b i), ?_⟩
  refine ha σ F H R _ fun x dx F1 H1 R1 s1 rx px => ?_
  refine hb σ F1 H1 R1 _ fun y dy F2 H2 R2 s2 ry py => ?_
  exact hr x y dx dy F2 H2 σ Q R2 (rx.up s2.f) ry px py fun v d F' H' R' s' r' p' => q v d F' H' R' ((s1.trans s2).trans s') r' p'
theorem HC_two {r : R2} {mk : Expr} {P : Bool → Prop} (hp : ∀ i ta tb, PE (Z.X i) a ta → PE (Z.X i) b tb → PT (Z.X i) mk (tTest (tOp r ta tb))) (ha : HE Z bs a en Pa) (hb : HE Z bs b en Pb)
    (hr : ∀ x y dx dy F H σ Q, Rel Z.K bs en σ F H → Rp F x dx → Rp F y dy → Pa dx → Pb dy → (∀ (k : Bool) F' H', Rel Z.K bs en σ F' H' → Grow bs.g F H F' H' → P k → Q (.bl k) H') → r x y H Q) : HC Z bs mk en P := by
  intro σ F H R Q q
  refine ⟨_, fun i => hp i _ _ (pe_tE Z a i) (pe_tE Z b i), ?_⟩
  refine ha σ F H R _ fun x dx F1 H1 R1 s1 rx px => ?_
  refine hb σ F1 H1 R1 _ fun y dy F2 H2 R2 s2 ry py => ?_
  exact hr x y dx dy F2 H2 σ _ R2 (rx.up s2.f) ry px py fun k F' H' R' s' p' => ⟨k, rfl, q k F' H' R' ((s1.trans s2).trans s') p'⟩

/-! ### names, constants -/
theorem HV_var {i : Nat} {x : Str} {pos : Pos} {d : PyData} (h : en.sl[i]? = some (.dat d)) (hN : Z.N[i]? = some x := by rfl) (hv : Vis Z.sc x := by first | exact Or.inl rfl | exact Or.inr (Or.inl rfl) | exact Or.inr (Or.inr rfl)) (hd : (x == ("__debug__" : Str)) = false := by decide)
    (hcd : (x == ("__classdict__" : Str)) = false := by decide) : HV Z bs (.Name x pos) en d := fun σ F H R Q q => by
  obtain ⟨v, e1, e2⟩ := R.sl i _ h
  exact ⟨_, fun i => pe_var (Ctx.nth hN i) (Ctx.vis hv i) hd hcd, v, e1, q v d F H R R.gid e2 rfl⟩
theorem HV_int {i : Int} {j pos} : HV Z bs (.Constant (.int i) j pos) en (.int i) := fun σ F H R Q q => ⟨_, fun _ => pe_int, q _ _ F H R R.gid (.int i) rfl⟩
theorem HV_bl {i : Bool} {j pos} : HV Z bs (.Constant (.bool i) j pos) en (.bool i) := fun σ F H R Q q => ⟨_, fun _ => pe_bl, q _ _ F H R R.gid (.bl i) rfl⟩
theorem HV_non {j pos} : HV Z bs (.Constant .none j pos) en .none := fun σ F H R Q q => ⟨_, fun _ => pe_non, q _ _ F H R R.gid .non rfl⟩
theorem HV_glob {x : Str} {i : Int} {u : Value} {pos : Pos} (hm : Z.mg x = some u) (r : RelV (.int i) u) (hg : GlS Z.sc x := by rfl) (hd : (x == ("__debug__" : Str)) = false := by decide) : HV Z bs (.Name x pos) en (.int i) := fun σ F H R Q q =>
  ⟨_, fun i => pe_glob (Ctx.gl hg i) (Ctx.mgS hm i) r hd, q _ _ F H R R.gid (.int i) rfl⟩

/-! ### numbers -/
theorem HE_I {op : Operator} {Cn : Int → Int → Prop} {g : Int → Int → Int} (ho : ∀ i, OpR (Z.X i) (binaryOp op) (rI Cn fun i j => .int (g i j))) {i j : Int} (ha : HV Z bs a en (.int i)) (hb : HV Z bs b en (.int j)) (hC : Cn i j) : HV Z bs (.BinOp a op b pos) en (.int (g i j)) := by
  refine HE_two (fun i ta tb pa pb => pe_op (ho i) pa pb) ha hb fun x y dx dy F H σ Q R rx ry px py q => ?_
  subst px py
  cases rx; cases ry
  exact ⟨i, j, rfl, rfl, hC, q _ _ F H R R.gid (.int _) rfl⟩
theorem HE_I0 {op : Operator} {g : Int → Int → Int} (ho : ∀ i, OpR (Z.X i) (binaryOp op) (rI0 fun i j => .int (g i j))) {i j : Int} (ha : HV Z bs a en (.int i)) (hb : HV Z bs b en (.int j)) : HV Z bs (.BinOp a op b pos) en (.int (g i j)) := by
  refine HE_two (fun i ta tb pa pb => pe_op (ho i) pa pb) ha hb fun x y dx dy F H σ Q R rx ry px py q => ?_
  subst px py
  cases rx; cases ry
  exact ⟨i, j, rfl, rfl, q _ _ F H R R.gid (.int _) rfl⟩
theorem HV_add {i j : Int} (ha : HV Z bs a en (.int i)) (hb : HV Z bs b en (.int j)) : HV Z bs (.BinOp a .Add b pos) en (.int (i + j)) := HE_I0 (fun _ => op_add) ha hb
theorem HV_sub {i j : Int} (ha : HV Z bs a en (.int i)) (hb : HV Z bs b en (.int j)) : HV Z bs (.BinOp a .Sub b pos) en (.int (i - j)) := HE_I0 (fun _ => op_sub) ha hb
/-- a number of at most a hundred thousand bits -/
def Sm (i : Int) : Prop := i.natAbs < 2 ^ 100000
theorem HV_mul {i j : Int} (ha : HV Z bs a en (.int i)) (hb : HV Z bs b en (.int j)) (h1 : Sm i) (h2 : Sm j) : HV Z bs (.BinOp a .Mult b pos) en (.int (i * j)) := HE_I (fun _ => op_mulW) ha hb (wide_mul h1 h2 (by decide) (by decide) (by decide))
theorem HV_mulS {i j : Int} (ha : HV Z bs a en (.int i)) (hb : HV Z bs b en (.int j)) (h1 : -(2 ^ 64) < i ∧ i < 2 ^ 64) : HV Z bs (.BinOp a .Mult b pos) en (.int (i * j)) := HE_I (fun _ => op_mul) ha hb (.inl h1)
theorem HV_mod {i j : Int} (ha : HV Z bs a en (.int i)) (hb : HV Z bs b en (.int j)) (h : 0 < j) : HV Z bs (.BinOp a .Mod b pos) en (.int (i % j)) := HE_I (g := fun i j => i % j) (fun _ => op_mod) ha hb h
theorem HV_div {i j : Int} (ha : HV Z bs a en (.int i)) (hb : HV Z bs b en (.int j)) (h : 0 < j) (h2 : j.natAbs < 2 ^ 9000) : HV Z bs (.BinOp a .FloorDiv b pos) en (.int (i / j)) := HE_I (g := fun i j => i / j) (fun _ => op_fdivW) ha hb (wide_div h h2 (by decide) (by decide))
theorem HV_shl {n : Nat} (ha : HV Z bs a en (.int 1)) (hb : HV Z bs b en (.int (n : Int))) (h : n ≤ 1000000) : HV Z bs (.BinOp a .LShift b pos) en (.int (2 ^ n)) := by
  have q := HE_I (pos := pos) (g := fun i j => i * 2 ^ j.toNat) (fun _ => op_shl) ha hb ⟨by omega, by omega, by decide⟩
  refine q.to ?_
  show PyData.int (1 * 2 ^ ((n : Int)).toNat) = _
  rw [Int.one_mul, Int.toNat_natCast]
theorem HV_shr {i : Int} {n : Nat} (ha : HV Z bs a en (.int i)) (hb : HV Z bs b en (.int (n : Int))) : HV Z bs (.BinOp a .RShift b pos) en (.int (i / 2 ^ n)) := by
  have q := HE_I (pos := pos) (g := fun i j => i / 2 ^ j.toNat) (fun _ => op_shr) ha hb (by omega)
  refine q.to ?_
  show PyData.int (i / 2 ^ ((n : Int)).toNat) = _
  rw [Int.toNat_natCast]

/-! ### comparisons -/
theorem HV_cmp {op : CmpOp} {g : Int → Int → Bool} (ho : ∀ i, OpR (Z.X i) (compareOp op) (rI0 fun i j => .bl (g i j))) (hm : behindInMarks op b = false) {i j : Int} (ha : HV Z bs a en (.int i)) (hb : HV Z bs b en (.int j)) : HV Z bs (.Compare a [op] [b] pos) en (.bool (g i j)) := by
  refine HE_two (fun i ta tb pa pb => pe_cmpR (ho i) pa pb hm) ha hb fun x y dx dy F H σ Q R rx ry px py q => ?_
  subst px py
  cases rx; cases ry
  exact ⟨i, j, rfl, rfl, q _ _ F H R R.gid (.bl _) rfl⟩
theorem HC_cmp {op : CmpOp} {g : Int → Int → Bool} {P : Bool → Prop} (ho : ∀ i, OpR (Z.X i) (compareOp op) (rI0 fun i j => .bl (g i j))) (hm : behindInMarks op b = false) {i j : Int} (ha : HV Z bs a en (.int i)) (hb : HV Z bs b en (.int j)) (k : P (g i j)) : HC Z bs (.Compare a [op] [b] pos) en P := by
  refine HC_two (fun i ta tb pa pb => pt_cmpR (ho i) pa pb hm) ha hb fun x y dx dy F H σ Q R rx ry px py q => ?_
  subst px py
  cases rx; cases ry
  exact ⟨i, j, rfl, rfl, q _ F H R R.gid k⟩
/-- data flat enough to be compared -/
theorem opEqD (i : Z.T) : OpR (Z.X i) (compareOp .Eq) (rEqD Z.K) := by
  have h := op_eqD (Z.u64 i)
  rw [Z.hK i] at h; exact h
theorem opNeD (i : Z.T) : OpR (Z.X i) (compareOp .NotEq) (rNeD Z.K) := by
  have h := op_neD (Z.u64 i)
  rw [Z.hK i] at h; exact h
theorem opIn (i : Z.T) : OpR (Z.X i) (compareOp .In) (rIn Z.K false) := by
  have h := op_in_seq (X := Z.X i)
  rw [Z.hK i] at h; exact h
theorem opNotIn (i : Z.T) : OpR (Z.X i) (compareOp .NotIn) (rIn Z.K true) := by
  have h := op_notIn_seq (X := Z.X i)
  rw [Z.hK i] at h; exact h
theorem HV_eqD {d d' : PyData} (ha : HV Z bs a en d) (hb : HV Z bs b en d') (h1 : SeqAt.shaped d = true) (h2 : SeqAt.shaped d' = true) : HV Z bs (.Compare a [.Eq] [b] pos) en (.bool (PyData.eqv d d')) := by
  refine HE_two (fun i ta tb pa pb => pe_cmpR (opEqD i) pa pb (nomark b)) ha hb fun x y dx dy F H σ Q R rx ry px py q => ?_
  subst px py
  exact ⟨_, _, (rx.up R.fh).dp, (ry.up R.fh).dp, h1, h2, q _ _ F H R R.gid (.bl _) rfl⟩
theorem HV_neD {d d' : PyData} (ha : HV Z bs a en d) (hb : HV Z bs b en d') (h1 : SeqAt.shaped d = true) (h2 : SeqAt.shaped d' = true) : HV Z bs (.Compare a [.NotEq] [b] pos) en (.bool (!PyData.eqv d d')) := by
  refine HE_two (fun i ta tb pa pb => pe_cmpR (opNeD i) pa pb (nomark b)) ha hb fun x y dx dy F H σ Q R rx ry px py q => ?_
  subst px py
  exact ⟨_, _, (rx.up R.fh).dp, (ry.up R.fh).dp, h1, h2, q _ _ F H R R.gid (.bl _) rfl⟩
theorem HC_eqD {P : Bool → Prop} {d d' : PyData} (ha : HV Z bs a en d) (hb : HV Z bs b en d') (h1 : SeqAt.shaped d = true) (h2 : SeqAt.shaped d' = true) (k : P (PyData.eqv d d')) : HC Z bs (.Compare a [.Eq] [b] pos) en P := by
  refine HC_two (fun i ta tb pa pb => pt_cmpR (opEqD i) pa pb (nomark b)) ha hb fun x y dx dy F H σ Q R rx ry px py q => ?_
  subst px py
  exact ⟨_, _, (rx.up R.fh).dp, (ry.up R.fh).dp, h1, h2, q _ F H R R.gid k⟩
theorem HC_neD {P : Bool → Prop} {d d' : PyData} (ha : HV Z bs a en d) (hb : HV Z bs b en d') (h1 : SeqAt.shaped d = true) (h2 : SeqAt.shaped d' = true) (k : P (!PyData.eqv d d')) : HC Z bs (.Compare a [.NotEq] [b] pos) en P := by
  refine HC_two (fun i ta tb pa pb => pt_cmpR (opNeD i) pa pb (nomark b)) ha hb fun x y dx dy F H σ Q R rx ry px py q => ?_
  subst px py
  exact ⟨_, _, (rx.up R.fh).dp, (ry.up R.fh).dp, h1, h2, q _ F H R R.gid k⟩
/-- the value of data without a heap -/
def flat : PyData → Option V
  | .none => some .non
  | .bool b => some (.bl b)
  | .int i => some (.int i)
  | .str x => some (.str x)
  | _ => none
theorem Rp.flat {F : Hp} {v w : V} {d : PyData} (h : Rp F v d) (e : flat d = some w) : v = w := by
  cases h <;> first | (cases e; rfl) | cases e
theorem HV_eqS {d d' : PyData} {v w : V} (ha : HV Z bs a en d) (hb : HV Z bs b en d') (h1 : flat d = some v) (h2 : flat d' = some w) (h : scal v w = true) : HV Z bs (.Compare a [.Eq] [b] pos) en (.bool (decide (v = w))) := by
  refine HE_two (fun i ta tb pa pb => pe_cmpR op_eq pa pb (nomark b)) ha hb fun x y dx dy F H σ Q R rx ry px py q => ?_
  subst px py
  cases rx.flat h1; cases ry.flat h2
  exact ⟨h, q _ _ F H R R.gid (.bl _) rfl⟩
theorem HV_eqI {i j : Int} (ha : HV Z bs a en (.int i)) (hb : HV Z bs b en (.int j)) : HV Z bs (.Compare a [.Eq] [b] pos) en (.bool (decide (i = j))) := (HV_eqS ha hb rfl rfl rfl).to (by rw [dec_int]; rfl)
theorem HC_eqI {P : Bool → Prop} {i j : Int} (ha : HV Z bs a en (.int i)) (hb : HV Z bs b en (.int j)) (k : P (decide (i = j))) : HC Z bs (.Compare a [.Eq] [b] pos) en P := by
  refine HC_two (fun i ta tb pa pb => pt_cmpR op_eq pa pb (nomark b)) ha hb fun x y dx dy F H σ Q R rx ry px py q => ?_
  subst px py
  cases rx; cases ry
  exact ⟨rfl, q _ F H R R.gid (by rw [dec_int]; exact k)⟩
theorem HC_neI {P : Bool → Prop} {i j : Int} (ha : HV Z bs a en (.int i)) (hb : HV Z bs b en (.int j)) (k : P (!decide (i = j))) : HC Z bs (.Compare a [.NotEq] [b] pos) en P := by
  refine HC_two (fun i ta tb pa pb => pt_cmpR op_ne pa pb (nomark b)) ha hb fun x y dx dy F H σ Q R rx ry px py q => ?_
  subst px py
  cases rx; cases ry
  exact ⟨rfl, q _ F H R R.gid (by rw [dec_int]; exact k)⟩
theorem HV_lt {i j : Int} (ha : HV Z bs a en (.int i)) (hb : HV Z bs b en (.int j)) : HV Z bs (.Compare a [.Lt] [b] pos) en (.bool (decide (i < j))) := HV_cmp (fun _ => op_lt) (nomark b) ha hb
theorem HV_le {i j : Int} (ha : HV Z bs a en (.int i)) (hb : HV Z bs b en (.int j)) : HV Z bs (.Compare a [.LtE] [b] pos) en (.bool (decide (i ≤ j))) := HV_cmp (fun _ => op_le) (nomark b) ha hb
theorem HV_gt {i j : Int} (ha : HV Z bs a en (.int i)) (hb : HV Z bs b en (.int j)) : HV Z bs (.Compare a [.Gt] [b] pos) en (.bool (decide (j < i))) := HV_cmp (fun _ => op_gt) (nomark b) ha hb
theorem HV_ge {i j : Int} (ha : HV Z bs a en (.int i)) (hb : HV Z bs b en (.int j)) : HV Z bs (.Compare a [.GtE] [b] pos) en (.bool (decide (j ≤ i))) := HV_cmp (fun _ => op_ge) (nomark b) ha hb
theorem HC_lt {P : Bool → Prop} {i j : Int} (ha : HV Z bs a en (.int i)) (hb : HV Z bs b en (.int j)) (k : P (decide (i < j))) : HC Z bs (.Compare a [.Lt] [b] pos) en P := HC_cmp (fun _ => op_lt) (nomark b) ha hb k
theorem HC_le {P : Bool → Prop} {i j : Int} (ha : HV Z bs a en (.int i)) (hb : HV Z bs b en (.int j)) (k : P (decide (i ≤ j))) : HC Z bs (.Compare a [.LtE] [b] pos) en P := HC_cmp (fun _ => op_le) (nomark b) ha hb k
theorem HC_gt {P : Bool → Prop} {i j : Int} (ha : HV Z bs a en (.int i)) (hb : HV Z bs b en (.int j)) (k : P (decide (j < i))) : HC Z bs (.Compare a [.Gt] [b] pos) en P := HC_cmp (fun _ => op_gt) (nomark b) ha hb k
theorem HC_ge {P : Bool → Prop} {i j : Int} (ha : HV Z bs a en (.int i)) (hb : HV Z bs b en (.int j)) (k : P (decide (j ≤ i))) : HC Z bs (.Compare a [.GtE] [b] pos) en P := HC_cmp (fun _ => op_ge) (nomark b) ha hb k
def isNone : PyData → Bool
  | .none => true
  | _ => false
theorem Rp.isNone {F : Hp} {v : V} {d : PyData} (h : Rp F v d) : decide (v = .non) = isNone d := by cases h <;> rfl
theorem HV_isN {d : PyData} (ha : HV Z bs a en d) (hb : HV Z bs b en .none) : HV Z bs (.Compare a [.Is] [b] pos) en (.bool (isNone d)) := by
  refine HE_two (fun i ta tb pa pb => pe_cmpR op_isN pa pb (nomark b)) ha hb fun x y dx dy F H σ Q R rx ry px py q => ?_
  subst px py
  cases ry
  exact ⟨rfl, q _ _ F H R R.gid (.bl _) (by rw [rx.isNone])⟩
theorem HC_isN {P : Bool → Prop} {d : PyData} (ha : HV Z bs a en d) (hb : HV Z bs b en .none) (k : P (isNone d)) : HC Z bs (.Compare a [.Is] [b] pos) en P := by
  refine HC_two (fun i ta tb pa pb => pt_cmpR op_isN pa pb (nomark b)) ha hb fun x y dx dy F H σ Q R rx ry px py q => ?_
  subst px py
  cases ry
  exact ⟨rfl, q _ F H R R.gid (by rw [rx.isNone]; exact k)⟩
theorem HC_notN {P : Bool → Prop} {d : PyData} (ha : HV Z bs a en d) (hb : HV Z bs b en .none) (k : P (!isNone d)) : HC Z bs (.Compare a [.IsNot] [b] pos) en P := by
  refine HC_two (fun i ta tb pa pb => pt_cmpR op_notN pa pb (nomark b)) ha hb fun x y dx dy F H σ Q R rx ry px py q => ?_
  subst px py
  cases ry
  exact ⟨rfl, q _ F H R R.gid (by rw [rx.isNone]; exact k)⟩
/-- x in a list or tuple of whole numbers -/
theorem inV_ints (i : Int) : ∀ ns : List Int, inV (.int i) (ns.map V.int) = decide (i ∈ ns)
  | [] => by simp [inV]
  | n :: ns => by
    have ih := inV_ints i ns
    unfold inV at ih ⊢
    rw [List.map_cons, List.any_cons, ih]
    have e : eqV (.int n) (.int i) = decide (i = n) := by
      show (n == i) = decide (i = n)
      by_cases h : i = n
      · subst h; simp
      · rw [decide_eq_false h]; exact beq_eq_false_iff_ne.mpr (fun z => h z.symm)
    rw [e]
    by_cases h : i = n
    · subst h; simp
    · simp [h]
theorem flat_ints : ∀ ns : List Int, (ns.map V.int).all flatV = true
  | [] => rfl
  | n :: ns => by rw [List.map_cons, List.all_cons, flat_ints ns]; rfl
theorem rIn_ints {neg : Bool} {x y : V} {i : Int} {ns : List Int} {F H : Hp} {Q : VK} {K : PySem.W.Frag} (fh : Same F H) (rx : Rp F x (.int i)) (ry : Rp F y (.list (ns.map .int)) ∨ Rp F y (.tuple (ns.map .int))) (q : Q (.bl (if neg then !decide (i ∈ ns) else decide (i ∈ ns))) H) : rIn K neg x y H Q := by
  cases rx
  rcases ry with ry | ry
  · cases ry with
    | lst ha hr =>
      have e := hr.ints
      subst e
      refine ⟨_, _, rfl, .inl (SqL.of (fh _ _ ha)), rfl, flat_ints ns, ?_⟩
      rw [inV_ints]; exact q
  · cases ry with
    | tup ha hr =>
      have e := hr.ints
      subst e
      refine ⟨_, _, rfl, .inr (SqT.of (fh _ _ ha)), rfl, flat_ints ns, ?_⟩
      rw [inV_ints]; exact q
theorem HC_in {P : Bool → Prop} {i : Int} {ns : List Int} (ha : HV Z bs a en (.int i)) (hb : HE Z bs b en fun d => d = .list (ns.map .int) ∨ d = .tuple (ns.map .int)) (k : P (decide (i ∈ ns))) (hm : behindInMarks .In b = false := by rfl) : HC Z bs (.Compare a [.In] [b] pos) en P := by
  refine HC_two (fun i ta tb pa pb => pt_cmpR (opIn i) pa pb hm) ha hb fun x y dx dy F H σ Q R rx ry px py q => ?_
  subst px
  exact rIn_ints R.fh rx (by rcases py with e | e <;> subst e; exact .inl ry; exact .inr ry) (q _ F H R R.gid k)
theorem HC_notIn {P : Bool → Prop} {i : Int} {ns : List Int} (ha : HV Z bs a en (.int i)) (hb : HE Z bs b en fun d => d = .list (ns.map .int) ∨ d = .tuple (ns.map .int)) (k : P (!decide (i ∈ ns))) (hm : behindInMarks .NotIn b = false := by rfl) : HC Z bs (.Compare a [.NotIn] [b] pos) en P := by
  refine HC_two (fun i ta tb pa pb => pt_cmpR (opNotIn i) pa pb hm) ha hb fun x y dx dy F H σ Q R rx ry px py q => ?_
  subst px
  exact rIn_ints R.fh rx (by rcases py with e | e <;> subst e; exact .inl ry; exact .inr ry) (q _ F H R R.gid k)

/-! ### truth -/
theorem HC_val {P : Bool → Prop} (h : HE Z bs e en fun d => ∃ k, d = .bool k ∧ P k) (he : ∀ i whole, isTrue e (Z.X i).env whole = (do let v ← whole; standAt e.pos; holding [v] (truthy v)) := by intro _ _; rfl) : HC Z bs e en P := fun σ F H R Q q => by
  refine ⟨_, fun i => pt_val (pe_tE Z e i) (he i), ?_⟩
  refine h σ F H R _ fun v d F' H' R' s r ⟨k, ed, p⟩ => ?_
  subst ed
  cases r
  exact ⟨k, rfl, q k F' H' R' s p⟩
theorem HC_not {P : Bool → Prop} (h : HC Z bs a en fun k => P (!k)) : HC Z bs (.UnaryOp .Not a pos) en P := fun σ F H R Q q =>
  ⟨_, fun i => pt_not (pt_tT Z a i), h σ F H R _ fun k F' H' R' s p => q _ F' H' R' s p⟩
/-- a chain of and, or -/
def HW (Z : Ctx) (b : Bs) (e : Expr) (en : En) (P : Bool → Prop) : Prop :=
  ∀ (σ : L2.St) (F H : Hp), Rel Z.K b en σ F H → ∀ Q : Bool → Hp → Prop, (∀ c F' H', Rel Z.K b en σ F' H' → Grow b.g F H F' H' → P c → Q c H') → ∃ t, (∀ i, PW (Z.X i) e t) ∧ t σ H Q
def tW (Z : Ctx) (e : Expr) : TT := fun σ H Q => ∃ t, (∀ i, PW (Z.X i) e t) ∧ t σ H Q
theorem pw_tW (Z : Ctx) (e : Expr) (i : Z.T) : PW (Z.X i) e (tW Z e) := ⟨fun wh pins s σ H Q I ⟨t, h, q⟩ => (h i).run wh pins s σ H Q I q⟩
theorem HW_and1 {P : Bool → Prop} (h : HC Z bs a en P) : HW Z bs (.BoolOp .And [a] pos) en P := fun σ F H R Q q => ⟨_, fun i => pw_and1 (pt_tT Z a i), h σ F H R _ q⟩
theorem HW_or1 {P : Bool → Prop} (h : HC Z bs a en P) : HW Z bs (.BoolOp .Or [a] pos) en P := fun σ F H R Q q => ⟨_, fun i => pw_or1 (pt_tT Z a i), h σ F H R _ q⟩
theorem HW_and {P : Bool → Prop} {rest : List Expr} (h : HC Z bs a en fun k => if k = true then HW Z bs (.BoolOp .And (b :: rest) pos) en P else P false) : HW Z bs (.BoolOp .And (a :: b :: rest) pos) en P := fun σ F H R Q q => by
  refine ⟨_, fun i => pw_and (pt_tT Z a i) (pw_tW Z _ i), h σ F H R _ fun k F' H' R' s p => ?_⟩
  cases k with
  | true => exact p σ F' H' R' _ fun c F2 H2 R2 s2 p2 => q c F2 H2 R2 (s.trans s2) p2
  | false => exact q _ F' H' R' s p
theorem HW_or {P : Bool → Prop} {rest : List Expr} (h : HC Z bs a en fun k => if k = true then P true else HW Z bs (.BoolOp .Or (b :: rest) pos) en P) : HW Z bs (.BoolOp .Or (a :: b :: rest) pos) en P := fun σ F H R Q q => by
  refine ⟨_, fun i => pw_or (pt_tT Z a i) (pw_tW Z _ i), h σ F H R _ fun k F' H' R' s p => ?_⟩
  cases k with
  | true => exact q _ F' H' R' s p
  | false => exact p σ F' H' R' _ fun c F2 H2 R2 s2 p2 => q c F2 H2 R2 (s.trans s2) p2
theorem HW.hc {P : Bool → Prop} (h : HW Z bs e en P) : HC Z bs e en P := fun σ F H R Q q => ⟨_, fun i => (pw_tW Z e i).pt, h σ F H R Q q⟩
/-- as values -/
theorem HE_and1 (h : HE Z bs a en P) {op} : HE Z bs (.BoolOp op [a] pos) en P := fun σ F H R Q q => ⟨_, fun i => pe_one (pe_tE Z a i), h σ F H R _ q⟩
theorem HE_and {rest : List Expr} (h : HE Z bs a en fun d => ∃ k, d = .bool k ∧ if k = true then HE Z bs (.BoolOp .And (b :: rest) pos) en P else P (.bool false)) : HE Z bs (.BoolOp .And (a :: b :: rest) pos) en P := fun σ F H R Q q => by
  refine ⟨_, fun i => pe_and (pe_tE Z a i) (pe_tE Z _ i), h σ F H R _ fun v d F' H' R' s r ⟨k, ed, p⟩ => ?_⟩
  subst ed
  cases r
  refine ⟨k, rfl, ?_⟩
  cases k with
  | true => exact p σ F' H' R' _ fun v2 d2 F2 H2 R2 s2 r2 p2 => q v2 d2 F2 H2 R2 (s.trans s2) r2 p2
  | false => exact q _ _ F' H' R' s (.bl _) p
theorem HE_or {rest : List Expr} (h : HE Z bs a en fun d => ∃ k, d = .bool k ∧ if k = true then P (.bool true) else HE Z bs (.BoolOp .Or (b :: rest) pos) en P) : HE Z bs (.BoolOp .Or (a :: b :: rest) pos) en P := fun σ F H R Q q => by
  refine ⟨_, fun i => pe_or (pe_tE Z a i) (pe_tE Z _ i), h σ F H R _ fun v d F' H' R' s r ⟨k, ed, p⟩ => ?_⟩
  subst ed
  cases r
  refine ⟨k, rfl, ?_⟩
  cases k with
  | true => exact q _ _ F' H' R' s (.bl _) p
  | false => exact p σ F' H' R' _ fun v2 d2 F2 H2 R2 s2 r2 p2 => q v2 d2 F2 H2 R2 (s.trans s2) r2 p2
theorem HV_not {k : Bool} (h : HV Z bs a en (.bool k)) : HV Z bs (.UnaryOp .Not a pos) en (.bool (!k)) := fun σ F H R Q q => by
  refine ⟨_, fun i => pe_not (pe_tE Z a i), h σ F H R _ fun v d F' H' R' s r ed => ?_⟩
  subst ed
  cases r
  exact ⟨k, rfl, q _ _ F' H' R' s (.bl _) rfl⟩
theorem HE_if {c : Expr} (h : HC Z bs c en fun k => if k = true then HE Z bs a en P else HE Z bs b en P) : HE Z bs (.IfExp c a b pos) en P := fun σ F H R Q q => by
  refine ⟨_, fun i => pe_ifExp (pt_tT Z c i) (pe_tE Z a i) (pe_tE Z b i), h σ F H R _ fun k F' H' R' s p => ?_⟩
  cases k with
  | true => exact p σ F' H' R' _ fun v2 d2 F2 H2 R2 s2 r2 p2 => q v2 d2 F2 H2 R2 (s.trans s2) r2 p2
  | false => exact p σ F' H' R' _ fun v2 d2 F2 H2 R2 s2 r2 p2 => q v2 d2 F2 H2 R2 (s.trans s2) r2 p2
theorem HV_if {c : Expr} {k : Bool} {d1 d2 : PyData} (h : HC Z bs c en fun z => z = k) (h1 : k = true → HV Z bs a en d1) (h2 : k = false → HV Z bs b en d2) : HV Z bs (.IfExp c a b pos) en (if k = true then d1 else d2) := by
  refine HE_if (fun σ F H R Q q => h σ F H R Q fun z F' H' R' s e => q z F' H' R' s ?_)
  subst e
  cases z with
  | true => exact h1 rfl
  | false => exact h2 rfl
end
end WS
set_option Elab.async false
set_option linter.all false
set_option maxRecDepth 100000
set_option maxHeartbeats 4000000
set_option autoImplicit false
namespace WS
open PySem PySem.Spec PyProof.Rows L2

theorem lenOk {n : Nat} (h : n ≤ 100000) : n ≤ sizeLine := Nat.le_trans h (by decide)
theorem lenLt {n : Nat} (h : n < 100000) : n < sizeLine := Nat.lt_of_lt_of_le h (by decide)

section
variable {Z : Ctx} {bs : Bs} {en : En} {a b c e : Expr} {es : List Expr} {pos p : Pos} {P Pa Pb : PyData → Prop} {d : PyData} {ds : List PyData}

/-! ### arguments, displays -/
def HAv (Z : Ctx) (b : Bs) (es : List Expr) (en : En) (ds : List PyData) : Prop := HA Z b es en fun x => x = ds
theorem HA_nil : HAv Z bs [] en [] := fun σ F H R Q q => ⟨_, fun _ => pa_nil, q _ _ F H R R.gid .nil rfl⟩
theorem HA_cons (ha : HV Z bs e en d) (hr : HAv Z bs es en ds) (hs : ∀ i, starEach (e :: es) (Z.X i).env = (false, eval e (Z.X i).env) :: starEach es (Z.X i).env := by intro _; rfl) : HAv Z bs (e :: es) en (d :: ds) := fun σ F H R Q q => by
  refine ⟨_, fun i => pa_cons (pe_tE Z e i) (pa_tA Z es i) (hs i), ha σ F H R _ fun v d1 F1 H1 R1 s1 r1 e1 => ?_⟩
  subst e1
  refine hr σ F1 H1 R1 _ fun vs ds2 F2 H2 R2 s2 r2 e2 => ?_
  subst e2
  exact q _ _ F2 H2 R2 (s1.trans s2) (.cons (r1.up s2.f) r2) rfl
theorem HV_list (h : HAv Z bs es en ds) (hl : ds.length ≤ 100000) : HV Z bs (.List es pos) en (.list ds) := fun σ F H R Q q => by
  refine ⟨_, fun i => pe_lst (pa_tA Z es i), h σ F H R _ fun vs ds2 F2 H2 R2 s2 r2 e2 => ?_⟩
  subst e2
  refine ⟨lenOk (by rw [r2.len]; exact hl), fun p hp => ?_⟩
  exact q _ _ _ _ (R2.alloc hp) (s2.trans (R2.galloc hp)) (.lst upd_same (r2.up (R2.same_alloc hp))) rfl
theorem HV_tup {k : Nat} (h : HAv Z bs es en ds) (hl : ds.length ≤ 100000) : HV Z bs (.Tuple es k pos) en (.tuple ds) := fun σ F H R Q q => by
  refine ⟨_, fun i => pe_tup (pa_tA Z es i), h σ F H R _ fun vs ds2 F2 H2 R2 s2 r2 e2 => ?_⟩
  subst e2
  refine ⟨lenOk (by rw [r2.len]; exact hl), fun p hp => ?_⟩
  exact q _ _ _ _ (R2.alloc hp) (s2.trans (R2.galloc hp)) (.tup upd_same (r2.up (R2.same_alloc hp))) rfl

/-! ### items -/
theorem atI_rp {F : Hp} {vs : List V} {i : Int} {z : PyData} (h : Rps F vs ds) (hz : atI ds i = some z) : ∃ v, atI vs i = some v ∧ Rp F v z := by
  unfold atI at hz ⊢
  rw [h.len]
  cases q : ixN ds.length i with
  | none => rw [q] at hz; cases hz
  | some j =>
    rw [q] at hz
    obtain ⟨v, e1, e2⟩ := h.get (show ds[j]? = some z from hz)
    exact ⟨v, e1, e2⟩
theorem ixL (i : Z.T) : IxR (Z.X i) (rIxL Z.K) := by
  have h := ix_list (X := Z.X i)
  rw [Z.hK i] at h; exact h
theorem ixT (i : Z.T) : IxR (Z.X i) (rIxT Z.K) := by
  have h := ix_tup (X := Z.X i)
  rw [Z.hK i] at h; exact h
theorem HV_ixL {i : Int} {z : PyData} (ha : HV Z bs a en (.list ds)) (hb : HV Z bs b en (.int i)) (hz : atI ds i = some z) (hs : PlainIx b := by intro _ _; rfl) : HV Z bs (.Subscript a b pos) en z := by
  refine HE_two (fun i ta tb pa pb => pe_ix (ixL i) pa pb hs) ha hb fun x y dx dy F H σ Q R rx ry px py q => ?_
  subst px py
  cases ry
  cases rx with
  | lst h1 h2 =>
    obtain ⟨v, e1, e2⟩ := atI_rp h2 hz
    exact ⟨_, _, _, v, rfl, rfl, SqL.of (R.fh _ _ h1), e1, q _ _ F H R R.gid e2 rfl⟩
theorem HV_ixT {i : Int} {z : PyData} (ha : HV Z bs a en (.tuple ds)) (hb : HV Z bs b en (.int i)) (hz : atI ds i = some z) (hs : PlainIx b := by intro _ _; rfl) : HV Z bs (.Subscript a b pos) en z := by
  refine HE_two (fun i ta tb pa pb => pe_ix (ixT i) pa pb hs) ha hb fun x y dx dy F H σ Q R rx ry px py q => ?_
  subst px py
  cases ry
  cases rx with
  | tup h1 h2 =>
    obtain ⟨v, e1, e2⟩ := atI_rp h2 hz
    exact ⟨_, _, _, v, rfl, rfl, SqT.of (R.fh _ _ h1), e1, q _ _ F H R R.gid e2 rfl⟩
theorem atI_of {α : Type} {xs : List α} {i : Int} {z : α} (h0 : 0 ≤ i) (h : xs[i.toNat]? = some z) : atI xs i = some z := by
  have e : ((i.toNat : Nat) : Int) = i := Int.toNat_of_nonneg h0
  rw [← e]; exact atI_nat h

theorem at0 {α : Type} {x : α} {xs : List α} : atI (x :: xs) 0 = some x := atI_of (by decide) rfl
theorem at1 {α : Type} {x y : α} {xs : List α} : atI (x :: y :: xs) 1 = some y := atI_of (by decide) rfl
theorem at2 {α : Type} {x y z : α} {xs : List α} : atI (x :: y :: z :: xs) 2 = some z := atI_of (by decide) rfl
theorem at3 {α : Type} {x y z u : α} {xs : List α} : atI (x :: y :: z :: u :: xs) 3 = some u := atI_of (by decide) rfl

/-! ### + and * of lists -/
theorem HV_cat {es' : List PyData} (ha : HV Z bs a en (.list ds)) (hb : HV Z bs b en (.list es')) (hl : ds.length + es'.length ≤ 100000) : HV Z bs (.BinOp a .Add b pos) en (.list (ds ++ es')) := by
  refine HE_two (fun i ta tb pa pb => pe_op op_cat pa pb) ha hb fun x y dx dy F H σ Q R rx ry px py q => ?_
  subst px py
  cases rx with
  | lst h1 h2 =>
    cases ry with
    | lst h3 h4 =>
      refine ⟨_, _, _, _, rfl, rfl, R.fh _ _ h1, R.fh _ _ h3, lenOk (by rw [h2.len, h4.len]; exact hl), fun p hp => ?_⟩
      exact q _ _ _ _ (R.alloc hp) (R.galloc hp) (.lst upd_same ((h2.app h4).up (R.same_alloc hp))) rfl
theorem rps_rep {F : Hp} {v : V} {z : PyData} (h : Rp F v z) : ∀ n, Rps F (List.replicate n v) (List.replicate n z)
  | 0 => .nil
  | n + 1 => .cons h (rps_rep h n)
theorem flatten_one {α : Type} (x : α) : ∀ n, (List.replicate n [x]).flatten = List.replicate n x
  | 0 => rfl
  | n + 1 => by rw [List.replicate_succ, List.flatten_cons, flatten_one x n]; rfl
/-- [x] * n -/
theorem HV_rep {z : PyData} {n : Nat} (ha : HV Z bs a en (.list [z])) (hb : HV Z bs b en (.int (n : Int))) (hl : n ≤ 100000) : HV Z bs (.BinOp a .Mult b pos) en (.list (List.replicate n z)) := by
  refine HE_two (fun i ta tb pa pb => pe_op op_rep pa pb) ha hb fun x y dx dy F H σ Q R rx ry px py q => ?_
  subst px py
  cases ry
  cases rx with
  | lst h1 h2 =>
    cases h2 with
    | cons r1 r2 =>
      cases r2
      refine ⟨_, _, _, rfl, rfl, R.fh _ _ h1, by omega, by omega, lenOk (by simp; exact hl), fun p hp => ?_⟩
      rw [Int.toNat_natCast, flatten_one]
      exact q _ _ _ _ (R.alloc hp) (R.galloc hp) (.lst upd_same ((rps_rep r1 n).up (R.same_alloc hp))) rfl

/-! ### built-ins -/
theorem HE_callB {id : String} {x : Str} {r : List V → Hp → VK → Prop} (hc : ∀ i, CallR (Z.X i) (.builtin id) r) (hm : Z.mg x = none) (hv : bootBuiltins x = some (.builtin id)) (ha : HAv Z bs (e :: es) en ds)
    (hr : ∀ vs F H σ Q, Rel Z.K bs en σ F H → Rps F vs ds → (∀ v d F' H', Rel Z.K bs en σ F' H' → Grow bs.g F H F' H' → Rp F' v d → P d → Q v H') → r vs H Q)
    (hg : GlS Z.sc x := by rfl) (hn : x ≠ "__name__" := by decide) (hdb : (x == ("__debug__" : Str)) = false := by decide)
    (he : ∀ i, starEach (e :: es) (Z.X i).env = (false, eval e (Z.X i).env) :: starEach es (Z.X i).env := by intro _; rfl) (hpl : ∀ i, (backTo pos (starEach es (Z.X i).env)).any (·.1) = false := by intro _; rfl) : HE Z bs (.Call (.Name x p) (e :: es) [] pos) en P := fun σ F H R Q q => by
  refine ⟨_, fun i => pe_callB (hc i) (Ctx.gl hg i) (Ctx.mgN hm i) hv (pa_tA Z _ i) hn hdb (he i) (hpl i), ha σ F H R _ fun vs ds2 F2 H2 R2 s2 r2 e2 => ?_⟩
  subst e2
  exact hr vs F2 H2 σ Q R2 r2 fun v d F' H' R' s' r' p' => q v d F' H' R' (s2.trans s') r' p'
theorem HE_callT {id : String} {x : Str} {r : List V → Hp → VK → Prop} (hc : ∀ i, CallR (Z.X i) (.type id) r) (hm : Z.mg x = none) (hv : bootBuiltins x = some (.type id)) (ha : HAv Z bs (e :: es) en ds)
    (hr : ∀ vs F H σ Q, Rel Z.K bs en σ F H → Rps F vs ds → (∀ v d F' H', Rel Z.K bs en σ F' H' → Grow bs.g F H F' H' → Rp F' v d → P d → Q v H') → r vs H Q)
    (hg : GlS Z.sc x := by rfl) (hn : x ≠ "__name__" := by decide) (hdb : (x == ("__debug__" : Str)) = false := by decide)
    (he : ∀ i, starEach (e :: es) (Z.X i).env = (false, eval e (Z.X i).env) :: starEach es (Z.X i).env := by intro _; rfl) (hpl : ∀ i, (backTo pos (starEach es (Z.X i).env)).any (·.1) = false := by intro _; rfl) : HE Z bs (.Call (.Name x p) (e :: es) [] pos) en P := fun σ F H R Q q => by
  refine ⟨_, fun i => pe_callTy (hc i) (Ctx.gl hg i) (Ctx.mgN hm i) hv (pa_tA Z _ i) hn hdb (he i) (hpl i), ha σ F H R _ fun vs ds2 F2 H2 R2 s2 r2 e2 => ?_⟩
  subst e2
  exact hr vs F2 H2 σ Q R2 r2 fun v d F' H' R' s' r' p' => q v d F' H' R' (s2.trans s') r' p'
end

section
variable {Z : Ctx} {bs : Bs} {en : En} {a b c e : Expr} {es : List Expr} {pos p : Pos} {ds : List PyData}
theorem callLen (i : Z.T) : CallR (Z.X i) (.builtin "len") (fun xs H Q => ∃ p ys, xs = [.ref p] ∧ (SqL Z.K H p ys ∨ SqT Z.K H p ys) ∧ Q (.int ys.length) H) := by
  have h := call_len_seq (X := Z.X i)
  rw [Z.hK i] at h; exact h
theorem callList (i : Z.T) : CallR (Z.X i) (.type "list") (fun xs H Q => ∃ p ys, xs = [.ref p] ∧ (SqL Z.K H p ys ∨ SqT Z.K H p ys) ∧ ∀ l, H l = none → Q (.ref l) (upd H l (.lst ys))) := by
  have h := call_list_of (X := Z.X i)
  rw [Z.hK i] at h; exact h
theorem callSum (i : Z.T) : CallR (Z.X i) (.builtin "sum") (rSum Z.K) := by
  have h := cr_sum (Z.hc i)
  rw [Z.hK i] at h; exact h
theorem callMax (i : Z.T) : CallR (Z.X i) (.builtin "max") (rMax Z.K) := by
  have h := cr_max (Z.hc i)
  rw [Z.hK i] at h; exact h
theorem callIsi (i : Z.T) : CallR (Z.X i) (.builtin "isinstance") (rIsi Z.K) := by
  have h := call_isi (X := Z.X i)
  rw [Z.hK i] at h; exact h
theorem HV_len (hm : Z.mg "len" = none) (ha : HV Z bs e en (.list ds)) (hg : GlS Z.sc "len" := by rfl) (he : ∀ i, starEach [e] (Z.X i).env = (false, eval e (Z.X i).env) :: starEach [] (Z.X i).env := by intro _; rfl) : HV Z bs (.Call (.Name "len" p) [e] [] pos) en (.int (ds.length : Int)) :=
  HE_callB callLen hm PySem.boot_len (HA_cons ha HA_nil he) (fun vs F H σ Q R r q => by
    cases r with
    | cons r1 r2 =>
      cases r2
      cases r1 with
      | lst h1 h2 => exact ⟨_, _, rfl, .inl (SqL.of (R.fh _ _ h1)), q _ _ F H R R.gid (.int _) (by rw [h2.len])⟩) hg (by decide) (by decide) he (by intro _; rfl)
theorem HV_listOf (hm : Z.mg "list" = none) (ha : HV Z bs e en (.list ds)) (hg : GlS Z.sc "list" := by rfl) (he : ∀ i, starEach [e] (Z.X i).env = (false, eval e (Z.X i).env) :: starEach [] (Z.X i).env := by intro _; rfl) : HV Z bs (.Call (.Name "list" p) [e] [] pos) en (.list ds) :=
  HE_callT callList hm PyProof.Rows.boot_list (HA_cons ha HA_nil he) (fun vs F H σ Q R r q => by
    cases r with
    | cons r1 r2 =>
      cases r2
      cases r1 with
      | lst h1 h2 => exact ⟨_, _, rfl, .inl (SqL.of (R.fh _ _ h1)), fun l hl => q _ _ _ _ (R.alloc hl) (R.galloc hl) (.lst upd_same (h2.up (R.same_alloc hl))) rfl⟩) hg (by decide) (by decide) he (by intro _; rfl)
theorem HV_abs {i : Int} (hm : Z.mg "abs" = none) (ha : HV Z bs e en (.int i)) (hg : GlS Z.sc "abs" := by rfl) (he : ∀ i, starEach [e] (Z.X i).env = (false, eval e (Z.X i).env) :: starEach [] (Z.X i).env := by intro _; rfl) : HV Z bs (.Call (.Name "abs" p) [e] [] pos) en (.int (if i < 0 then -i else i)) :=
  HE_callB (fun _ => call_abs) hm PyProof.Rows.boot_abs (HA_cons ha HA_nil he) (fun vs F H σ Q R r q => by
    cases r with
    | cons r1 r2 =>
      cases r2
      cases r1
      exact ⟨_, rfl, q _ _ F H R R.gid (.int _) rfl⟩) hg (by decide) (by decide) he (by intro _; rfl)
theorem HV_max2 {i j : Int} (hm : Z.mg "max" = none) (ha : HV Z bs a en (.int i)) (hb : HV Z bs b en (.int j)) (hg : GlS Z.sc "max" := by rfl) (he : ∀ i, starEach [a, b] (Z.X i).env = (false, eval a (Z.X i).env) :: starEach [b] (Z.X i).env := by intro _; rfl) (he2 : ∀ i, starEach [b] (Z.X i).env = (false, eval b (Z.X i).env) :: starEach [] (Z.X i).env := by intro _; rfl) (hpl : ∀ i, (backTo pos (starEach [b] (Z.X i).env)).any (·.1) = false := by intro _; rfl) :
    HV Z bs (.Call (.Name "max" p) [a, b] [] pos) en (.int (max i j)) :=
  HE_callB (fun i => call_max2 (Z.hc i)) hm PyProof.Rows.boot_max (HA_cons ha (HA_cons hb HA_nil he2) he) (fun vs F H σ Q R r q => by
    cases r with
    | cons r1 r2 =>
      cases r2 with
      | cons r3 r4 =>
        cases r4
        cases r1; cases r3
        exact ⟨_, _, rfl, q _ _ F H R R.gid (.int _) (by congr 1; omega)⟩) hg (by decide) (by decide) he hpl
theorem HV_min2 {i j : Int} (hm : Z.mg "min" = none) (ha : HV Z bs a en (.int i)) (hb : HV Z bs b en (.int j)) (hg : GlS Z.sc "min" := by rfl) (he : ∀ i, starEach [a, b] (Z.X i).env = (false, eval a (Z.X i).env) :: starEach [b] (Z.X i).env := by intro _; rfl) (he2 : ∀ i, starEach [b] (Z.X i).env = (false, eval b (Z.X i).env) :: starEach [] (Z.X i).env := by intro _; rfl) (hpl : ∀ i, (backTo pos (starEach [b] (Z.X i).env)).any (·.1) = false := by intro _; rfl) :
    HV Z bs (.Call (.Name "min" p) [a, b] [] pos) en (.int (min i j)) :=
  HE_callB (fun i => call_min2 (Z.hc i)) hm PyProof.Rows.boot_min (HA_cons ha (HA_cons hb HA_nil he2) he) (fun vs F H σ Q R r q => by
    cases r with
    | cons r1 r2 =>
      cases r2 with
      | cons r3 r4 =>
        cases r4
        cases r1; cases r3
        exact ⟨_, _, rfl, q _ _ F H R R.gid (.int _) (by congr 1; omega)⟩) hg (by decide) (by decide) he hpl
theorem HV_intI {i : Int} (hm : Z.mg "int" = none) (ha : HV Z bs e en (.int i)) (hg : GlS Z.sc "int" := by rfl) (he : ∀ i, starEach [e] (Z.X i).env = (false, eval e (Z.X i).env) :: starEach [] (Z.X i).env := by intro _; rfl) : HV Z bs (.Call (.Name "int" p) [e] [] pos) en (.int i) :=
  HE_callT (fun _ => call_int1) hm PyProof.Rows.boot_int (HA_cons ha HA_nil he) (fun vs F H σ Q R r q => by
    cases r with
    | cons r1 r2 =>
      cases r2
      cases r1
      exact .inl ⟨_, rfl, q _ _ F H R R.gid (.int _) rfl⟩) hg (by decide) (by decide) he (by intro _; rfl)
theorem HV_intB {k : Bool} (hm : Z.mg "int" = none) (ha : HV Z bs e en (.bool k)) (hg : GlS Z.sc "int" := by rfl) (he : ∀ i, starEach [e] (Z.X i).env = (false, eval e (Z.X i).env) :: starEach [] (Z.X i).env := by intro _; rfl) : HV Z bs (.Call (.Name "int" p) [e] [] pos) en (.int (if k = true then 1 else 0)) :=
  HE_callT (fun _ => call_int1) hm PyProof.Rows.boot_int (HA_cons ha HA_nil he) (fun vs F H σ Q R r q => by
    cases r with
    | cons r1 r2 =>
      cases r2
      cases r1
      exact .inr ⟨_, rfl, q _ _ F H R R.gid (.int _) rfl⟩) hg (by decide) (by decide) he (by intro _; rfl)
theorem HV_sum {ns : List Int} (hm : Z.mg "sum" = none) (ha : HV Z bs e en (.list (ns.map .int))) (hg : GlS Z.sc "sum" := by rfl) (he : ∀ i, starEach [e] (Z.X i).env = (false, eval e (Z.X i).env) :: starEach [] (Z.X i).env := by intro _; rfl) : HV Z bs (.Call (.Name "sum" p) [e] [] pos) en (.int ns.sum) :=
  HE_callB callSum hm PyProof.Rows.boot_sum (HA_cons ha HA_nil he) (fun vs F H σ Q R r q => by
    cases r with
    | cons r1 r2 =>
      cases r2
      cases r1 with
      | lst h1 h2 =>
        have e := h2.ints
        subst e
        exact ⟨_, _, rfl, SqL.of (R.fh _ _ h1), q _ _ F H R R.gid (.int _) rfl⟩) hg (by decide) (by decide) he (by intro _; rfl)
theorem HE_maxL {ns : List Int} {P : PyData → Prop} (hm : Z.mg "max" = none) (ha : HV Z bs e en (.list (ns.map .int))) (h0 : 0 < ns.length) (hP : ∀ m, m ∈ ns → (∀ y ∈ ns, y ≤ m) → P (.int m)) (hg : GlS Z.sc "max" := by rfl) (he : ∀ i, starEach [e] (Z.X i).env = (false, eval e (Z.X i).env) :: starEach [] (Z.X i).env := by intro _; rfl) : HE Z bs (.Call (.Name "max" p) [e] [] pos) en P :=
  HE_callB callMax hm PyProof.Rows.boot_max (HA_cons ha HA_nil he) (fun vs F H σ Q R r q => by
    cases r with
    | cons r1 r2 =>
      cases r2
      cases r1 with
      | lst h1 h2 =>
        have e := h2.ints
        subst e
        exact ⟨_, _, rfl, SqL.of (R.fh _ _ h1), h0, fun m m1 m2 => q _ _ F H R R.gid (.int _) (hP m m1 m2)⟩) hg (by decide) (by decide) he (by intro _; rfl)
theorem HV_repr {i : Int} (hm : Z.mg "repr" = none) (ha : HV Z bs e en (.int i)) (h : i.natAbs.log2 < 1920) (hg : GlS Z.sc "repr" := by rfl) (he : ∀ i, starEach [e] (Z.X i).env = (false, eval e (Z.X i).env) :: starEach [] (Z.X i).env := by intro _; rfl) : HV Z bs (.Call (.Name "repr" p) [e] [] pos) en (.str (toString i)) :=
  HE_callB (fun _ => SkE.call_repr_int) hm PyProof.Rows.boot_repr (HA_cons ha HA_nil he) (fun vs F H σ Q R r q => by
    cases r with
    | cons r1 r2 =>
      cases r2
      cases r1
      exact ⟨_, rfl, h, q _ _ F H R R.gid (.str _) rfl⟩) hg (by decide) (by decide) he (by intro _; rfl)
theorem HV_bits {i : Int} {apos : Pos} (ha : HV Z bs e en (.int i)) (hbase : ∀ i, attributeBase e "bit_length" (Z.X i).env (eval e (Z.X i).env) = eval e (Z.X i).env := by intro _; rfl) (hline : (apos.endLine == pos.line) = true := by rfl) : HV Z bs (.Call (.Attribute e "bit_length" apos) [] [] pos) en (.int (Builtin.Int.intBits i : Nat)) := fun σ F H R Q q =>
  ⟨_, fun i => pe_bits (pe_tE Z e i) (hbase i) hline, ha σ F H R _ fun v d F' H' R' s r ed => by
    subst ed
    cases r
    exact ⟨_, rfl, q _ _ F' H' R' s (.int _) rfl⟩⟩
/-- isinstance(x, T) -/
def tyName : PyData → String
  | .none => "NoneType"
  | .bool _ => "bool"
  | .int _ => "int"
  | .str _ => "str"
  | .list _ => "list"
  | .tuple _ => "tuple"
  | .dict _ => "dict"
theorem HV_isi {d : PyData} {T x : String} {k : Bool} (hm : Z.mg "isinstance" = none) (ha : HV Z bs a en d) (hmT : Z.mg x = none) (hvT : bootBuiltins x = some (.type T)) (hk : kitB (tyName d) T = some k) (hg : GlS Z.sc "isinstance" := by rfl) (hgT : GlS Z.sc x := by rfl)
    (hn : (x : Str) ≠ "__name__" := by decide) (hdb : ((x : Str) == ("__debug__" : Str)) = false := by decide) {pT : Pos}
    (he : ∀ i, starEach [a, .Name x pT] (Z.X i).env = (false, eval a (Z.X i).env) :: starEach [.Name x pT] (Z.X i).env := by intro _; rfl) : HV Z bs (.Call (.Name "isinstance" p) [a, .Name x pT] [] pos) en (.bool k) := fun σ F H R Q q => by
  refine ⟨_, fun i => pe_callB (callIsi i) (Ctx.gl hg i) (Ctx.mgN hm i) PyProof.Rows.boot_isinstance (pa_cons (pe_tE Z a i) (pa_cons (pe_bltn (v := .ty T) (Ctx.gl hgT i) (Ctx.mgN hmT i) hvT rfl hn hdb) pa_nil) (he i)) (by decide) (by decide) (he i) (by rfl), ?_⟩
  refine ha σ F H R _ fun v d F' H' R' s r ed => ?_
  subst ed
  have ty : TyX Z.K H' v (.type (tyName d)) := by
    cases r with
    | non => exact .base .non
    | bl _ => exact .base (.bl _)
    | int _ => exact .base (.int _)
    | str _ => exact .base (.str _)
    | lst h1 h2 => exact .base (.lst (R'.fh _ _ h1))
    | tup h1 h2 => exact .base (.tup (R'.fh _ _ h1))
  exact ⟨v, .ty T, _, _, k, rfl, .ty T, ty, kit_ty hk, q _ _ F' H' R' s (.bl k) rfl⟩

/-! ### min and sorted of data -/
theorem EachIs.rps {F : Hp} {β : Type} {enc : β → PyData} : ∀ {us : List Value} {cs : List β}, PySem.W.EachIs (fun u (b : β) => ∃ v, RelV v u ∧ Rp F v (enc b)) us cs → ∃ vs, Vals vs us ∧ Rps F vs (cs.map enc)
  | _, _, .nil => ⟨[], .nil, .nil⟩
  | _, _, .cons h t => by
    obtain ⟨v, r1, r2⟩ := h
    obtain ⟨vs, q1, q2⟩ := EachIs.rps t
    exact ⟨v :: vs, .cons r1 q1, .cons r2 q2⟩
theorem each_of_rps {F : Hp} {β : Type} {enc : β → PyData} : ∀ {vs : List V} {us : List Value} {cs : List β}, Vals vs us → Rps F vs (cs.map enc) → PySem.W.EachIs (fun u (b : β) => ∃ v, RelV v u ∧ Rp F v (enc b)) us cs
  | _, _, [], r, h => by
    have h : Rps F _ [] := h
    cases h
    cases r
    exact .nil
  | _, _, c :: cs, r, h => by
    have h : Rps F _ (enc c :: cs.map enc) := h
    cases h with
    | cons h1 h2 =>
      cases r with
      | cons r1 r2 => exact .cons ⟨_, r1, h1⟩ (each_of_rps r2 h2)
def rSortD (F : Hp) (K : PySem.W.Frag) {β : Type} (enc : β → PyData) (cs : List β) : List V → Hp → VK → Prop := fun vs H Q => ∃ a xs, vs = [V.ref a] ∧ Same F H ∧ SqL K H a xs ∧ Rps F xs (cs.map enc) ∧ ∀ p ys, H p = none → Rps F ys ((cs.mergeSort (PySem.W.dataLe false enc)).map enc) → Q (.ref p) (upd H p (.lst ys))
theorem cr_sortD {X : Cx} {F : Hp} {β : Type} {enc : β → PyData} {cs : List β} (hal : PySem.W.AllAlike (cs.map enc)) (hk : PySem.W.Sortable (cs.map enc)) (hl : cs.length ≤ 100000) (hu : ∀ b ∈ cs, X.A.units + 2 + (enc b).depth < cLine) : CallR X (.builtin "sorted") (rSortD F X.K enc cs) := by
  intro pins s σ H vs us Q I r h
  obtain ⟨a, xs, rfl, hF, hs, hr, q⟩ := h
  obtain ⟨its, rv, hlst, _⟩ := I.list hs
  rw [Vals.ref1 r]
  have e1 := each_of_rps rv hr
  have er : PySem.W.EachIs (fun u (b : β) => ∃ as, Reads s.heap u (enc b) as) its cs := e1.mono fun u c ⟨v, r1, r2⟩ => Dp.reads I _ v u (r2.up hF).dp r1
  refine PySem.W.sorted_data hlst.isList e1 er hal hk (lenOk hl) hu fun out hol ho => ?_
  obtain ⟨ys, q1, q2⟩ := EachIs.rps ho
  obtain ⟨ep, he'⟩ := PyProof.Rows.sortedAll_at s.heap its out.toArray
  have hlen : ys.length ≤ sizeLine := by rw [q1.length, hol]; exact lenOk hl
  exact ⟨.ref _, upd H (s.heap.objs.size + 1) (.lst ys), I.laid (t' := s.toks) (fun _ _ => PyProof.Rows.sortedAll_old) (Nat.le_succ _) ⟨hlen, out, ep, q1, by simpa using he'⟩, rfl, q _ ys (I.hok.fresh (Nat.le_succ _)) q2⟩
theorem HV_sorted {β : Type} {enc : β → PyData} {cs : List β} (hm : Z.mg "sorted" = none) (ha : HV Z bs e en (.list (cs.map enc))) (hal : PySem.W.AllAlike (cs.map enc)) (hk : PySem.W.Sortable (cs.map enc)) (hl : cs.length ≤ 100000) (hu : ∀ b ∈ cs, Z.A.units + 2 + (enc b).depth < cLine)
    (hg : GlS Z.sc "sorted" := by rfl) (he : ∀ i, starEach [e] (Z.X i).env = (false, eval e (Z.X i).env) :: starEach [] (Z.X i).env := by intro _; rfl) : HV Z bs (.Call (.Name "sorted" p) [e] [] pos) en (.list ((cs.mergeSort (PySem.W.dataLe false enc)).map enc)) := fun σ F H R Q q => by
  -- the reading names F of the moment: walk the argument first
  refine ⟨tCB (fun vs H' Q' => ∃ F', rSortD F' Z.K enc cs vs H' Q') (tAr Z [e]), ?_, ?_⟩
  · intro i
    have hu' : ∀ b ∈ cs, (Z.X i).A.units + 2 + (enc b).depth < cLine := by rw [Z.hA i]; exact hu
    exact pe_callB (fun pins s σ H vs us Q I r ⟨F', h⟩ => cr_sortD hal hk hl hu' pins s σ H vs us Q I r (by rw [Z.hK i]; exact h)) (Ctx.gl hg i) (Ctx.mgN hm i) PyProof.Rows.boot_sorted (pa_tA Z _ i) (by decide) (by decide) (he i) (by rfl)
  · refine (HA_cons ha HA_nil he) σ F H R _ fun vs ds2 F2 H2 R2 s2 r2 e2 => ?_
    subst e2
    cases r2 with
    | cons r1 r2 =>
      cases r2
      cases r1 with
      | lst h1 h2 =>
        exact ⟨F2, _, _, rfl, R2.fh, SqL.of (R2.fh _ _ h1), h2, fun p ys hp hy => q _ _ _ _ (R2.alloc hp) (s2.trans (R2.galloc hp)) (.lst upd_same (hy.up (R2.same_alloc hp))) rfl⟩
def rMinD (F : Hp) (K : PySem.W.Frag) (x : PyData) (xs : List PyData) : List V → Hp → VK → Prop := fun vs H Q => ∃ a ws, vs = [V.ref a] ∧ Same F H ∧ SqL K H a ws ∧ Rps F ws (x :: xs) ∧ ∀ v, Rp F v (PySem.W.minD x xs) → Q v H
theorem cr_minD {X : Cx} {F : Hp} {x : PyData} {xs : List PyData} (hc : X.calm = true) (hal : PySem.W.AlikeAll (x :: xs)) (hmem : PySem.W.minD x xs ∈ x :: xs) (hu : X.A.units + 1 + PyData.depthAll (x :: xs) < cLine) : CallR X (.builtin "min") (rMinD F X.K x xs) := by
  intro pins s σ H vs us Q I r h
  obtain ⟨a, ws, rfl, hF, hs, hr, q⟩ := h
  obtain ⟨its, rv, hlst, _⟩ := I.list hs
  rw [Vals.ref1 r]
  obtain ⟨as, hra⟩ := Dp.readsAll I _ ws its (hr.up hF).dp rv
  refine PySem.W.min_list_data (I.ok.hd hc) hlst.isList (by simpa using hra) hal hu fun i v h' tk bs hv hrd hk => ?_
  have hv' : its[i]? = some v := by simpa using hv
  have hi : i < its.length := (List.getElem?_eq_some_iff.mp hv').1
  have hi2 : i < ws.length := by rw [rv.length]; exact hi
  obtain ⟨w, hw⟩ : ∃ w, ws[i]? = some w := ⟨_, List.getElem?_eq_getElem hi2⟩
  obtain ⟨u, hu1, hu2⟩ := rv.get hw
  rw [hv'] at hu1
  cases hu1
  obtain ⟨d, hd1, hd2⟩ := hr.getV hw
  have I2 : Inv X pins σ H { s with heap := h', toks := tk } := I.kept hk
  obtain ⟨as2, hr2⟩ := Dp.reads I2 d w v (hd2.up hF).dp hu2
  have hdm : d ∈ x :: xs := List.mem_of_getElem? hd1
  have ed : d = PySem.W.minD x xs := PySem.W.alike_unique d (PySem.W.minD x xs) v as2 bs (hal.1 d hdm _ hmem) hr2 hrd
  exact ⟨w, H, I2, hu2, q w (by rw [← ed]; exact hd2)⟩
theorem minD_mem (x : PyData) : ∀ xs : List PyData, PySem.W.minD x xs ∈ x :: xs := by
  intro xs
  unfold PySem.W.minD
  induction xs generalizing x with
  | nil => exact List.mem_cons_self
  | cons y ys ih =>
    rw [List.foldl_cons]
    have h := ih (if PySem.W.dataLt y x then y else x)
    rcases List.mem_cons.mp h with h | h
    · rw [h]
      split
      · exact List.mem_cons_of_mem _ List.mem_cons_self
      · exact List.mem_cons_self
    · exact List.mem_cons_of_mem _ (List.mem_cons_of_mem _ h)
theorem HV_minD {x : PyData} {xs : List PyData} (hm : Z.mg "min" = none) (ha : HV Z bs e en (.list (x :: xs))) (hal : PySem.W.AlikeAll (x :: xs)) (hu : Z.A.units + 1 + PyData.depthAll (x :: xs) < cLine)
    (hg : GlS Z.sc "min" := by rfl) (he : ∀ i, starEach [e] (Z.X i).env = (false, eval e (Z.X i).env) :: starEach [] (Z.X i).env := by intro _; rfl) : HV Z bs (.Call (.Name "min" p) [e] [] pos) en (PySem.W.minD x xs) := fun σ F H R Q q => by
  refine ⟨tCB (fun vs H' Q' => ∃ F', rMinD F' Z.K x xs vs H' Q') (tAr Z [e]), ?_, ?_⟩
  · intro i
    have hu' : (Z.X i).A.units + 1 + PyData.depthAll (x :: xs) < cLine := by rw [Z.hA i]; exact hu
    exact pe_callB (fun pins s σ H vs us Q I r ⟨F', h⟩ => cr_minD (Z.hc i) hal (minD_mem x xs) hu' pins s σ H vs us Q I r (by rw [Z.hK i]; exact h)) (Ctx.gl hg i) (Ctx.mgN hm i) PyProof.Rows.boot_min (pa_tA Z _ i) (by decide) (by decide) (he i) (by rfl)
  · refine (HA_cons ha HA_nil he) σ F H R _ fun vs ds2 F2 H2 R2 s2 r2 e2 => ?_
    subst e2
    cases r2 with
    | cons r1 r2 =>
      cases r2
      cases r1 with
      | lst h1 h2 => exact ⟨F2, _, _, rfl, R2.fh, SqL.of (R2.fh _ _ h1), h2, fun v hv => q _ _ F2 H2 R2 s2 hv rfl⟩

/-! ### list(range(a, b, c)) -/
def rgC (a c : Int) (n : Nat) : List Int := (List.range n).map fun i => a + (i : Nat) * c
theorem HV_listRg {i j k : Int} {n : Nat} {p2 pos2 : Pos} (hml : Z.mg "list" = none) (hmr : Z.mg "range" = none) (ha : HV Z bs a en (.int i)) (hb : HV Z bs b en (.int j)) (hcc : HV Z bs c en (.int k)) (hR : RgC i j k n) (hn : n ≤ 100000)
    (hgl : GlS Z.sc "list" := by rfl) (hgr : GlS Z.sc "range" := by rfl)
    (hs : ∀ i, starEach [a, b, c] (Z.X i).env = (false, eval a (Z.X i).env) :: starEach [b, c] (Z.X i).env := by intro _; rfl) (hs2 : ∀ i, starEach [b, c] (Z.X i).env = (false, eval b (Z.X i).env) :: starEach [c] (Z.X i).env := by intro _; rfl) (hs3 : ∀ i, starEach [c] (Z.X i).env = (false, eval c (Z.X i).env) :: starEach [] (Z.X i).env := by intro _; rfl)
    (hpl : ∀ i, (backTo pos2 (starEach [b, c] (Z.X i).env)).any (·.1) = false := by intro _; rfl) :
    HV Z bs (.Call (.Name "list" p) [.Call (.Name "range" p2) [a, b, c] [] pos2] [] pos) en (.list ((rgC i k n).map .int)) := fun σ F H R Q q => by
  refine ⟨fun σ H Q => tAr Z [a, b, c] σ H fun vs H1 => vs = [.int i, .int j, .int k] ∧ ∀ q, H1 q = none → Q (.ref q) (upd H1 q (.lst ((rgC i k n).map V.int))), fun i0 => ⟨fun pins s σ H Q I h => ?_⟩, ?_⟩
  · have na : ∀ e, e = Expr.Call (.Name "range" p2) [a, b, c] [] pos2 → starEach [e] (Z.X i0).env = (false, eval e (Z.X i0).env) :: starEach [] (Z.X i0).env := fun e h => by subst h; rfl
    refine Call_ (ld_blt I (Ctx.gl hgl i0) (Ctx.mgN hml i0) PyProof.Rows.boot_list (PyProof.Rows.callWith_type1 (args_cons ?_ (na _ rfl)) (na _ rfl)))
    refine Call_ (ld_blt I (Ctx.gl hgr i0) (Ctx.mgN hmr i0) boot_range (PyProof.Rows.callWith_type1 (thn ((pa_tA Z [a, b, c] i0).run pos2 pins s σ H _ I h) fun us s1 ⟨vs, H1, I1, r1, q1⟩ => ?_) (hs i0) (hpl i0)))
    obtain ⟨e1, q1⟩ := q1
    subst e1
    cases r1 with
    | cons r rr =>
      cases rr with
      | cons r' rr =>
        cases rr with
        | cons r'' rr =>
          cases rr
          obtain ⟨t, rfl⟩ := r
          obtain ⟨t', rfl⟩ := r'
          obtain ⟨t'', rfl⟩ := r''
          refine call_range_3 hR.1 (args_nil ?_) (.inl (PyProof.noPylong_small hR.2.1))
          have I2 : Inv (Z.X i0) pins σ H1 { s1 with heap := s1.heap.push { cls := .type "range", data := .fields #[.int i t, .int j t', .int k t''] } } := I1.kept (t' := s1.toks) fun b o e => Heap.get?_push_of_some _ e
          refine call_list_range (n := n) (I2.ok.hd (Z.hc i0)) (IsRange.new ..) hR.2.2.1 hR.2.2.2 (by omega) fun h' tk acc c' hk e' hi => ?_
          have hsz : acc.toList.length = n := by rw [Array.length_toList]; exact hi.1
          have hv : Vals ((rgC i k n).map V.int) acc.toList := by
            have e0 : (rgC i k n).map V.int = (List.range acc.toList.length).map fun m => V.int (i + (m : Nat) * k) := by
              unfold rgC; rw [hsz, List.map_map]; rfl
            rw [e0]
            refine vals_of_get acc.toList _ fun m u hm => ?_
            obtain ⟨t, rfl⟩ := hi.2 m u (by rw [← hm, Array.getElem?_toList])
            exact ⟨t, rfl⟩
          refine ⟨.ref _, upd H1 _ (.lst ((rgC i k n).map V.int)), I2.laid hk (Nat.le_refl _) (show ObjOk (Z.X i0).prog (Z.X i0).w _ _ _ (.lst ((rgC i k n).map V.int)) from ⟨?_, acc.toList, c', hv, ?_⟩), rfl, q1 _ (I2.hok.fresh (Nat.le_refl _))⟩
          · rw [hv.length, hsz]; exact lenOk hn
          · rw [Array.toArray_toList]; exact e'
  · refine (HA_cons ha (HA_cons hb (HA_cons hcc HA_nil hs3) hs2) hs) σ F H R _ fun vs ds2 F2 H2 R2 s2 r2 e2 => ?_
    subst e2
    cases r2 with
    | cons r1 r2 =>
      cases r2 with
      | cons r3 r4 =>
        cases r4 with
        | cons r5 r6 =>
          cases r6; cases r1; cases r3; cases r5
          exact ⟨rfl, fun p hp => q _ _ _ _ (R2.alloc hp) (s2.trans (R2.galloc hp)) (.lst upd_same (Rps.of_ints)) rfl⟩
end
end WS
set_option Elab.async false
set_option linter.all false
set_option maxRecDepth 100000
set_option maxHeartbeats 4000000
set_option autoImplicit false
namespace WS
open PySem PySem.Spec PyProof.Rows L2

/-! ### a comprehension's block -/
def Ctx.blk (Z : Ctx) (scope : Scope) : Ctx where
  T := Z.T × Shared × Hp × Addr × List (Str × Addr) × List Addr
  X := fun j => (Z.X j.1).blk j.2.1 j.2.2.1 scope (compEnvC scope j.2.2.2.2.1 j.2.2.2.1 (Z.X j.1).env) j.2.2.2.2.2
  P := Z.P
  w := Z.w
  K := Z.K
  mg := Z.mg
  base := Z.base
  A := Z.A
  N := Z.N
  sc := relS scope Z.sc
  hP := fun j => Z.hP j.1
  hw := fun j => Z.hw j.1
  hK := fun j => Z.hK j.1
  hm := fun j => Z.hm j.1
  hb := fun j => Z.hb j.1
  hA := fun j => Z.hA j.1
  hN := fun j => Z.hN j.1
  hs := fun j => by
    show relS scope (Z.X j.1).env.scope = _
    rw [Z.hs]
  hc := fun j => Z.hc j.1
  nd := Z.nd
  un := Z.un

theorem wipe_at {σ : L2.St} {vs : List Nat} {i : Nat} (h : i ∈ vs) (hl : i < σ.length) : (wipe σ vs)[i]? = some none := by
  induction vs with
  | nil => cases h
  | cons v vs ih =>
    unfold wipe
    by_cases e : v = i
    · subst e
      rw [List.getElem?_set_self (by rw [wipe_length]; exact hl)]
    · rw [List.getElem?_set_ne e]
      rcases List.mem_cons.mp h with h | h
      · exact absurd h.symm e
      · exact ih h
theorem wipe_same {σ σ' : L2.St} {vs : List Nat} (hl : σ'.length = σ.length) (h : ∀ j, j ∉ vs → σ'[j]? = σ[j]?) : wipe σ' vs = wipe σ vs := by
  apply List.ext_getElem?
  intro j
  by_cases m : j ∈ vs
  · by_cases q : j < σ.length
    · rw [wipe_at m q, wipe_at m (by omega)]
    · rw [List.getElem?_eq_none (by rw [wipe_length]; omega), List.getElem?_eq_none (by rw [wipe_length]; omega)]
  · rw [wipe_out m, wipe_out m, h j m]
theorem wipe_wipe {σ : L2.St} {vs : List Nat} : wipe (wipe σ vs) vs = wipe σ vs := wipe_same (wipe_length _ _) fun j m => wipe_out m
def wipeE (sl : List Ent) : List Nat → List Ent
  | [] => sl
  | v :: vs => (wipeE sl vs).set v .un
theorem wipeE_length (sl : List Ent) : ∀ vs : List Nat, (wipeE sl vs).length = sl.length
  | [] => rfl
  | v :: vs => by unfold wipeE; rw [List.length_set, wipeE_length sl vs]
def En.wipe (en : En) (vs : List Nat) : En := { en with sl := wipeE en.sl vs }
section
variable {K : PySem.W.Frag} {b : Bs} {en : En} {σ : L2.St} {F H F' H' : Hp} {g : Option Addr}
theorem Rel.setU (R : Rel K b en σ F H) {i : Nat} {v : Option V} : Rel K b (en.set i .un) (σ.set i v) F H := by
  refine ⟨R.bo, R.ff, R.fh, R.hh, R.fr, R.gn, fun o ho => R.ob o ho, by simp [En.set, R.ln], fun j e' he => ?_, R.ow⟩
  have he : (en.sl.set i .un)[j]? = some e' := he
  by_cases q : i = j
  · subst q
    have hl : i < en.sl.length := by
      have := (List.getElem?_eq_some_iff.mp he).1
      simpa using this
    rw [List.getElem?_set_self hl] at he
    cases he
    trivial
  · rw [List.getElem?_set_ne q] at he
    rw [List.getElem?_set_ne q]
    exact R.sl j e' he
theorem Rel.wipe (R : Rel K b en σ F H) : ∀ vs : List Nat, Rel K b (en.wipe vs) (L2.wipe σ vs) F H
  | [] => R
  | v :: vs => (Rel.wipe R vs).setU
theorem Rel.gnone (R : Rel K b en σ F H) {p : Addr} (hp : H p = none) : b.g ≠ some p := fun e => by
  obtain ⟨x, y, z, h, _⟩ := R.gn p e
  rw [hp] at h; cases h
end

/-! ### targets -/
/-- storing data d at the target leads from en to en'; only the places vs are written -/
def HG (Z : Ctx) (tg : Expr) (vs : List Nat) (f : En → PyData → En → Prop) : Prop :=
  ∃ g : TG, (∀ i, PG (Z.X i) tg g) ∧ ∀ (b : Bs) (en : En) (σ : L2.St) (F H : Hp) (v : V) (d : PyData) (en' : En), Rel Z.K b en σ F H → Rp F v d → f en d en' → ∀ Q : L2.St → Hp → Prop,
    (∀ σ', Rel Z.K b en' σ' F H → (∀ j, j ∉ vs → σ'[j]? = σ[j]?) → σ'.length = σ.length → Q σ' H) → g v σ H Q
def fName (i : Nat) : En → PyData → En → Prop := fun en d en' => en' = en.set i (.dat d)
def LocS (sc : Scope) (x : Str) : Prop := sc.names.lookup x = some .local ∨ sc.names.lookup x = some .cell
theorem Ctx.loc {Z : Ctx} {x : Str} (h : LocS Z.sc x) (i : Z.T) : Loc (Z.X i).env.scope x := by rw [Z.hs i]; exact h
/-- the name may be stored: a cell of the block's own, or a local -/
def StoS (Z : Ctx) (x : Str) : Prop := ∀ i, (Z.X i).fn x = true ∨ (Z.X i).env.scope.names.lookup x = some .local
theorem HG_name {Z : Ctx} {i : Nat} {x : Str} {pos : Pos} (hi : Z.N[i]? = some x := by rfl) (hx : LocS Z.sc x := by first | exact Or.inl rfl | exact Or.inr rfl) (hf : StoS Z x := by first | exact fun _ => Or.inl rfl | exact fun _ => Or.inr rfl) : HG Z (.Name x pos) [i] (fName i) := by
  refine ⟨gName i, fun j => pg_name (by rw [Z.hN]; exact Z.nd) (Ctx.nth hi j) (Ctx.loc hx j) (hf j), fun b en σ F H v d en' R r e Q q => ?_⟩
  have e : en' = _ := e
  subst e
  refine q _ (R.setD r) (fun j hj => ?_) (by simp)
  rw [List.getElem?_set_ne (fun e => hj (by simp [e]))]
def HGs (Z : Ctx) (tgs : List Expr) (vs : List Nat) (f : En → List PyData → En → Prop) : Prop :=
  ∃ g : TGs, (∀ i, PGs (Z.X i) tgs g) ∧ ∀ (b : Bs) (en : En) (σ : L2.St) (F H : Hp) (v : List V) (d : List PyData) (en' : En), Rel Z.K b en σ F H → Rps F v d → f en d en' → ∀ Q : L2.St → Hp → Prop,
    (∀ σ', Rel Z.K b en' σ' F H → (∀ j, j ∉ vs → σ'[j]? = σ[j]?) → σ'.length = σ.length → Q σ' H) → g v σ H Q
def fNil : En → List PyData → En → Prop := fun en d en' => d = [] ∧ en' = en
def fCons (f : En → PyData → En → Prop) (h : En → List PyData → En → Prop) : En → List PyData → En → Prop := fun en d en' => ∃ x r e1, d = x :: r ∧ f en x e1 ∧ h e1 r en'
theorem HGs_nil {Z : Ctx} : HGs Z [] [] fNil := ⟨gNil, fun i => pgs_nil, fun b en σ F H v d en' R r e Q q => by
  obtain ⟨e1, e2⟩ := e
  subst e1 e2
  cases r
  exact ⟨rfl, q σ R (fun _ _ => rfl) rfl⟩⟩
theorem HGs_cons {Z : Ctx} {t : Expr} {ts : List Expr} {vs ws : List Nat} {f : En → PyData → En → Prop} {h : En → List PyData → En → Prop} (h1 : HG Z t vs f) (h2 : HGs Z ts ws h)
    (hs : ∀ i, (assignEach (t :: ts) (Z.X i).env).map (·.2) = assign t (Z.X i).env :: (assignEach ts (Z.X i).env).map (·.2) := by intro _; rfl) : HGs Z (t :: ts) (vs ++ ws) (fCons f h) := by
  obtain ⟨g1, a1, b1⟩ := h1
  obtain ⟨g2, a2, b2⟩ := h2
  refine ⟨gCons g1 g2, fun i => pgs_cons (a1 i) (a2 i) (hs i), fun b en σ F H v d en' R r e Q q => ?_⟩
  obtain ⟨x, rr, e1, ed, p1, p2⟩ := e
  subst ed
  cases r with
  | cons r1 r2 =>
    refine ⟨_, _, rfl, b1 b en σ F H _ x e1 R r1 p1 _ fun σ1 R1 k1 l1 => ?_⟩
    refine b2 b e1 σ1 F H _ rr en' R1 r2 p2 _ fun σ2 R2 k2 l2 => ?_
    refine q σ2 R2 (fun j hj => ?_) (l2.trans l1)
    rw [List.mem_append, not_or] at hj
    rw [k2 j hj.2, k1 j hj.1]
def fTup (h : En → List PyData → En → Prop) : En → PyData → En → Prop := fun en d en' => ∃ ds, d = .tuple ds ∧ h en ds en'
theorem HG_tup {Z : Ctx} {ts : List Expr} {k : Nat} {pos : Pos} {vs : List Nat} {h : En → List PyData → En → Prop} {n : Nat} (h1 : HGs Z ts vs h) (hl : ∀ en ds en', h en ds en' → ds.length = n)
    (hn : ∀ i, (assignEach ts (Z.X i).env).length = n := by intro _; rfl) (hst : ∀ i, (assignEach ts (Z.X i).env).findIdx? (·.1) = none := by intro _; rfl) : HG Z (.Tuple ts k pos) vs (fTup h) := by
  obtain ⟨g1, a1, b1⟩ := h1
  refine ⟨gTup Z.K n g1, fun i => ?_, fun b en σ F H v d en' R r e Q q => ?_⟩
  · have z := pg_tup (pos := pos) (k := k) (Z.hc i) (a1 i) (hn i) (hst i)
    rw [Z.hK i] at z; exact z
  · obtain ⟨ds, ed, p⟩ := e
    subst ed
    cases r with
    | tup h1 h2 =>
      exact ⟨_, _, rfl, SqT.of (R.fh _ _ h1), by rw [h2.len]; exact hl en ds en' p, b1 b en σ F H _ ds en' R h2 p Q q⟩

/-! ### what is walked -/
/-- J yields the data ds, one by one, wherever F0 stands -/
structure ItR (g : Option Addr) (F0 : Hp) (J : It) (ds : List PyData) : Prop where
  go : ∀ k F H, Same F0 F → Same F H → k < ds.length → J.go k H
  yl : ∀ k F H x H' d, Same F0 F → Same F H → ds[k]? = some d → J.yld k H x H' → ∃ F', Grow g F H F' H' ∧ Rp F' x d
  st : ∀ k F H, Same F0 F → Same F H → ds.length ≤ k → J.stop k H
def HI (Z : Ctx) (b : Bs) (tg it : Expr) (en : En) (ds : List PyData) : Prop :=
  ∀ (σ : L2.St) (F H : Hp), Rel Z.K b en σ F H → ∀ R : It → Hp → Prop, (∀ J F' H', Rel Z.K b en σ F' H' → Grow b.g F H F' H' → ItR b.g F' J ds → R J H') → ∃ wi, (∀ i, PI (Z.X i) tg it wi) ∧ wi σ H R
/-- an iterated thing is walked as it is -/
def FoldN (Z : Ctx) (it : Expr) : Prop := ∀ i x, foldedSetIterable it (Z.X i).env x = pure x
section
variable {Z : Ctx} {bs : Bs} {en : En} {tg a b c e : Expr} {es : List Expr} {pos p : Pos} {ds : List PyData}
theorem sq_one {K : PySem.W.Frag} {F H : Hp} {l : Addr} {xs ys : List V} (h : F l = some (.lst xs)) (s : Same F H) (q : SqL K H l ys → ys[0]? = ys[0]?) : SqL K H l xs := SqL.of (s _ _ h)
theorem HI_list (h : HV Z bs a en (.list ds)) : HI Z bs tg a en ds := fun σ F H R Q q => by
  refine ⟨iList Z.K (tE Z a), fun i => ?_, ?_⟩
  · have z := pi_list (tg := tg) (pe_tE Z a i)
    rw [Z.hK i] at z; exact z
  · refine h σ F H R _ fun v d F1 H1 R1 G1 r1 ed => ?_
    subst ed
    cases r1 with
    | @lst l xs _ h1 h2 =>
      have sq : ∀ F H, Same F1 F → Same F H → SqL Z.K H l xs := fun F H s1 s2 => SqL.of (s2 _ _ (s1 _ _ h1))
      refine ⟨l, rfl, ⟨_, sq _ _ (Same.refl _) R1.fh⟩, q _ F1 H1 R1 G1 ⟨fun k F H s1 s2 hk => ?_, fun k F H x H' d s1 s2 hd y => ?_, fun k F H s1 s2 hk => ?_⟩⟩
      · exact ⟨xs, _, sq F H s1 s2, List.getElem?_eq_getElem (by rw [h2.len]; exact hk)⟩
      · obtain ⟨e1, e2⟩ := y
        subst e1
        have hx := e2 xs (sq F _ s1 s2)
        obtain ⟨d', q1, q2⟩ := h2.getV hx
        rw [hd] at q1
        cases q1
        exact ⟨F, Grow.refl s2, q2.up s1⟩
      · exact ⟨xs, sq F H s1 s2, by rw [h2.len]; exact hk⟩
def rgI (n : Nat) : List PyData := (List.range n).map fun i => PyData.int (i : Nat)
def rgI2 (lo : Int) (n : Nat) : List PyData := (List.range n).map fun i => PyData.int (lo + (i : Nat))
theorem itr_range {g : Option Addr} {F0 : Hp} {lo : Int} {n : Nat} : ItR g F0 (Itr lo n) (rgI2 lo n) := by
  have hl : (rgI2 lo n).length = n := by simp [rgI2]
  refine ⟨fun k F H _ _ hk => by rw [hl] at hk; exact hk, fun k F H x H' d _ s2 hd y => ?_, fun k F H _ _ hk => by rw [hl] at hk; exact hk⟩
  obtain ⟨e1, e2⟩ := y
  subst e1 e2
  have hk : k < n := by
    have := (List.getElem?_eq_some_iff.mp hd).1
    rwa [hl] at this
  have ed : d = PyData.int (lo + (k : Nat)) := by
    unfold rgI2 at hd
    rw [List.getElem?_map, List.getElem?_range hk] at hd
    exact (Option.some.inj hd).symm
  subst ed
  exact ⟨F, Grow.refl s2, .int _⟩
theorem HI_range1 {n : Int} (hm : Z.mg "range" = none) (ha : HV Z bs a en (.int n)) (h1 : -(2 ^ 62) ≤ n) (h2 : n < 2 ^ 62) (hg : GlS Z.sc "range" := by rfl)
    (hs : ∀ i, starEach [a] (Z.X i).env = (false, eval a (Z.X i).env) :: starEach [] (Z.X i).env := by intro _; rfl) : HI Z bs tg (.Call (.Name "range" p) [a] [] pos) en (rgI2 0 n.toNat) := fun σ F H R Q q => by
  refine ⟨iRng1 (tAr Z [a]), fun i => pi_range1 (Ctx.gl hg i) (Ctx.mgN hm i) (pa_tA Z [a] i) (hs i), ?_⟩
  refine (HA_cons ha HA_nil hs) σ F H R _ fun vs d F1 H1 R1 G1 r1 ed => ?_
  subst ed
  cases r1 with
  | cons r1 r2 =>
    cases r2; cases r1
    exact ⟨n, rfl, h1, h2, q _ F1 H1 R1 G1 itr_range⟩
theorem HI_range2 {m n : Int} (hm : Z.mg "range" = none) (ha : HV Z bs a en (.int m)) (hb : HV Z bs b en (.int n)) (h1 : -(2 ^ 62) ≤ m ∧ m < 2 ^ 62 ∧ -(2 ^ 62) ≤ n ∧ n < 2 ^ 62) (hg : GlS Z.sc "range" := by rfl)
    (hs : ∀ i, starEach [a, b] (Z.X i).env = (false, eval a (Z.X i).env) :: starEach [b] (Z.X i).env := by intro _; rfl) (hs2 : ∀ i, starEach [b] (Z.X i).env = (false, eval b (Z.X i).env) :: starEach [] (Z.X i).env := by intro _; rfl) : HI Z bs tg (.Call (.Name "range" p) [a, b] [] pos) en (rgI2 m (n - m).toNat) := fun σ F H R Q q => by
  refine ⟨iRng2 (tAr Z [a, b]), fun i => pi_range2 (Ctx.gl hg i) (Ctx.mgN hm i) (pa_tA Z [a, b] i) (by rw [hs i, hs2 i]; rfl) (by rw [hs2 i]; rfl), ?_⟩
  refine (HA_cons ha (HA_cons hb HA_nil hs2) hs) σ F H R _ fun vs d F1 H1 R1 G1 r1 ed => ?_
  subst ed
  cases r1 with
  | cons r1 r2 =>
    cases r2 with
    | cons r3 r4 =>
      cases r4; cases r1; cases r3
      exact ⟨m, n, rfl, h1, q _ F1 H1 R1 G1 itr_range⟩
theorem rgI2_nat (n : Nat) : rgI2 0 n = (List.range n).map fun i => PyData.int (i : Nat) := by
  unfold rgI2
  refine List.map_congr_left fun i _ => ?_
  rw [Int.zero_add]
theorem HI_rangeN {n : Nat} (hm : Z.mg "range" = none) (ha : HV Z bs a en (.int (n : Int))) (h2 : n ≤ 1000000) (hg : GlS Z.sc "range" := by rfl)
    (hs : ∀ i, starEach [a] (Z.X i).env = (false, eval a (Z.X i).env) :: starEach [] (Z.X i).env := by intro _; rfl) : HI Z bs tg (.Call (.Name "range" p) [a] [] pos) en ((List.range n).map fun i => PyData.int (i : Nat)) := by
  have z := HI_range1 (tg := tg) (p := p) (pos := pos) hm ha (by omega) (by omega) hg hs
  rw [Int.toNat_natCast, rgI2_nat] at z
  exact z
theorem rgI2_nat2 (m n : Nat) : rgI2 (m : Int) ((n : Int) - (m : Int)).toNat = (List.range (n - m)).map fun i => PyData.int ((m + i : Nat) : Int) := by
  unfold rgI2
  rw [show ((n : Int) - (m : Int)).toNat = n - m by omega]
  refine List.map_congr_left fun i _ => ?_
  congr 1
theorem HI_rangeNN {m n : Nat} (hm : Z.mg "range" = none) (ha : HV Z bs a en (.int (m : Int))) (hb : HV Z bs b en (.int (n : Int))) (h1 : m ≤ 1000000) (h2 : n ≤ 1000000) (hg : GlS Z.sc "range" := by rfl)
    (hs : ∀ i, starEach [a, b] (Z.X i).env = (false, eval a (Z.X i).env) :: starEach [b] (Z.X i).env := by intro _; rfl) (hs2 : ∀ i, starEach [b] (Z.X i).env = (false, eval b (Z.X i).env) :: starEach [] (Z.X i).env := by intro _; rfl) : HI Z bs tg (.Call (.Name "range" p) [a, b] [] pos) en ((List.range (n - m)).map fun i => PyData.int ((m + i : Nat) : Int)) := by
  have z := HI_range2 (tg := tg) (p := p) (pos := pos) hm ha hb ⟨by omega, by omega, by omega, by omega⟩ hg hs hs2
  rw [rgI2_nat2] at z
  exact z
def enD (ds : List PyData) : List PyData := ds.zipIdx.map fun p => PyData.tuple [.int (p.2 : Nat), p.1]
theorem HI_enum {elts : List Expr} {kk : Nat} {tpos : Pos} (hm : Z.mg "enumerate" = none) (ha : HV Z bs a en (.list ds)) (hg : GlS Z.sc "enumerate" := by rfl)
    (hs : ∀ i, starEach [a] (Z.X i).env = (false, eval a (Z.X i).env) :: starEach [] (Z.X i).env := by intro _; rfl) : HI Z bs (.Tuple elts kk tpos) (.Call (.Name "enumerate" p) [a] [] pos) en (enD ds) := fun σ F H R Q q => by
  refine ⟨iEnum Z.K (tAr Z [a]), fun i => ?_, ?_⟩
  · have z := pi_enum (elts := elts) (kk := kk) (tpos := tpos) (p := p) (pos := pos) (Ctx.gl hg i) (Ctx.mgN hm i) (pa_tA Z [a] i) (hs i)
    rw [Z.hK i] at z; exact z
  · refine (HA_cons ha HA_nil hs) σ F H R _ fun vs d F1 H1 R1 G1 r1 ed => ?_
    subst ed
    cases r1 with
    | cons r1 r2 =>
      cases r2
      cases r1 with
      | @lst l xs _ h1 h2 =>
        have sq : ∀ F H, Same F1 F → Same F H → SqL Z.K H l xs := fun F H s1 s2 => SqL.of (s2 _ _ (s1 _ _ h1))
        have hl : (enD ds).length = ds.length := by simp [enD]
        refine ⟨l, xs, rfl, sq _ _ (Same.refl _) R1.fh, q _ F1 H1 R1 G1 ⟨fun k F H s1 s2 hk => ?_, fun k F H x H' d s1 s2 hd y => ?_, fun k F H s1 s2 hk => ?_⟩⟩
        · rw [hl] at hk
          exact ⟨xs, _, sq F H s1 s2, List.getElem?_eq_getElem (by rw [h2.len]; exact hk)⟩
        · obtain ⟨T, z, e1, hT, e2, e3⟩ := y
          subst e1 e2
          have hx := e3 xs (sq F _ s1 s2)
          obtain ⟨d', q1, q2⟩ := h2.getV hx
          have ed : d = PyData.tuple [.int (k : Nat), d'] := by
            unfold enD at hd
            rw [List.getElem?_map, List.getElem?_zipIdx, q1] at hd
            have hd := (Option.some.inj hd).symm
            simpa using hd
          subst ed
          have fT : F T = none := by
            cases z : F T with
            | none => rfl
            | some u => rw [s2 T u z] at hT; cases hT
          have sm : Same F (upd F T (.tup [.int (k : Nat), z])) := fun a u h => by rw [upd_ne (ne_of_none h fT)]; exact h
          exact ⟨_, Grow.alloc s2 hT, .tup upd_same (.cons (.int _) (.cons ((q2.up s1).up sm) .nil))⟩
        · exact ⟨xs, sq F H s1 s2, by rw [h2.len]; rw [hl] at hk; exact hk⟩
def zipD (ds es : List PyData) : List PyData := (ds.zip es).map fun p => PyData.tuple [p.1, p.2]
/-- what a zip of two lists yields -/
theorem itr_zip {K : PySem.W.Frag} {g : Option Addr} {F0 : Hp} {l m : Addr} {xs ys : List V} {ds es : List PyData} (h1 : F0 l = some (.lst xs)) (h2 : Rps F0 xs ds) (h3 : F0 m = some (.lst ys)) (h4 : Rps F0 ys es) : ItR g F0 (Itz K l m) (zipD ds es) := by
  have hl : (zipD ds es).length = min ds.length es.length := by simp [zipD]
  have sq : ∀ F H, Same F0 F → Same F H → SqL K H l xs ∧ SqL K H m ys := fun F H s1 s2 => ⟨SqL.of (s2 _ _ (s1 _ _ h1)), SqL.of (s2 _ _ (s1 _ _ h3))⟩
  have l1 := h2.len
  have l2 := h4.len
  refine ⟨fun k F H s1 s2 hk => ?_, fun k F H x H' d s1 s2 hd y => ?_, fun k F H s1 s2 hk => ?_⟩
  · rw [hl] at hk
    exact ⟨xs, ys, _, _, (sq F H s1 s2).1, (sq F H s1 s2).2, List.getElem?_eq_getElem (by omega), List.getElem?_eq_getElem (by omega)⟩
  · obtain ⟨T, z, z', e1, hT, e2, e3, e4⟩ := y
    subst e1 e2
    obtain ⟨d1, q1, q2⟩ := h2.getV (e3 xs (sq F _ s1 s2).1)
    obtain ⟨d2, q3, q4⟩ := h4.getV (e4 ys (sq F _ s1 s2).2)
    have ed : d = PyData.tuple [d1, d2] := by
      unfold zipD at hd
      rw [List.getElem?_map, (List.getElem?_zip_eq_some (z := (d1, d2))).mpr ⟨q1, q3⟩] at hd
      exact (Option.some.inj hd).symm
    subst ed
    have fT : F T = none := by
      cases z : F T with
      | none => rfl
      | some u => rw [s2 T u z] at hT; cases hT
    have sm : Same F (upd F T (.tup [z, z'])) := fun a u h => by rw [upd_ne (ne_of_none h fT)]; exact h
    exact ⟨_, Grow.alloc s2 hT, .tup upd_same (.cons ((q2.up s1).up sm) (.cons ((q4.up s1).up sm) .nil))⟩
  · rw [hl] at hk
    exact ⟨xs, ys, (sq F H s1 s2).1, (sq F H s1 s2).2, by omega⟩
theorem HI_zip {es' : List PyData} {elts : List Expr} {kk : Nat} {tpos : Pos} (hm : Z.mg "zip" = none) (ha : HV Z bs a en (.list ds)) (hb : HV Z bs b en (.list es')) (hg : GlS Z.sc "zip" := by rfl)
    (hs : ∀ i, starEach [a, b] (Z.X i).env = (false, eval a (Z.X i).env) :: starEach [b] (Z.X i).env := by intro _; rfl) (hs2 : ∀ i, starEach [b] (Z.X i).env = (false, eval b (Z.X i).env) :: starEach [] (Z.X i).env := by intro _; rfl) (hpl : ∀ i, (backTo pos (starEach [b] (Z.X i).env)).any (·.1) = false := by intro _; rfl) :
    HI Z bs (.Tuple elts kk tpos) (.Call (.Name "zip" p) [a, b] [] pos) en (zipD ds es') := fun σ F H R Q q => by
  refine ⟨iZip Z.K (tAr Z [a, b]), fun i => ?_, ?_⟩
  · have z := pi_zip (elts := elts) (kk := kk) (tpos := tpos) (p := p) (pos := pos) (Ctx.gl hg i) (Ctx.mgN hm i) (pa_tA Z [a, b] i) (hs i) (hpl i)
    rw [Z.hK i] at z; exact z
  · refine (HA_cons ha (HA_cons hb HA_nil hs2) hs) σ F H R _ fun vs d F1 H1 R1 G1 r1 ed => ?_
    subst ed
    cases r1 with
    | cons r1 r2 =>
      cases r2 with
      | cons r3 r4 =>
        cases r4
        cases r1 with
        | @lst l xs _ h1 h2 =>
          cases r3 with
          | @lst m ys _ h3 h4 => exact ⟨l, m, xs, ys, rfl, SqL.of (R1.fh _ _ h1), SqL.of (R1.fh _ _ h3), q _ F1 H1 R1 G1 (itr_zip h1 h2 h3 h4)⟩
end

/-! ### comprehensions -/
section
variable {Z : Ctx} {bs : Bs} {en : En} {tg it elt : Expr} {ifs : List Expr} {scope : Scope} {pos : Pos} {own : List (Str × Nat)} {α : Type}
/-- the reading of [elt for tg in it if ..] -/
theorem lc_read {xs : List α} {c h : α → PyData} {pr : α → Bool} {f : En → PyData → En → Prop} {g : TG} {tt : TT} {vs : List Nat} {wi : TI} {σ : L2.St} {F H : Hp} {Q : VK}
    (hgr : ∀ (en : En) (σ : L2.St) (F H : Hp) (v : V) (d : PyData) (en' : En), Rel Z.K bs en σ F H → Rp F v d → f en d en' → ∀ Q : L2.St → Hp → Prop, (∀ σ', Rel Z.K bs en' σ' F H → (∀ j, j ∉ vs → σ'[j]? = σ[j]?) → σ'.length = σ.length → Q σ' H) → g v σ H Q)
    (hx : ∀ x ∈ xs, ∃ en', f (en.wipe vs) (c x) en' ∧
      (∀ σ F H, Rel Z.K bs en' σ F H → ∀ Q : Bool → Hp → Prop, (∀ k F' H', Rel Z.K bs en' σ F' H' → Grow bs.g F H F' H' → k = pr x → Q k H') → tt σ H Q) ∧
      (pr x = true → HV (Z.blk scope) bs elt en' (h x)))
    (hl : xs.length ≤ 100000)
    (hwi : ∀ R : It → Hp → Prop, (∀ J F' H', Rel Z.K bs en σ F' H' → Grow bs.g F H F' H' → ItR bs.g F' J (xs.map c) → R J H') → wi σ H R)
    (q : ∀ v d F' H', Rel Z.K bs en σ F' H' → Grow bs.g F H F' H' → Rp F' v d → d = .list ((xs.filter pr).map h) → Q v H') :
    tLc wi g tt (tE (Z.blk scope) elt) vs σ H Q := by
  refine hwi _ fun J F1 H1 R1 G1 I => ?_
  intro D hD
  have fD : F1 D = none := R1.fnone hD
  have nD : bs.g ≠ some D := R1.gnone hD
  have hlen : (xs.map c).length = xs.length := List.length_map _
  refine ⟨fun k m H => m = xs.length - k ∧ k ≤ xs.length ∧ ∃ Fk acc, Grow bs.g F1 H1 Fk H ∧ Fk D = none ∧ H D = some (.lst acc) ∧ Rps Fk acc (((xs.take k).filter pr).map h), ⟨xs.length, rfl, Nat.zero_le _, F1, [], R1.gid.mut hD fD, fD, upd_same, .nil⟩, ?_⟩
  rintro k m H2 ⟨em, hk, F2, acc, G2, fD2, hD2, ra⟩
  by_cases hlt : k < xs.length
  · refine .inr ⟨I.go k F2 H2 G2.f G2.fh (by rw [hlen]; exact hlt), fun H' => ∃ Fk acc, Grow bs.g F1 H1 Fk H' ∧ Fk D = none ∧ H' D = some (.lst acc) ∧ Rps Fk acc (((xs.take (k + 1)).filter pr).map h), fun H' ⟨Fk, acc, w⟩ => ⟨xs.length - (k + 1), by omega, rfl, hlt, Fk, acc, w⟩, fun x H3 y => ?_⟩
    have hxk : xs[k]? = some xs[k] := List.getElem?_eq_getElem hlt
    obtain ⟨F3, G3, r3⟩ := I.yl k F2 H2 x H3 (c xs[k]) G2.f G2.fh (by rw [List.getElem?_map, hxk]; rfl) y
    have R3 : Rel Z.K bs en σ F3 H3 := R1.grow (G2.trans G3)
    obtain ⟨en', p1, p2, p3⟩ := hx xs[k] (List.getElem_mem hlt)
    refine hgr _ (L2.wipe σ vs) F3 H3 x _ en' (R3.wipe vs) r3 p1 _ fun σ4 R4 k4 l4 => ⟨(wipe_same l4 k4).trans wipe_wipe, ?_⟩
    have hD3 : H3 D = some (.lst acc) := G3.h D _ hD2
    have fD3 : F3 D = none := (G3.fr D _ hD2).trans fD2
    have tk : xs.take (k + 1) = xs.take k ++ [xs[k]] := by rw [List.take_add_one, hxk]; rfl
    refine p2 σ4 F3 H3 R4 _ fun b F5 H5 R5 G5 eb => ?_
    have hD5 : H5 D = some (.lst acc) := G5.h D _ hD3
    have fD5 : F5 D = none := (G5.fr D _ hD3).trans fD3
    subst eb
    cases hb : pr xs[k] with
    | false =>
      rw [if_neg (by decide)]
      refine ⟨F5, acc, (G2.trans G3).trans G5, fD5, hD5, ?_⟩
      rw [tk, List.filter_append, show [xs[k]].filter pr = [] by simp [hb], List.append_nil]
      exact (ra.up G3.f).up G5.f
    | true =>
      rw [if_pos rfl]
      refine (p3 hb) σ4 F5 H5 R5 _ fun v d F6 H6 R6 G6 r6 ed => ?_
      subst ed
      have hD6 : H6 D = some (.lst acc) := G6.h D _ hD5
      have fD6 : F6 D = none := (G6.fr D _ hD5).trans fD5
      refine ⟨acc, hD6, ?_, F6, acc ++ [v], Grow.mut (((G2.trans G3).trans G5).trans G6) hD fD6, fD6, upd_same, ?_⟩
      · rw [ra.len, List.length_map]
        have h1 := List.length_filter_le pr (xs.take k)
        have h2 : (xs.take k).length ≤ k := by rw [List.length_take]; omega
        exact lenLt (by omega)
      · rw [tk, List.filter_append, show [xs[k]].filter pr = [xs[k]] by simp [hb], List.map_append]
        exact (((ra.up G3.f).up G5.f).up G6.f).snoc r6
  · have ek : k = xs.length := by omega
    subst ek
    refine .inl ⟨I.st _ F2 H2 G2.f G2.fh (by rw [hlen]; exact Nat.le_refl _), ?_⟩
    rw [List.take_length] at ra
    have G4 : Grow bs.g F1 H1 (upd F2 D (.lst acc)) H2 := G2.frz hD fD2 hD2
    have sm : Same F2 (upd F2 D (.lst acc)) := fun a u h => by rw [upd_ne (ne_of_none h fD2)]; exact h
    exact q _ _ _ H2 (R1.grow G4) (G1.trans G4) (.lst upd_same (ra.up sm)) rfl
theorem HE_lc {xs : List α} {c h : α → PyData} {pr : α → Bool} {f : En → PyData → En → Prop} {tt : TT} (hi : HI Z bs tg it en (xs.map c)) (ok : BlkOk Z.N Z.sc scope own) (hg : HG (Z.blk scope) tg (own.map (·.2)) f)
    (ht : ∀ j, PTs ((Z.blk scope).X j) ifs tt)
    (hx : ∀ x ∈ xs, ∃ en', f (en.wipe (own.map (·.2))) (c x) en' ∧
      (∀ σ F H, Rel Z.K bs en' σ F H → ∀ Q : Bool → Hp → Prop, (∀ k F' H', Rel Z.K bs en' σ F' H' → Grow bs.g F H F' H' → k = pr x → Q k H') → tt σ H Q) ∧
      (pr x = true → HV (Z.blk scope) bs elt en' (h x)))
    (hl : xs.length ≤ 100000) (hs : FoldN Z it) : HV Z bs (.ListComp elt [⟨tg, it, ifs, 0⟩] scope pos) en (.list ((xs.filter pr).map h)) := fun σ F H R Q q => by
  obtain ⟨g, a1, b1⟩ := hg
  refine ⟨tLc (fun σ' H' R' => ∃ wi, (∀ i, PI (Z.X i) tg it wi) ∧ wi σ' H' R') g tt (tE (Z.blk scope) elt) (own.map (·.2)), fun i => ?_, ?_⟩
  · refine pe_lc (Z.hc i) (by rw [Z.hN]; exact Z.nd) ⟨fun pins s σ H R I ⟨wi, h1, h2⟩ => (h1 i).run pins s σ H R I h2⟩ (by rw [Z.hN, Z.hs]; exact ok) (fun s H C cl fp => a1 (i, s, H, C, cl, fp)) (fun s H C cl fp => ht (i, s, H, C, cl, fp)) (fun s H C cl fp => pe_tE (Z.blk scope) elt (i, s, H, C, cl, fp)) (hs i)
  · exact lc_read (fun en σ F H v d en' => b1 bs en σ F H v d en') hx hl (fun R' k => hi σ F H R R' k) q
theorem tt_yes {en' : En} {pv : Bool} (hp : pv = true) : ∀ σ F H, Rel Z.K bs en' σ F H → ∀ Q : Bool → Hp → Prop, (∀ k F' H', Rel Z.K bs en' σ F' H' → Grow bs.g F H F' H' → k = pv → Q k H') → tYes σ H Q := fun σ F H R Q q => q true F H R R.gid hp.symm
theorem tt_one {en' : En} {t : Expr} {k : Bool} (h : HC (Z.blk scope) bs t en' fun z => z = k) : ∀ σ F H, Rel Z.K bs en' σ F H → ∀ Q : Bool → Hp → Prop, (∀ z F' H', Rel Z.K bs en' σ F' H' → Grow bs.g F H F' H' → z = k → Q z H') → tT (Z.blk scope) t σ H Q := fun σ F H R Q q => h σ F H R Q q
/-- without a test -/
theorem HV_lc {xs : List α} {c h : α → PyData} {f : En → PyData → En → Prop} (hi : HI Z bs tg it en (xs.map c)) (ok : BlkOk Z.N Z.sc scope own) (hg : HG (Z.blk scope) tg (own.map (·.2)) f)
    (hx : ∀ x ∈ xs, ∃ en', f (en.wipe (own.map (·.2))) (c x) en' ∧ HV (Z.blk scope) bs elt en' (h x)) (hl : xs.length ≤ 100000) (hs : FoldN Z it := by intro _ _; rfl) : HV Z bs (.ListComp elt [⟨tg, it, [], 0⟩] scope pos) en (.list (xs.map h)) := by
  have z := HE_lc (pos := pos) (pr := fun _ => true) hi ok hg (fun j => pts_nil) (fun x hm => by
    obtain ⟨en', a, b⟩ := hx x hm
    exact ⟨en', a, tt_yes rfl, fun _ => b⟩) hl hs
  rwa [List.filter_eq_self.mpr (fun _ _ => rfl)] at z
/-- with a test -/
theorem HV_lcIf {t : Expr} {xs : List α} {c h : α → PyData} {pr : α → Bool} {f : En → PyData → En → Prop} (hi : HI Z bs tg it en (xs.map c)) (ok : BlkOk Z.N Z.sc scope own) (hg : HG (Z.blk scope) tg (own.map (·.2)) f)
    (hx : ∀ x ∈ xs, ∃ en', f (en.wipe (own.map (·.2))) (c x) en' ∧ HC (Z.blk scope) bs t en' (fun z => z = pr x) ∧ (pr x = true → HV (Z.blk scope) bs elt en' (h x))) (hl : xs.length ≤ 100000) (hs : FoldN Z it := by intro _ _; rfl) : HV Z bs (.ListComp elt [⟨tg, it, [t], 0⟩] scope pos) en (.list ((xs.filter pr).map h)) :=
  HE_lc hi ok hg (fun j => pts_one (pt_tT (Z.blk scope) t j)) (fun x hm => by
    obtain ⟨en', a, b, d⟩ := hx x hm
    exact ⟨en', a, tt_one b, d⟩) hl hs
end

/-! ### calls of defs -/
/-- a def's promise by a predicate transformer over data -/
def spF (n : Nat) (W : List PyData → (PyData → Prop) → Prop) : Sp := fun vs H Q _ => ∃ F ds P, Same F H ∧ Rps F vs ds ∧ ds.length = n ∧ W ds P ∧ ∀ v d F' H', Grow none F H F' H' → Rp F' v d → P d → Q v H'
/-- what one leaves that draws at most up to n -/
structure GrowG (g : Addr) (n : Nat) (F H F' H' : Hp) : Prop where
  f : Same F F'
  fh : Same F' H'
  h : ∀ a o, a ≠ g → H a = some o → H' a = some o
  fr : ∀ a o, H a = some o → F' a = F a
  gn : Gen n H' g
/-- .. of one that draws at most c times: the generator comes first -/
def spG (n c : Nat) (W : List PyData → (PyData → Prop) → Prop) : Sp := fun vs H Q _ => ∃ F g ws ds P m, vs = .ref g :: ws ∧ Same F H ∧ F g = none ∧ Gen m H g ∧ m + c ≤ 900000000 ∧ Rps F ws ds ∧ ds.length = n ∧ W ds P ∧ ∀ v d F' H', GrowG g (m + c) F H F' H' → Rp F' v d → P d → Q v H'
/-- a def that is known -/
def Kn (P : Program) (w : World) (K : PySem.W.Frag) (mg : Str → Option Value) (base : Heap) (x : Str) (k : Nat) (sp : Sp) : Prop :=
  ∃ f fd ps, FnOk P w K mg base CX0 k f fd ps sp ∧ mg x = some (.ref f) ∧ PySem.W.keepIn K (.ref f) = true ∧ Binds K fd ps []
theorem Grow.any {g g' : Option Addr} {F H F' H' : Hp} (G : Grow g F H F' H') : Grow g' F H F' H' := ⟨G.f, G.fh, G.h, G.fr⟩
section
variable {Z : Ctx} {bs : Bs} {en : En} {e : Expr} {es : List Expr} {pos p : Pos} {ds : List PyData} {P : PyData → Prop}
theorem HE_call {x : Str} {k n : Nat} {W : List PyData → (PyData → Prop) → Prop} (kn : Kn Z.P Z.w Z.K Z.mg Z.base x k (spF n W)) (hr : Room k Z.A) (ha : HAv Z bs (e :: es) en ds) (hn : ds.length = n) (w : W ds P)
    (hg : GlS Z.sc x := by rfl) (hdb : (x == ("__debug__" : Str)) = false := by decide) (he : ∀ i, starEach (e :: es) (Z.X i).env = (false, eval e (Z.X i).env) :: starEach es (Z.X i).env := by intro _; rfl) (hpl : ∀ i, (backTo pos (starEach es (Z.X i).env)).any (·.1) = false := by intro _; rfl) :
    HE Z bs (.Call (.Name x p) (e :: es) [] pos) en P := fun σ F H R Q q => by
  obtain ⟨f, fd, ps, ok, hm, hk, hb⟩ := kn
  refine ⟨tCall (spF n W) [] E0 (tAr Z (e :: es)), fun i => ?_, ?_⟩
  · refine pe_call (fd := fd) (ps := ps) (k := k) (f := f) (CX := CX0) ?_ ?_ (Ctx.gl hg i) (Ctx.mgS hm i) ?_ ?_ .nil pass0 (pa_tA Z _ i) hdb (he i) (hpl i)
    · rw [Z.hP, Z.hw, Z.hK, Z.hm, Z.hb]; exact ok
    · rw [Z.hA]; exact hr
    · rw [Z.hK]; exact hk
    · rw [Z.hK]; exact hb
  · refine ha σ F H R _ fun vs d F1 H1 R1 G1 r1 ed => ?_
    subst ed
    refine ⟨F1, d, P, R1.fh, by rw [List.append_nil]; exact r1, hn, w, fun v d F2 H2 G2 r2 p2 => ?_⟩
    have G3 : Grow bs.g F1 H1 F2 H2 := G2.any
    exact q v d F2 H2 (R1.grow G3) (G1.trans G3) r2 p2
/-- self.f -/
theorem HV_fld {i : Nat} {x f : Str} {p1 p2 : Pos} {d : PyData} {o : Ob} (ho : bs.o = some o) (hcl : Cls Z.K o.C) (hna : NoAttr Z.K o.C f) (h : en.sl[i]? = some .slf) (hf : en.fs.lookup f = some d) (hN : Z.N[i]? = some x := by rfl)
    (hv : Vis Z.sc x := by first | exact Or.inl rfl | exact Or.inr (Or.inl rfl) | exact Or.inr (Or.inr rfl)) (hd : (x == ("__debug__" : Str)) = false := by decide) (hcd : (x == ("__classdict__" : Str)) = false := by decide)
    (hb : ∀ i, attributeBase (.Name x p1) f (Z.X i).env (eval (.Name x p1) (Z.X i).env) = eval (.Name x p1) (Z.X i).env := by intro _; rfl) : HV Z bs (.Attribute (.Name x p1) f p2) en d := fun σ F H R Q q => by
  obtain ⟨o', e1, e2⟩ := R.sl i _ h
  rw [ho] at e1; cases e1
  obtain ⟨vs, h1, h2, h4, h5⟩ := R.ob o ho
  obtain ⟨v, e3, e4⟩ := h4 f d hf
  refine ⟨tFld Z.K (tVar i) f, fun j => ?_, ⟨_, e2, o.p, o.C, o.dx, vs, v, rfl, h1, hcl, hna, e3, q v d F H R R.gid e4 rfl⟩⟩
  have z := pe_fld (pos := p2) (pe_var (X := Z.X j) (Ctx.nth hN j) (Ctx.vis hv j) hd hcd) (hb j)
  rw [Z.hK j] at z; exact z
end
end WS
set_option Elab.async false
set_option linter.all false
set_option maxRecDepth 100000
set_option maxHeartbeats 4000000
set_option autoImplicit false
namespace WS
open PySem PySem.Spec PyProof.Rows L2

/-- what is wanted behind statements: of the names, of the returned data -/
structure DE where
  nx : En → Prop
  rt : En → PyData → Prop
def HT (Z : Ctx) (b : Bs) (ts : List Stmt) (en : En) (Φ : DE) : Prop :=
  ∀ (σ : L2.St) (F H : Hp), Rel Z.K b en σ F H → ∀ D : Ends, (∀ en' σ' F' H', Rel Z.K b en' σ' F' H' → Same F F' → Φ.nx en' → D.nx σ' H') → (∀ en' σ' v d F' H', Rel Z.K b en' σ' F' H' → Rp F' v d → Φ.rt en' d → D.rt v H') →
    ∃ t, (∀ i, PSs (Z.X i) ts t) ∧ t D σ H
def HS (Z : Ctx) (b : Bs) (st : Stmt) (en : En) (Φ : DE) : Prop :=
  ∀ (σ : L2.St) (F H : Hp), Rel Z.K b en σ F H → ∀ D : Ends, (∀ en' σ' F' H', Rel Z.K b en' σ' F' H' → Same F F' → Φ.nx en' → D.nx σ' H') → (∀ en' σ' v d F' H', Rel Z.K b en' σ' F' H' → Rp F' v d → Φ.rt en' d → D.rt v H') →
    ∃ t, (∀ i, PS (Z.X i) st t) ∧ t D σ H
def tSs (Z : Ctx) (ts : List Stmt) : TS := fun D σ H => ∃ t, (∀ i, PSs (Z.X i) ts t) ∧ t D σ H
theorem pss_tS (Z : Ctx) (ts : List Stmt) (i : Z.T) : PSs (Z.X i) ts (tSs Z ts) := ⟨fun pins s σ H D I ⟨t, h, q⟩ => (h i).run pins s σ H D I q⟩
def tS1 (Z : Ctx) (st : Stmt) : TS := fun D σ H => ∃ t, (∀ i, PS (Z.X i) st t) ∧ t D σ H
theorem ps_tS (Z : Ctx) (st : Stmt) (i : Z.T) : PS (Z.X i) st (tS1 Z st) := ⟨fun pins s σ H D I ⟨t, h, q⟩ => (h i).run pins s σ H D I q⟩

section
variable {Z : Ctx} {bs : Bs} {en : En} {st : Stmt} {rest : List Stmt} {e a c : Expr} {pos : Pos} {Φ : DE} {P : PyData → Prop}
theorem HT_nil (h : Φ.nx en) : HT Z bs [] en Φ := fun σ F H R D q r => ⟨tNext, fun _ => pss_nil, q en σ F H R (Same.refl F) h⟩
theorem HT_cons (h : HS Z bs st en ⟨fun en' => HT Z bs rest en' Φ, Φ.rt⟩) : HT Z bs (st :: rest) en Φ := fun σ F H R D q r =>
  ⟨tSeq (tS1 Z st) (tSs Z rest), fun i => pss_cons (ps_tS Z st i) (pss_tS Z rest i), h σ F H R { D with nx := tSs Z rest D } (fun en' σ' F' H' R' s p => p σ' F' H' R' D (fun en2 σ2 F2 H2 R2 s2 p2 => q en2 σ2 F2 H2 R2 (s.trans s2) p2) r) r⟩
theorem HT_one (h : HS Z bs st en Φ) : HT Z bs [st] en Φ := fun σ F H R D q r => ⟨tS1 Z st, fun i => pss_one (ps_tS Z st i), h σ F H R D q r⟩
theorem HT_imp {ts : List Stmt} {Ψ : DE} (h : HT Z bs ts en Ψ) (h1 : ∀ en', Ψ.nx en' → Φ.nx en') (h2 : ∀ en' d, Ψ.rt en' d → Φ.rt en' d) : HT Z bs ts en Φ := fun σ F H R D q r =>
  h σ F H R D (fun en' σ' F' H' R' s p => q en' σ' F' H' R' s (h1 _ p)) fun en' σ' v d F' H' R' rp p => r en' σ' v d F' H' R' rp (h2 _ _ p)
theorem HS_never (h : False) : HS Z bs st en Φ := h.elim
theorem HT_never {ts : List Stmt} (h : False) : HT Z bs ts en Φ := h.elim
theorem HS_pass : Φ.nx en → HS Z bs (.Pass pos) en Φ := fun h σ F H R D q r => ⟨tNext, fun _ => ps_pass, q en σ F H R (Same.refl F) h⟩

/-! ### stores -/
theorem HS_set {i : Nat} {x : Str} {px : Pos} (h : HE Z bs e en P) (k : ∀ d, P d → Φ.nx (en.set i (.dat d))) (hi : Z.N[i]? = some x := by rfl) (hx : LocS Z.sc x := by first | exact Or.inl rfl | exact Or.inr rfl)
    (hf : StoS Z x := by first | exact fun _ => Or.inl rfl | exact fun _ => Or.inr rfl) (hs : ∀ j, swapsWith e (some (.Name x px)) pos.line (Z.X j).env = pure false := by intro _; rfl) : HS Z bs (.Assign [.Name x px] e pos) en Φ := fun σ F H R D q r =>
  ⟨tAsg (tE Z e) (gName i), fun j => ps_set (by rw [Z.hN]; exact Z.nd) (Ctx.nth hi j) (Ctx.loc hx j) (pe_tE Z e j) (hs j) (hf j), h σ F H R _ fun v d F' H' R' G r' p => q _ _ F' H' (R'.setD r') G.f (k d p)⟩
theorem HS_setV {i : Nat} {x : Str} {px : Pos} {d : PyData} (h : HV Z bs e en d) (k : Φ.nx (en.set i (.dat d))) (hi : Z.N[i]? = some x := by rfl) (hx : LocS Z.sc x := by first | exact Or.inl rfl | exact Or.inr rfl)
    (hf : StoS Z x := by first | exact fun _ => Or.inl rfl | exact fun _ => Or.inr rfl) (hs : ∀ j, swapsWith e (some (.Name x px)) pos.line (Z.X j).env = pure false := by intro _; rfl) : HS Z bs (.Assign [.Name x px] e pos) en Φ := HS_set h (fun d' e => by subst e; exact k) hi hx hf hs
/-- any target -/
theorem HS_asg {tg : Expr} {vs : List Nat} {f : En → PyData → En → Prop} (h : HE Z bs e en P) (hg : HG Z tg vs f) (k : ∀ d, P d → ∃ en', f en d en' ∧ Φ.nx en')
    (hs : ∀ j, swapsWithSole [tg] e pos.line (Z.X j).env = pure false := by intro _; rfl) (hw : ∀ j, swappedStores [tg] e (Z.X j).env = pure none := by intro _; rfl) (h1 : ∀ j, (assignEach [tg] (Z.X j).env).map (·.2) = [assign tg (Z.X j).env] := by intro _; rfl) : HS Z bs (.Assign [tg] e pos) en Φ := fun σ F H R D q r => by
  obtain ⟨g, a1, b1⟩ := hg
  refine ⟨tAsg (tE Z e) g, fun j => ps_asg (pe_tE Z e j) (a1 j) (hs j) (hw j) (h1 j), h σ F H R _ fun v d F' H' R' G r' p => ?_⟩
  obtain ⟨en', p1, p2⟩ := k d p
  exact b1 bs en σ F' H' v d en' R' r' p1 _ fun σ' R2 _ _ => q en' σ' F' H' R2 G.f p2
/-- a, b = x, y with plain local names -/
theorem HS_par {i j : Nat} {x y : Str} {a b : Expr} {px py pt : Pos} {kt k2 : Nat} {pt2 : Pos} {d1 d2 : PyData} (h : HAv Z bs [a, b] en [d1, d2]) (k : Φ.nx ((en.set i (.dat d1)).set j (.dat d2)))
    (hi : Z.N[i]? = some x := by rfl) (hj : Z.N[j]? = some y := by rfl) (hij : i ≠ j := by decide) (hx : Z.sc.names.lookup x = some .local := by rfl) (hy : Z.sc.names.lookup y = some .local := by rfl)
    (hw : ∀ t, swappedStores [.Tuple [.Name x px, .Name y py] kt pt] (.Tuple [a, b] k2 pt2) (Z.X t).env = pure (some [x, y]) := by intro _; rfl) (hs : ∀ t, swapsWithSole [.Tuple [.Name x px, .Name y py] kt pt] (.Tuple [a, b] k2 pt2) pos.line (Z.X t).env = pure false := by intro _; rfl) :
    HS Z bs (.Assign [.Tuple [.Name x px, .Name y py] kt pt] (.Tuple [a, b] k2 pt2) pos) en Φ := fun σ F H R D q r => by
  refine ⟨tPar i j (tAr Z [a, b]), fun t => ps_par (Z.hc t) (by rw [Z.hN]; exact Z.nd) (Ctx.nth hi t) (Ctx.nth hj t) hij (by rw [Z.hs]; exact hx) (by rw [Z.hs]; exact hy) (pa_tA Z _ t) (hw t) (hs t), h σ F H R _ fun vs d F' H' R' G r' ed => ?_⟩
  subst ed
  cases r' with
  | cons r1 r2 =>
    cases r2 with
    | cons r3 r4 =>
      cases r4
      exact ⟨_, _, rfl, q _ _ F' H' ((R'.setD r1).setD r3) G.f k⟩
theorem HS_par3 {i j l : Nat} {x y z : Str} {a b c : Expr} {px py pz pt : Pos} {kt k2 : Nat} {pt2 : Pos} {P : List PyData → Prop} (h : HA Z bs [a, b, c] en P) (k : ∀ ds, P ds → ∃ d1 d2 d3, ds = [d1, d2, d3] ∧ Φ.nx (((en.set i (.dat d1)).set j (.dat d2)).set l (.dat d3)))
    (hi : Z.N[i]? = some x := by rfl) (hj : Z.N[j]? = some y := by rfl) (hl : Z.N[l]? = some z := by rfl) (hij : i ≠ j := by decide) (hil : i ≠ l := by decide) (hjl : j ≠ l := by decide) (hx : Z.sc.names.lookup x = some .local := by rfl) (hy : Z.sc.names.lookup y = some .local := by rfl) (hz : Z.sc.names.lookup z = some .local := by rfl)
    (hw : ∀ t, swappedStores [.Tuple [.Name x px, .Name y py, .Name z pz] kt pt] (.Tuple [a, b, c] k2 pt2) (Z.X t).env = pure (some [x, y, z]) := by intro _; rfl) (hs : ∀ t, swapsWithSole [.Tuple [.Name x px, .Name y py, .Name z pz] kt pt] (.Tuple [a, b, c] k2 pt2) pos.line (Z.X t).env = pure false := by intro _; rfl) :
    HS Z bs (.Assign [.Tuple [.Name x px, .Name y py, .Name z pz] kt pt] (.Tuple [a, b, c] k2 pt2) pos) en Φ := fun σ F H R D q r => by
  refine ⟨tPar3 i j l (tAr Z [a, b, c]), fun t => ps_par3 (Z.hc t) (by rw [Z.hN]; exact Z.nd) (Ctx.nth hi t) (Ctx.nth hj t) (Ctx.nth hl t) hij hil hjl (by rw [Z.hs]; exact hx) (by rw [Z.hs]; exact hy) (by rw [Z.hs]; exact hz) (pa_tA Z _ t) (hw t) (hs t), h σ F H R _ fun vs d F' H' R' G r' ed => ?_⟩
  obtain ⟨d1, d2, d3, e1, kk⟩ := k d ed
  subst e1
  cases r' with
  | cons r1 r2 =>
    cases r2 with
    | cons r3 r4 =>
      cases r4 with
      | cons r5 r6 =>
        cases r6
        exact ⟨_, _, _, rfl, q _ _ F' H' (((R'.setD r1).setD r3).setD r5) G.f kk⟩
/-- y = [..] on one line -/
theorem HS_setLc {i : Nat} {y : Str} {py : Pos} {tg it elt : Expr} {ifs : List Expr} {scope : Scope} {own : List (Str × Nat)} {pos spos : Pos} {α : Type} {xs : List α} {c h : α → PyData} {pr : α → Bool} {f : En → PyData → En → Prop} {tt : TT}
    (hi : HI Z bs tg it en (xs.map c)) (ok : BlkOk Z.N Z.sc scope own) (hg : HG (Z.blk scope) tg (own.map (·.2)) f) (ht : ∀ j, PTs ((Z.blk scope).X j) ifs tt)
    (hx : ∀ x ∈ xs, ∃ en', f (en.wipe (own.map (·.2))) (c x) en' ∧
      (∀ σ F H, Rel Z.K bs en' σ F H → ∀ Q : Bool → Hp → Prop, (∀ k F' H', Rel Z.K bs en' σ F' H' → Grow bs.g F H F' H' → k = pr x → Q k H') → tt σ H Q) ∧
      (pr x = true → HV (Z.blk scope) bs elt en' (h x)))
    (hl : xs.length ≤ 100000) (k : Φ.nx (en.set i (.dat (.list ((xs.filter pr).map h)))))
    (hy : Z.N[i]? = some y := by rfl) (hyl : Z.sc.names.lookup y = some .local := by rfl) (hln : (py.line == pos.line) = true := by rfl) (hkd : Z.sc.kind = .function := by rfl) (ha : (scope.names.any fun (n, k) => n == y && (k == .local || k == .cell)) = false := by decide +kernel) (hs : FoldN Z it := by intro _ _; rfl) :
    HS Z bs (.Assign [.Name y py] (.ListComp elt [⟨tg, it, ifs, 0⟩] scope pos) spos) en Φ := fun σ F H R D q r => by
  obtain ⟨g, a1, b1⟩ := hg
  refine ⟨tAsg (tLc (fun σ' H' R' => ∃ wi, (∀ i, PI (Z.X i) tg it wi) ∧ wi σ' H' R') g tt (tE (Z.blk scope) elt) (own.map (·.2))) (gName i), fun t => ?_, ?_⟩
  · exact ps_setLc (Z.hc t) (by rw [Z.hN]; exact Z.nd) (Ctx.nth hy t) (by rw [Z.hs]; exact hyl) (sw_true (by rw [Z.hs]; exact hkd) (by rw [Z.hs]; exact hyl) hln ha) ⟨fun pins s σ H R I ⟨wi, h1, h2⟩ => (h1 t).run pins s σ H R I h2⟩ (by rw [Z.hN, Z.hs]; exact ok) (fun s H C cl fp => a1 (t, s, H, C, cl, fp)) (fun s H C cl fp => ht (t, s, H, C, cl, fp)) (fun s H C cl fp => pe_tE (Z.blk scope) elt (t, s, H, C, cl, fp)) (hs t)
  · exact lc_read (fun en σ F H v d en' => b1 bs en σ F H v d en') hx hl (fun R' k => hi σ F H R R' k) (fun v d F' H' R' G r' ed => by subst ed; exact q _ _ F' H' (R'.setD r') G.f k)

/-! ### tests, ends -/
theorem HS_if {ta tb : List Stmt} (h : HC Z bs c en fun k => if k = true then HT Z bs ta en Φ else HT Z bs tb en Φ) : HS Z bs (.If c ta tb pos) en Φ := fun σ F H R D q r => by
  refine ⟨tIfS (tT Z c) (tSs Z ta) (tSs Z tb), fun i => ps_if (pt_tT Z c i) (pss_tS Z ta i) (pss_tS Z tb i), h σ F H R _ fun k F' H' R' G p => ?_⟩
  cases k with
  | true => exact p σ F' H' R' D (fun en2 σ2 F2 H2 R2 s2 p2 => q en2 σ2 F2 H2 R2 (G.f.trans s2) p2) r
  | false => exact p σ F' H' R' D (fun en2 σ2 F2 H2 R2 s2 p2 => q en2 σ2 F2 H2 R2 (G.f.trans s2) p2) r
theorem HS_ret (h : HE Z bs e en P) (k : ∀ d, P d → Φ.rt en d) : HS Z bs (.Return (some e) pos) en Φ := fun σ F H R D q r =>
  ⟨tRet (tE Z e), fun i => ps_ret (pe_tE Z e i), h σ F H R _ fun v d F' H' R' G r' p => r en σ v d F' H' R' r' (k d p)⟩
theorem HS_retV {d : PyData} (h : HV Z bs e en d) (k : Φ.rt en d) : HS Z bs (.Return (some e) pos) en Φ := HS_ret h fun d' e => by subst e; exact k
theorem HS_drop (h : HE Z bs e en P) (k : ∀ d, P d → Φ.nx en) (hs : ∀ j, swapsWith e none pos.line (Z.X j).env = pure false := by intro _; rfl) : HS Z bs (.Expr e pos) en Φ := fun σ F H R D q r =>
  ⟨tDrop (tE Z e), fun i => ps_expr (pe_tE Z e i) (hs i), h σ F H R _ fun v d F' H' R' G r' p => q en σ F' H' R' G.f (k d p)⟩

/-! ### loops -/
theorem HS_for {tg it : Expr} {body : List Stmt} {ds : List PyData} {vs : List Nat} {f : En → PyData → En → Prop} (hi : HI Z bs tg it en ds) (hg : HG Z tg vs f) (I : Nat → En → Prop) (h0 : I 0 en)
    (hb : ∀ k d en1, ds[k]? = some d → I k en1 → ∃ en2, f en1 d en2 ∧ HT Z bs body en2 ⟨I (k + 1), Φ.rt⟩) (hd : ∀ en1, I ds.length en1 → Φ.nx en1)
    (hp : ∀ i, PassesOwn (model (Z.X i).prog (Z.X i).w) (Z.X i).A (Z.X i).env (Z.X i).xe := by intro _; exact PassesOwn.never) (hs : FoldN Z it := by intro _ _; rfl) : HS Z bs (.For tg it body [] pos) en Φ := fun σ F H R D q r => by
  obtain ⟨g, a1, b1⟩ := hg
  refine ⟨tFor (fun σ' H' R' => ∃ wi, (∀ i, PI (Z.X i) tg it wi) ∧ wi σ' H' R') g (tSs Z body), fun i => ps_for (hp i) (Z.hc i) ⟨fun pins s σ H R I ⟨wi, h1, h2⟩ => (h1 i).run pins s σ H R I h2⟩ (a1 i) (pss_tS Z body i) (hs i), ?_⟩
  refine hi σ F H R _ fun J F1 H1 R1 G1 It => ?_
  refine ⟨fun k m σ H => m = ds.length - k ∧ k ≤ ds.length ∧ ∃ en1 Fk, Rel Z.K bs en1 σ Fk H ∧ Same F1 Fk ∧ I k en1, ⟨ds.length, rfl, Nat.zero_le _, en, F1, R1, Same.refl _, h0⟩, ?_⟩
  rintro k m σ2 H2 ⟨em, hk, en1, F2, R2, s2, i2⟩
  by_cases hlt : k < ds.length
  · refine .inr ⟨It.go k F2 H2 s2 R2.fh hlt, fun σ' H' => ∃ en1 Fk, Rel Z.K bs en1 σ' Fk H' ∧ Same F1 Fk ∧ I (k + 1) en1, fun σ' H' w => ⟨ds.length - (k + 1), by omega, rfl, hlt, w⟩, fun x H3 y => ?_⟩
    have hxk : ds[k]? = some ds[k] := List.getElem?_eq_getElem hlt
    obtain ⟨F3, G3, r3⟩ := It.yl k F2 H2 x H3 _ s2 R2.fh hxk y
    obtain ⟨en2, p1, p2⟩ := hb k _ en1 hxk i2
    have R3 : Rel Z.K bs en1 σ2 F3 H3 := R2.grow G3
    refine b1 bs en1 σ2 F3 H3 x _ en2 R3 r3 p1 _ fun σ4 R4 _ _ => ?_
    refine p2 σ4 F3 H3 R4 _ (fun en5 σ5 F5 H5 R5 s5 p5 => ⟨en5, F5, R5, (s2.trans G3.f).trans s5, p5⟩) r
  · have e : k = ds.length := by omega
    subst e
    exact .inl ⟨It.st _ F2 H2 s2 R2.fh (Nat.le_refl _), q en1 σ2 F2 H2 R2 (G1.f.trans s2) (hd en1 i2)⟩
theorem HS_while {body : List Stmt} (I : En → Prop) (μ : En → Nat) (h0 : I en) (hb : ∀ en1, I en1 → HC Z bs c en1 fun k => if k = true then HT Z bs body en1 ⟨fun en2 => I en2 ∧ μ en2 < μ en1, Φ.rt⟩ else Φ.nx en1)
    (hp : ∀ i, PassesOwn (model (Z.X i).prog (Z.X i).w) (Z.X i).A (Z.X i).env (Z.X i).xe := by intro _; exact PassesOwn.never) : HS Z bs (.While c body [] pos) en Φ := fun σ F H R D q r => by
  refine ⟨tWhile (tT Z c) (tSs Z body), fun i => ps_while (hp i) (pt_tT Z c i) (pss_tS Z body i), ?_⟩
  refine ⟨fun m σ1 H1 => ∃ en1 F1, Rel Z.K bs en1 σ1 F1 H1 ∧ Same F F1 ∧ I en1 ∧ m = μ en1, ⟨_, en, F, R, Same.refl F, h0, rfl⟩, ?_⟩
  rintro m σ1 H1 ⟨en1, F1, R1, s1, i1, em⟩
  refine hb en1 i1 σ1 F1 H1 R1 _ fun k F2 H2 R2 G2 p => ?_
  cases k with
  | true =>
    refine ⟨fun σ' H' => ∃ en2 F', Rel Z.K bs en2 σ' F' H' ∧ Same F F' ∧ I en2 ∧ μ en2 < m, fun σ' H' ⟨en2, F', a1, a2, a3, a4⟩ => ⟨μ en2, a4, en2, F', a1, a2, a3, rfl⟩, ?_⟩
    refine p σ1 F2 H2 R2 _ (fun en3 σ3 F3 H3 R3 s3 p3 => ⟨en3, F3, R3, (s1.trans G2.f).trans s3, p3.1, by rw [em]; exact p3.2⟩) r
  | false => exact q en1 σ1 F2 H2 R2 (s1.trans G2.f) p

end
/-! ### a list of one's own -/
def En.own (en : En) (w : Own) : En := { en with ow := w }
section
variable {K : PySem.W.Frag} {b : Bs} {en : En} {σ : L2.St} {F H : Hp}
theorem Rel.m_in (R : Rel K b en σ F H) {a : Addr} (h : b.M a) : ∃ o, H a = some o := by
  rcases h with e | ⟨o, e, z⟩
  · obtain ⟨x, y, w, q, _⟩ := R.gn a e
    exact ⟨_, q⟩
  · exact (R.ob o e).mem z
theorem Rel.h0none (R : Rel K b en σ F H) {p : Addr} (hp : H p = none) : b.H0 p = none := by
  cases q : b.H0 p with
  | none => rfl
  | some u =>
    by_cases m : b.M p
    · obtain ⟨o, e⟩ := R.m_in m
      rw [hp] at e; cases e
    · rw [R.hh p u q m] at hp; cases hp
/-- the thing of one's own is another: all else stands -/
theorem Rel.ownTo (R : Rel K b en σ F H) {H' : Hp} {w : Own} (fh : Same F H') (keep : ∀ a o, b.H0 a = some o → H a = some o → H' a = some o) (keepM : ∀ a o, b.M a → H a = some o → H' a = some o) (hw : OwR b F H' w)
    (no : ∀ i : Nat, en.sl[i]? ≠ some Ent.own) : Rel K b (en.own w) σ F H' := by
  refine ⟨R.bo, R.ff, fh, fun a o h n => keep a o h (R.hh a o h n), R.fr, fun g hg => ?_, fun o ho => ?_, R.ln, fun i e h => ?_, hw⟩
  · obtain ⟨x, y, z, q, r⟩ := R.gn g hg
    exact ⟨x, y, z, keepM g _ (.inl hg) q, r⟩
  · exact (R.ob o ho).keep (Same.refl F) (fun u q => keepM _ _ (.inr ⟨o, ho, .inl rfl⟩) q) (fun l u hl q => keepM _ _ (.inr ⟨o, ho, .inr hl⟩) q)
  · have z := R.sl i e h
    cases e with
    | own => exact absurd h (no i)
    | _ => exact z
def noOwn : List Ent → Bool
  | [] => true
  | .own :: _ => false
  | _ :: r => noOwn r
theorem noOwn_at : ∀ {l : List Ent}, noOwn l = true → ∀ i : Nat, l[i]? ≠ some Ent.own
  | [], _, i => by simp
  | e :: r, h, i => by
    cases i with
    | zero =>
      intro q
      have q : e = .own := by simpa using q
      subst q
      cases h
    | succ i =>
      have hr : noOwn r = true := by cases e <;> first | exact h | cases h
      simpa using noOwn_at hr i
/-- a new list of one's own -/
theorem Rel.newOwn (R : Rel K b en σ F H) {p : Addr} {xs : List V} {ds : List PyData} (no : noOwn en.sl = true) (hp : H p = none) (hx : Rps F xs ds) : Rel K b (en.own (.lst p ds)) σ F (upd H p (.lst xs)) :=
  R.ownTo (fun a u h => by rw [upd_ne (ne_of_none h (R.fnone hp))]; exact R.fh a u h) (fun a o _ h => by rw [upd_ne (ne_of_none h hp)]; exact h) (fun a o _ h => by rw [upd_ne (ne_of_none h hp)]; exact h) ⟨R.h0none hp, R.fnone hp, xs, upd_same, hx⟩ (noOwn_at no)
/-- its content changes -/
theorem Rel.ownMut (R : Rel K b en σ F H) {a : Addr} {ds ds' : List PyData} {xs : List V} (hw : en.ow = .lst a ds) (hx : Rps F xs ds') : Rel K b (en.own (.lst a ds')) σ F (upd H a (.lst xs)) := by
  have q := R.ow
  rw [hw] at q
  obtain ⟨q1, q2, ys, q3, q4⟩ := q
  have nM : ¬ b.M a := R.own_ne q1
  refine ⟨R.bo, R.ff, fun c u h => by rw [upd_ne (ne_of_none h q2)]; exact R.fh c u h, fun c o h n => by rw [upd_ne (ne_of_none h q1)]; exact R.hh c o h n, R.fr, fun g hg => ?_, fun o ho => ?_, R.ln, fun i e h => ?_, ⟨q1, q2, xs, upd_same, hx⟩⟩
  · obtain ⟨x, y, z, w, r⟩ := R.gn g hg
    exact ⟨x, y, z, by rw [upd_ne (show g ≠ a from fun e => nM (.inl (by rw [← e]; exact hg)))]; exact w, r⟩
  · exact (R.ob o ho).keep (Same.refl F) (fun u q => by rw [upd_ne (show o.p ≠ a from fun e => nM (.inr ⟨o, ho, .inl e.symm⟩))]; exact q) (fun l u hl q => by rw [upd_ne (show l ≠ a from fun e => nM (.inr ⟨o, ho, .inr (by rw [← e]; exact hl)⟩))]; exact q)
  · have z := R.sl i e h
    cases e with
    | own =>
      rw [hw] at z
      exact z
    | _ => exact z
/-- it is data from now on -/
def frzE (w : Own) : Ent → Ent
  | .own => match w with
    | .no => .un
    | .lst _ ds => .dat (.list ds)
    | .mat _ _ m => .dat (.list (m.map .list))
  | e => e
def En.frz (en : En) : En := { en with sl := en.sl.map (frzE en.ow), ow := .no }
theorem Rel.frzL (R : Rel K b en σ F H) {a : Addr} {ds : List PyData} (hw : en.ow = .lst a ds) : ∃ F', Same F F' ∧ Rel K b en.frz σ F' H := by
  have q := R.ow
  rw [hw] at q
  obtain ⟨q1, q2, xs, q3, q4⟩ := q
  have sm : Same F (upd F a (.lst xs)) := fun c u h => by rw [upd_ne (ne_of_none h q2)]; exact h
  refine ⟨_, sm, R.bo, R.ff.trans sm, fun c u h => ?_, R.hh, fun c o h => by rw [upd_ne (ne_of_none h q1)]; exact R.fr c o h, R.gn, fun o ho => ?_, by simp [En.frz, R.ln], fun i e h => ?_, trivial⟩
  · by_cases z : c = a
    · subst z; rw [upd_same] at h; cases h; exact q3
    · rw [upd_ne z] at h; exact R.fh c u h
  · exact (R.ob o ho).keep sm (fun u q => q) (fun l u _ q => q)
  · have h : (en.sl.map (frzE en.ow))[i]? = some e := h
    rw [List.getElem?_map] at h
    cases he : en.sl[i]? with
    | none => rw [he] at h; cases h
    | some e0 =>
      rw [he] at h
      have h : frzE en.ow e0 = e := Option.some.inj h
      have z := R.sl i e0 he
      subst h
      cases e0 with
      | own =>
        rw [hw] at z ⊢
        exact ⟨_, z, .lst upd_same (q4.up sm)⟩
      | dat d => obtain ⟨v, e1, e2⟩ := z; exact ⟨v, e1, e2.up sm⟩
      | _ => exact z
end
section
variable {Z : Ctx} {bs : Bs} {en : En} {st : Stmt} {rest ts : List Stmt} {e a c : Expr} {pos : Pos} {Φ : DE} {P : PyData → Prop}
theorem HT_frzL {a : Addr} {ds : List PyData} (hw : en.ow = .lst a ds) (h : HT Z bs ts en.frz Φ) : HT Z bs ts en Φ := fun σ F H R D q r => by
  obtain ⟨F', s, R'⟩ := R.frzL hw
  exact h σ F' H R' D (fun en' σ' F2 H2 R2 s2 p => q en' σ' F2 H2 R2 (s.trans s2) p) r
/-- x = [] -/
theorem HS_nil {i : Nat} {x : Str} {px lp : Pos} (k : ∀ a, Φ.nx ((en.own (.lst a [])).set i .own)) (hw : noOwn en.sl = true := by rfl) (hi : Z.N[i]? = some x := by rfl) (hx : LocS Z.sc x := by first | exact Or.inl rfl | exact Or.inr rfl)
    (hf : StoS Z x := by first | exact fun _ => Or.inl rfl | exact fun _ => Or.inr rfl) (hs : ∀ j, swapsWith (.List [] lp) (some (.Name x px)) pos.line (Z.X j).env = pure false := by intro _; rfl) : HS Z bs (.Assign [.Name x px] (.List [] lp) pos) en Φ := fun σ F H R D q r => by
  refine ⟨tAsg (tLst tNil) (gName i), fun j => ps_set (by rw [Z.hN]; exact Z.nd) (Ctx.nth hi j) (Ctx.loc hx j) (pe_lst pa_nil) (hs j) (hf j), Nat.zero_le _, fun p hp => ?_⟩
  exact q _ _ F _ ((R.newOwn hw hp .nil).setS (e := Ent.own) (show some (some (V.ref p)) = some (some (V.ref p)) from rfl)) (Same.refl F) (k p)
/-- x, y = [], e -/
theorem HS_nilPar {i j : Nat} {x y : Str} {b : Expr} {px py pt lp : Pos} {kt k2 : Nat} {pt2 : Pos} {d2 : PyData} (h : HV Z bs b en d2) (k : ∀ a, Φ.nx (((en.own (.lst a [])).set i .own).set j (.dat d2))) (hw0 : noOwn en.sl = true := by rfl)
    (hi : Z.N[i]? = some x := by rfl) (hj : Z.N[j]? = some y := by rfl) (hij : i ≠ j := by decide) (hx : Z.sc.names.lookup x = some .local := by rfl) (hy : Z.sc.names.lookup y = some .local := by rfl)
    (hst : ∀ i, starEach [.List [] lp, b] (Z.X i).env = (false, eval (.List [] lp) (Z.X i).env) :: starEach [b] (Z.X i).env := by intro _; rfl) (hst2 : ∀ i, starEach [b] (Z.X i).env = (false, eval b (Z.X i).env) :: starEach [] (Z.X i).env := by intro _; rfl)
    (hw : ∀ t, swappedStores [.Tuple [.Name x px, .Name y py] kt pt] (.Tuple [.List [] lp, b] k2 pt2) (Z.X t).env = pure (some [x, y]) := by intro _; rfl) (hs : ∀ t, swapsWithSole [.Tuple [.Name x px, .Name y py] kt pt] (.Tuple [.List [] lp, b] k2 pt2) pos.line (Z.X t).env = pure false := by intro _; rfl) :
    HS Z bs (.Assign [.Tuple [.Name x px, .Name y py] kt pt] (.Tuple [.List [] lp, b] k2 pt2) pos) en Φ := fun σ F H R D q r => by
  refine ⟨tPar i j (tCons (tLst tNil) (tCons (tE Z b) tNil)), fun t => ps_par (Z.hc t) (by rw [Z.hN]; exact Z.nd) (Ctx.nth hi t) (Ctx.nth hj t) hij (by rw [Z.hs]; exact hx) (by rw [Z.hs]; exact hy) (pa_cons (pe_lst pa_nil) (pa_cons (pe_tE Z b t) pa_nil (hst2 t)) (hst t)) (hw t) (hs t), Nat.zero_le _, fun p hp => ?_⟩
  have R0 : Rel Z.K bs (en.own (.lst p [])) σ F (upd H p (.lst [])) := R.newOwn hw0 hp .nil
  -- b is walked where the new list stands beside
  have e1 : bs.g ≠ some p := R.gnone hp
  refine (show tE Z b σ (upd H p (.lst [])) _ from ?_)
  have Ra : Rel Z.K bs en σ F (upd H p (.lst [])) := by
    refine ⟨R.bo, R.ff, R0.fh, R0.hh, R.fr, R0.gn, R0.ob, R.ln, fun i e h => ?_, ?_⟩
    · exact R.sl i e h
    · have z := R.ow
      cases ho : en.ow with
      | no => trivial
      | lst a ds =>
        rw [ho] at z
        obtain ⟨z1, z2, xs, z3, z4⟩ := z
        exact ⟨z1, z2, xs, by rw [upd_ne (ne_of_none z3 hp)]; exact z3, z4⟩
      | mat a rs m =>
        rw [ho] at z
        obtain ⟨z1, z2, z3, z4, z5, z6, z7⟩ := z
        refine ⟨z1, z2, by rw [upd_ne (ne_of_none z3 hp)]; exact z3, z4, z5, z6, fun j r row h1 h2 => ?_⟩
        obtain ⟨y1, y2, xs, y3, y4⟩ := z7 j r row h1 h2
        exact ⟨y1, y2, xs, by rw [upd_ne (ne_of_none y3 hp)]; exact y3, y4⟩
  refine h σ F _ Ra _ fun v d F2 H2 R2 G2 r2 ed => ?_
  subst ed
  refine ⟨_, _, rfl, ?_⟩
  have R3 : Rel Z.K bs (en.own (.lst p [])) σ F2 H2 := R0.grow G2
  have R4 := (R3.setS (i := i) (v := V.ref p) (e := Ent.own) (show some (some (V.ref p)) = some (some (V.ref p)) from rfl)).setD (i := j) r2
  exact q _ _ F2 H2 R4 G2.f (k p)
/-- x.append(e) -/
theorem HS_app {i : Nat} {x : Str} {px apos cpos : Pos} {a : Addr} {ds : List PyData} (hw : en.ow = .lst a ds) (hs : en.sl[i]? = some .own) (h : HE Z bs e en P) (hl : ds.length < 100000) (k : ∀ d, P d → Φ.nx (en.own (.lst a (ds ++ [d]))))
    (hN : Z.N[i]? = some x := by rfl) (hv : Vis Z.sc x := by first | exact Or.inl rfl | exact Or.inr (Or.inl rfl) | exact Or.inr (Or.inr rfl)) (hd : (x == ("__debug__" : Str)) = false := by decide) (hcd : (x == ("__classdict__" : Str)) = false := by decide)
    (hbase : ∀ j, attributeBase (.Name x px) "append" (Z.X j).env (eval (.Name x px) (Z.X j).env) = eval (.Name x px) (Z.X j).env := by intro _; rfl)
    (hfew : ∀ j, ((backTo cpos (starEach [e] (Z.X j).env)).all (fun x => !x.1) && (backToKw cpos (keywordEach [] (Z.X j).env)).all (fun x => x.1.isSome)
      && decide (([e] : List Expr).length + ([] : List Keyword).length + (if ([] : List Keyword).isEmpty then 0 else 1) < 30)) = true := by intro _; rfl)
    (hline : (apos.endLine == cpos.line) = true := by rfl) (hst : ∀ i, starEach [e] (Z.X i).env = (false, eval e (Z.X i).env) :: starEach [] (Z.X i).env := by intro _; rfl)
    (hsw : ∀ j, swapsWith (.Call (.Attribute (.Name x px) "append" apos) [e] [] cpos) none pos.line (Z.X j).env = pure false := by intro _; rfl) : HS Z bs (.Expr (.Call (.Attribute (.Name x px) "append" apos) [e] [] cpos) pos) en Φ := fun σ F H R D q r => by
  have so := R.sl i _ hs
  rw [hw] at so
  refine ⟨tDrop (tBM Z.K "list" rAppend (tVar i) (tCons (tE Z e) tNil)), fun j => ?_, ?_⟩
  · have z := pe_bm (X := Z.X j) (cpos := cpos) (apos := apos) PySem.F.plainAttrs_list PySem.F.slot_list_append PySem.F.type_list_append mt_append (pe_var (Ctx.nth hN j) (Ctx.vis hv j) hd hcd) (pa_cons (pe_tE Z e j) pa_nil (hst j)) (hbase j) (hfew j) hline (hst j) (by rfl)
    rw [Z.hK j] at z
    exact ps_expr z (hsw j)
  · have q0 := R.ow
    rw [hw] at q0
    obtain ⟨q1, q2, xs0, q3, q4⟩ := q0
    refine ⟨_, so, .inl ⟨rfl, _, SqL.of q3⟩, ?_⟩
    refine h σ F H R _ fun v d F2 H2 R2 G2 r2 p2 => ?_
    have q0 := R2.ow
    rw [hw] at q0
    obtain ⟨q1, q2, xs, q3, q4⟩ := q0
    refine ⟨a, xs, v, rfl, rfl, q3, lenLt (by rw [q4.len]; exact hl), ?_⟩
    exact q _ _ F2 _ (R2.ownMut hw (q4.snoc r2)) G2.f (k d p2)
end
end WS
set_option Elab.async false
set_option linter.all false
set_option maxRecDepth 100000
set_option maxHeartbeats 4000000
set_option autoImplicit false
namespace WS
open PySem PySem.Spec PyProof.Rows L2

/-- the family of one: a def's body -/
@[reducible] def ctx0 (P : Program) (w : World) (K : PySem.W.Frag) (mg : Str → Option Value) (base : Heap) (N : List Str) (qual : Str) (sc : Scope) (f : Addr) (cd : Value) (A : Around) (outer : List Env) (s : Shared) (H : Hp) (E : XK)
    (nd : N.Nodup) (un : (A.deeper (envOfC qual sc s.heap.objs.size f cd)).units + 200 < cLine) : Ctx where
  T := Unit
  X := fun _ => (cxOf CX0 P w K mg base N qual sc f cd A outer s H E).nox
  P := P
  w := w
  K := K
  mg := mg
  base := base
  A := A.deeper (envOfC qual sc s.heap.objs.size f cd)
  N := N
  sc := sc
  hP := fun _ => rfl
  hw := fun _ => rfl
  hK := fun _ => rfl
  hm := fun _ => rfl
  hb := fun _ => rfl
  hA := fun _ => rfl
  hN := fun _ => rfl
  hs := fun _ => rfl
  hc := fun _ => rfl
  nd := nd
  un := un
theorem Room.un200 {k : Nat} {A : Around} (r : Room k A) : A.units + 200 < cLine := by have := r.un; omega
def en0 (N : List Str) (ds : List PyData) : En := { sl := ds.map Ent.dat ++ List.replicate (N.length - ds.length) .un }
theorem rel0 {K : PySem.W.Frag} {N : List Str} {F H : Hp} {vs : List V} {ds : List PyData} (s : Same F H) (r : Rps F vs ds) : Rel K ⟨F, H, none, none⟩ (en0 N ds) (L2.start N vs) F H := by
  have hl := r.len
  refine ⟨⟨(fun _ h => nomatch h), (fun _ h => nomatch h), .inl rfl⟩, Same.refl F, s, fun a o h _ => h, fun _ _ _ => rfl, (fun _ h => nomatch h), (fun _ h => nomatch h), by simp [en0, L2.start, hl], fun i e h => ?_, trivial⟩
  have h : (ds.map Ent.dat ++ List.replicate (N.length - ds.length) Ent.un)[i]? = some e := h
  by_cases q : i < ds.length
  · rw [List.getElem?_append_left (by simpa using q), List.getElem?_map] at h
    rw [List.getElem?_eq_getElem q] at h
    cases (Option.some.inj h)
    obtain ⟨v, h1, h2⟩ := r.get (List.getElem?_eq_getElem q)
    refine ⟨v, ?_, h2⟩
    show (vs.map some ++ _)[i]? = _
    rw [List.getElem?_append_left (by simp; omega), List.getElem?_map, h1]
    rfl
  · rw [List.getElem?_append_right (by simp; omega)] at h
    have : e = .un := by
      have := List.mem_of_getElem? h
      exact List.eq_of_mem_replicate this
    subst this
    trivial
/-- the end of a def that draws nothing -/
theorem Rel.end {K : PySem.W.Frag} {F H F' H' : Hp} {en : En} {σ : L2.St} (R : Rel K ⟨F, H, none, none⟩ en σ F' H') : Grow none F H F' H' :=
  ⟨R.ff, R.fh, fun a o h => R.hh a o h (by rintro (h | ⟨_, h, _⟩) <;> cases h), fun a o h => R.fr a o h⟩
section
variable {P : Program} {w : World} {K : PySem.W.Frag} {mg : Str → Option Value} {base : Heap}
theorem fn_ok {x qual : Str} {st : Stmt} {f : Addr} {fd : FuncData} {N ps : List Str} {k n : Nat} {W : List PyData → (PyData → Prop) → Prop} (F : Fun K x qual st f fd) (S : FnScope N ps (defScope st)) (hn : ps.length = n)
    (hb : ∀ (cd : Value) (A : Around) (outer : List Env) (s : Shared) (H : Hp) (E : XK) (hr : Room k (A.deeper (envOfC qual (defScope st) s.heap.objs.size f cd))) (bs : Bs) (ds : List PyData) (Pd : PyData → Prop), bs.g = none → bs.o = none → W ds Pd → ds.length = n →
      HT (ctx0 P w K mg base N qual (defScope st) f cd A outer s H E S.nd (Room.un200 hr)) bs (defBody st) (en0 N ds) ⟨fun _ => Pd .none, fun _ d => Pd d⟩) :
    FnOk P w K mg base CX0 (k + 1) f fd ps (spF n W) := by
  refine F.ok S (fun vs H Q E h => ?_) (fun cd A outer s H vs Q E hr h => ?_)
  · obtain ⟨F0, ds, Pd, _, r, hl, _⟩ := h
    rw [r.len, hl, hn]
  · obtain ⟨F0, ds, Pd, sm, r, hl, hw, q⟩ := h
    obtain ⟨t, h1, h2⟩ := hb cd A outer s H E hr ⟨F0, H, none, none⟩ ds Pd rfl rfl hw hl _ F0 H (rel0 sm r) { nx := fun _ H' => Q .non H', rt := Q } (fun en' σ' F' H' R _ p => q _ _ F' H' R.end .non p) (fun en' σ' v d F' H' R rp p => q _ _ F' H' R.end rp p)
    exact ⟨t, h1 (), h2⟩
end
end WS
set_option Elab.async false
set_option linter.all false
set_option maxRecDepth 100000
set_option maxHeartbeats 4000000
set_option autoImplicit false
/-! zip(a, b, strict=True) of two lists of one length -/
namespace PySem
open Sem (wp)
namespace F
theorem typeCall_zip_s (a b c : Value) : checkTypeCall "zip" ⟨[a, b], [(Str.ofString "strict", c)]⟩ = pure () := by kernel_rfl
theorem newCall_zip_s (a b c : Value) : checkBuiltinCall "zip.__new__" ⟨[.type "zip", a, b], [(Str.ofString "strict", c)]⟩ = pure () := by kernel_rfl
theorem args_object_init_zs (obj a b c : Value) : argsOk "object.__init__" ⟨[obj, a, b], [(Str.ofString "strict", c)]⟩ := by unfold argsOk; kernel_rfl
end F
/-- a strict zip's record -/
abbrev IsZs (h : Heap) (z TI TO : Addr) (f0 : Value) : Prop :=
  h.get? z = some { cls := .type "zip", dict := none, data := .fields #[f0, .bool false, .bool true, .ref TI, .ref TO], slots := #[] }
abbrev zsH5 (h : Heap) (l1 l2 : Addr) : Heap := (zipH4 h l1 l2).push { cls := .type "zip", data := .fields #[.none, .bool false, .bool true, .ref (zipH2 h l1 l2).objs.size, .ref (zipH3 h l1 l2).objs.size] }
set_option maxHeartbeats 1000000 in
theorem meets_zs_new (l1 l2 : Addr) (xs ys : Array Value) :
    Meets (Builtin.«zip.__new__» ⟨[.type "zip", .ref l1, .ref l2], [(Str.ofString "strict", .bool true)]⟩) (fun _ R s => s.heap.IsList l1 xs ∧ s.heap.IsList l2 ys ∧
      R (.ok (.ret (.ref (zipH4 s.heap l1 l2).objs.size))) { s with heap := zsH5 s.heap l1 l2 }) :=
  .of_wp fun prog w A R s h => by
    obtain ⟨hp, g, d, tk, os⟩ := s; obtain ⟨hl1, hl2, h⟩ := h
    have hsub := sub_zip
    have e1 : (Str.ofString "strict" == ("strict" : Str)) = true := by decide +kernel
    have e2 : (Str.ofString "strict" != ("strict" : Str)) = false := by decide +kernel
    have hL1 : Heap.IsList (Shared.heap ⟨hp, g, d, tk, os⟩) l1 xs := hl1
    have hL2 : Heap.IsList (Shared.heap ⟨hp.push { cls := .type "list_iterator", data := .fields #[.ref l1, .int 0 0] }, g, d, tk, os⟩) l2 ys := Heap.IsList.push hl2 _
    wp_walk using wpAny_pyIter_list hL1, wpAny_pyIter_list hL2
    exact ⟨_, rfl, h⟩
section
variable {prog : Program} {w : World} {A : Around} {E : Value → Shared → Prop} {s : Shared}
theorem call_zs {l1 l2 : Addr} {xs ys : Array Value} {Q : Value → Shared → Prop} (hl1 : s.heap.IsList l1 xs) (hl2 : s.heap.IsList l2 ys)
    (h : ∀ h', IsZs h' (s.heap.objs.size + 4) (s.heap.objs.size + 2) (s.heap.objs.size + 3) .none → IsPair h' (s.heap.objs.size + 2) (.ref s.heap.objs.size) (.ref (s.heap.objs.size + 1)) →
      IsPair h' (s.heap.objs.size + 3) .none .none → h'.IsListIter s.heap.objs.size l1 0 → h'.IsListIter (s.heap.objs.size + 1) l2 0 → h'.objs.size = s.heap.objs.size + 5 →
      (∀ c o, s.heap.get? c = some o → h'.get? c = some o) → Q (.ref (s.heap.objs.size + 4)) { s with heap := h' }) :
    wpAny (model prog w) A (call (.type "zip") [.ref l1, .ref l2] [(Str.ofString "strict", .bool true)]) Q E s := by
  refine callType_newKw F.called_zip (by decide) (F.typeCall_zip_s _ _ _) (F.newCall_zip_s _ _ _) (fun obj => F.args_object_init_zs obj _ _ _) F.entry_zip_new
    (meets_zs_new l1 l2 xs ys) ⟨hl1, hl2, ?_⟩
  have z1 : (zipH1 s.heap l1).objs.size = s.heap.objs.size + 1 := Heap.size_push ..
  have z2 : (zipH2 s.heap l1 l2).objs.size = s.heap.objs.size + 2 := by rw [Heap.size_push, z1]
  have z3 : (zipH3 s.heap l1 l2).objs.size = s.heap.objs.size + 3 := by rw [Heap.size_push, z2]
  have z4 : (zipH4 s.heap l1 l2).objs.size = s.heap.objs.size + 4 := by rw [Heap.size_push, z3]
  have z5 : (zsH5 s.heap l1 l2).objs.size = s.heap.objs.size + 5 := by rw [Heap.size_push, z4]
  have g5 : (zsH5 s.heap l1 l2).get? (zipH4 s.heap l1 l2).objs.size = some _ := Heap.get?_push_size _ rfl
  have g4 : (zsH5 s.heap l1 l2).get? (zipH3 s.heap l1 l2).objs.size = some _ := Heap.get?_push_of_some _ (Heap.get?_push_size _ rfl)
  have g3 : (zsH5 s.heap l1 l2).get? (zipH2 s.heap l1 l2).objs.size = some _ := Heap.get?_push_of_some _ (Heap.get?_push_of_some _ (Heap.get?_push_size _ rfl))
  have g2 : (zsH5 s.heap l1 l2).get? (zipH1 s.heap l1).objs.size = some _ := Heap.get?_push_of_some _ (Heap.get?_push_of_some _ (Heap.get?_push_of_some _ (Heap.get?_push_size _ rfl)))
  have g1 : (zsH5 s.heap l1 l2).get? s.heap.objs.size = some _ := Heap.get?_push_of_some _ (Heap.get?_push_of_some _ (Heap.get?_push_of_some _ (Heap.get?_push_of_some _ (Heap.get?_push_size _ rfl))))
  show _ ∧ _
  rw [z2, z3, z4] at g5
  rw [z1, z2] at g3
  rw [z3] at g4
  rw [z1] at g2
  rw [z4]
  exact ⟨⟨_, g5, rfl⟩, h _ g5 g3 g4 ⟨_, g1, rfl, rfl⟩ ⟨_, g2, rfl, rfl⟩ z5 fun c o x =>
    Heap.get?_push_of_some _ (Heap.get?_push_of_some _ (Heap.get?_push_of_some _ (Heap.get?_push_of_some _ (Heap.get?_push_of_some _ x))))⟩
theorem wpAny_nextOrEnd_item {it l : Addr} {i : Nat} {items : Array Value} {x : Value} {Q : Option Value → Shared → Prop} (hit : s.heap.IsListIter it l i) (hl : s.heap.IsList l items) (hx : items[i]? = some x)
    (hQ : ∀ h', h'.IsListIter it l (i + 1) → Heap.SameBut it s.heap h' → Q (some x) { s with heap := h' }) : wpAny (model prog w) A (Builtin.SmallTypes.nextOrEnd (.ref it)) Q E s := by
  unfold Builtin.SmallTypes.nextOrEnd
  exact wpAny_bind (wpAny_attempt (wpAny_nextOf_list_item hit hl hx fun h' a b => wpAny_pure (hQ h' a b)))
theorem wpAny_nextOrEnd_end {it l : Addr} {i : Nat} {items : Array Value} {Q : Option Value → Shared → Prop} (hh : A.handled = none) (hit : s.heap.IsListIter it l i) (hl : s.heap.IsList l items) (hx : items[i]? = none)
    (hQ : ∀ h', Heap.ExtBut it s.heap h' → Q none { s with heap := h' }) : wpAny (model prog w) A (Builtin.SmallTypes.nextOrEnd (.ref it)) Q E s := by
  unfold Builtin.SmallTypes.nextOrEnd
  refine wpAny_bind (wpAny_attempt (wpAny_nextOf_list_end hh hit hl hx fun h' e hk he => ?_))
  obtain ⟨o, ho, hc⟩ := he
  refine wpAny_bind (wpAny_isInstance (T := "StopIteration") (b := true) ⟨o, ho, hc⟩ isSubtype_stop ?_)
  exact wpAny_pure (hQ h' hk)

theorem zs_next_item {z TI TO i1 i2 l1 l2 : Addr} {k1 k2 : Nat} {xs ys : Array Value} {x y a b : Value} {Q : Value → Shared → Prop} (D : ZipApart z TI TO i1 i2 l1 l2)
    (hz : IsZs s.heap z TI TO .none) (hTI : IsPair s.heap TI (.ref i1) (.ref i2)) (hTO : IsPair s.heap TO a b)
    (h1 : s.heap.IsListIter i1 l1 k1) (h2 : s.heap.IsListIter i2 l2 k2) (hl1 : s.heap.IsList l1 xs) (hl2 : s.heap.IsList l2 ys) (hx : xs[k1]? = some x) (hy : ys[k2]? = some y)
    (hQ : ∀ h', IsZs h' z TI TO (rawInt s.heap.objs.size) → IsPair h' TO x y → h'.IsListIter i1 l1 (k1 + 1) → h'.IsListIter i2 l2 (k2 + 1) → IsPair h' s.heap.objs.size x y → h'.objs.size = s.heap.objs.size + 1 →
      (∀ c o, c ≠ z → c ≠ TO → c ≠ i1 → c ≠ i2 → s.heap.get? c = some o → h'.get? c = some o) → Q (.ref s.heap.objs.size) { s with heap := h' }) :
    wpAny (model prog w) A (Builtin.«zip.__next__» ⟨[.ref z], []⟩) (fun fin s' => ∃ v, fin = .done (.ret v) ∧ Q v s') E s := by
  show wpAny _ _ (field (.ref z) 2 >>= _) _ _ _
  refine wpAny_bind (wpAny_field hz rfl (x := .bool true) rfl ?_)
  show wpAny _ _ (field (.ref z) 3 >>= _) _ _ _
  refine wpAny_bind (wpAny_field hz rfl (x := .ref TI) rfl ?_)
  refine wpAny_bind (wpAny_seqItems hTI rfl ?_)
  show wpAny _ _ (Builtin.SmallTypes.ownedTupleIsFree (.ref z) >>= _) _ _ _
  refine wpAny_bind ?_
  unfold Builtin.SmallTypes.ownedTupleIsFree
  refine wpAny_bind (wpAny_field hz rfl (x := .none) rfl (wpAny_pure ?_))
  simp only [if_true]
  refine wpAny_bind (wpAny_rule ?_)
  refine wpAny_bind (wpAny_field hz rfl (x := .ref TO) rfl ?_)
  refine wpAny_bind (wpAny_setField_rec hz (by simp) fun h₁ hz₁ hs₁ => ?_)
  replace hz₁ : IsZs h₁ z TI TO .ellipsis := hz₁
  refine wpAny_bind ?_
  simp only [List.zipIdx_cons, List.zipIdx_nil, List.forIn_cons, List.forIn_nil]

  refine wpAny_bind (wpAny_bind (wpAny_onRaise ?_))
  show wpAny _ _ (Builtin.SmallTypes.nextOrEnd (.ref i1)) _ _ _
  refine wpAny_nextOrEnd_item (h1.extBut hs₁.extBut D.i1z) (hl1.extBut hs₁.extBut D.l1z) hx fun h₂ h1₂ hs₂ => ?_
  have hTO₂ : IsPair h₂ TO a b := hs₂.extBut _ _ D.TOi1 (hs₁.extBut _ _ D.TOz hTO)
  refine wpAny_bind (wpAny_seqItems hTO₂ rfl ?_)
  refine wpAny_bind (wpAny_updateSeq_pair hTO₂ fun h₃ hTO₃ hs₃ => ?_)
  replace hTO₃ : IsPair h₃ TO x b := hTO₃
  refine wpAny_bind (wpAny_letGo (wpAny_pure ?_))

  refine wpAny_bind (wpAny_bind (wpAny_onRaise ?_))
  show wpAny _ _ (Builtin.SmallTypes.nextOrEnd (.ref i2)) _ _ _
  refine wpAny_nextOrEnd_item (((h2.extBut hs₁.extBut D.i2z).extBut hs₂.extBut D.i12.symm).extBut hs₃.extBut D.TOi2.symm)
    (((hl2.extBut hs₁.extBut D.l2z).extBut hs₂.extBut D.l2i1).extBut hs₃.extBut D.l2TO) hy fun h₄ h2₄ hs₄ => ?_
  have hTO₄ : IsPair h₄ TO x b := hs₄.extBut _ _ D.TOi2 hTO₃
  refine wpAny_bind (wpAny_seqItems hTO₄ rfl ?_)
  refine wpAny_bind (wpAny_updateSeq_pair hTO₄ fun h₅ hTO₅ hs₅ => ?_)
  replace hTO₅ : IsPair h₅ TO x y := hTO₅
  refine wpAny_bind (wpAny_letGo (wpAny_pure (wpAny_pure ?_)))

  refine wpAny_bind (wpAny_seqItems hTO₅ rfl ?_)
  refine wpAny_bind (wpAny_newTuple ?_)
  have hsz : h₅.objs.size = s.heap.objs.size := by rw [hs₅.1, hs₄.1, hs₃.1, hs₂.1, hs₁.1]
  have hz₅ : IsZs h₅ z TI TO .ellipsis := hs₅.extBut _ _ D.TOz.symm (hs₄.extBut _ _ D.i2z.symm (hs₃.extBut _ _ D.TOz.symm (hs₂.extBut _ _ D.i1z.symm hz₁)))
  have hk₅ : ∀ c o, c ≠ z → c ≠ TO → c ≠ i1 → c ≠ i2 → s.heap.get? c = some o → h₅.get? c = some o := fun c o c1 c2 c3 c4 e =>
    hs₅.extBut _ _ c2 (hs₄.extBut _ _ c4 (hs₃.extBut _ _ c2 (hs₂.extBut _ _ c3 (hs₁.extBut _ _ c1 e))))
  have h1₅ : h₅.IsListIter i1 l1 (k1 + 1) := ((h1₂.extBut hs₃.extBut D.TOi1.symm).extBut hs₄.extBut D.i12).extBut hs₅.extBut D.TOi1.symm
  have h2₅ : h₅.IsListIter i2 l2 (k2 + 1) := h2₄.extBut hs₅.extBut D.TOi2.symm
  have hzlt : z < h₅.objs.size := Heap.lt_size hz₅
  have hTOlt : TO < h₅.objs.size := Heap.lt_size hTO₅
  have hi1lt : i1 < h₅.objs.size := by obtain ⟨_, e, _⟩ := h1₅; exact Heap.lt_size e
  have hi2lt : i2 < h₅.objs.size := by obtain ⟨_, e, _⟩ := h2₅; exact Heap.lt_size e
  show wpAny _ _ (Builtin.SmallTypes.ownedTupleHandOut (.ref z) (.ref h₅.objs.size) >>= _) _ _ _
  refine wpAny_bind ?_
  unfold Builtin.SmallTypes.ownedTupleHandOut
  have hz₆ : IsZs (h₅.push { cls := .type "tuple", data := .seq #[x, y] }) z TI TO .ellipsis := Heap.get?_push_of_some _ hz₅
  refine wpAny_bind (wpAny_setField_rec hz₆ (by simp) fun h₇ hz₇ hs₇ => ?_)
  replace hz₇ : IsZs h₇ z TI TO (rawInt h₅.objs.size) := hz₇
  refine wpAny_setField_rec hz₇ (by simp) fun h₈ hz₈ hs₈ => ?_
  replace hz₈ : IsZs h₈ z TI TO (rawInt h₅.objs.size) := hz₈
  have up : ∀ c o, c ≠ z → h₅.get? c = some o → h₈.get? c = some o := fun c o c1 e => hs₈.extBut _ _ c1 (hs₇.extBut _ _ c1 (Heap.get?_push_of_some _ e))
  have hT₈ : IsPair h₈ h₅.objs.size x y := hs₈.extBut _ _ (Nat.ne_of_gt hzlt) (hs₇.extBut _ _ (Nat.ne_of_gt hzlt) (Heap.get?_push_size _ rfl))
  have hz8 : h₈.objs.size = h₅.objs.size + 1 := by rw [hs₈.1, hs₇.1, Heap.size_push]
  rw [hsz] at hz₈ hT₈ hz8
  refine wpAny_pure ⟨_, rfl, ?_⟩
  show Q (.ref h₅.objs.size) _
  rw [hsz]
  exact hQ h₈ hz₈ (up _ _ D.TOz hTO₅) (h1₅.at fun o e => up _ o D.i1z e) (h2₅.at fun o e => up _ o D.i2z e) hT₈ hz8 fun c o c1 c2 c3 c4 e => up c o c1 (hk₅ c o c1 c2 c3 c4 e)
theorem zs_next_end {z TI TO i1 i2 l1 l2 : Addr} {k1 k2 : Nat} {xs ys : Array Value} {a b : Value} {Q : Fin → Shared → Prop} (hh : A.handled = none) (D : ZipApart z TI TO i1 i2 l1 l2)
    (hz : IsZs s.heap z TI TO .none) (hTI : IsPair s.heap TI (.ref i1) (.ref i2)) (hTO : IsPair s.heap TO a b)
    (h1 : s.heap.IsListIter i1 l1 k1) (h2 : s.heap.IsListIter i2 l2 k2) (hl1 : s.heap.IsList l1 xs) (hl2 : s.heap.IsList l2 ys) (hx : xs[k1]? = none) (hy : ys[k2]? = none)
    (hE : ∀ h' e, (∀ c o, c ≠ z → c ≠ TO → c ≠ i1 → c ≠ i2 → s.heap.get? c = some o → h'.get? c = some o) → (∃ o, h'.get? e = some o ∧ o.cls = .type "StopIteration") → E (.ref e) { s with heap := h' }) :
    wpAny (model prog w) A (Builtin.«zip.__next__» ⟨[.ref z], []⟩) Q E s := by
  show wpAny _ _ (field (.ref z) 2 >>= _) _ _ _
  refine wpAny_bind (wpAny_field hz rfl (x := .bool true) rfl ?_)
  show wpAny _ _ (field (.ref z) 3 >>= _) _ _ _
  refine wpAny_bind (wpAny_field hz rfl (x := .ref TI) rfl ?_)
  refine wpAny_bind (wpAny_seqItems hTI rfl ?_)
  show wpAny _ _ (Builtin.SmallTypes.ownedTupleIsFree (.ref z) >>= _) _ _ _
  refine wpAny_bind ?_
  unfold Builtin.SmallTypes.ownedTupleIsFree
  refine wpAny_bind (wpAny_field hz rfl (x := .none) rfl (wpAny_pure ?_))
  simp only [if_true]
  refine wpAny_bind (wpAny_rule ?_)
  refine wpAny_bind (wpAny_field hz rfl (x := .ref TO) rfl ?_)
  refine wpAny_bind (wpAny_setField_rec hz (by simp) fun h₁ hz₁ hs₁ => ?_)
  replace hz₁ : IsZs h₁ z TI TO .ellipsis := hz₁
  refine wpAny_bind ?_
  simp only [List.zipIdx_cons, List.zipIdx_nil, List.forIn_cons, List.forIn_nil]
  refine wpAny_bind (wpAny_bind (wpAny_onRaise ?_))
  show wpAny _ _ (Builtin.SmallTypes.nextOrEnd (.ref i1)) _ _ _
  refine wpAny_nextOrEnd_end hh (h1.extBut hs₁.extBut D.i1z) (hl1.extBut hs₁.extBut D.l1z) hx fun h₂ hs₂ => ?_
  have hz₂ : IsZs h₂ z TI TO .ellipsis := hs₂ _ _ D.i1z.symm hz₁
  refine wpAny_bind (wpAny_setField_rec hz₂ (by simp) fun h₃ hz₃ hs₃ => ?_)
  have kp : ∀ c o, c ≠ z → c ≠ i1 → s.heap.get? c = some o → h₃.get? c = some o := fun c o c1 c3 x => hs₃.extBut _ _ c1 (hs₂ _ _ c3 (hs₁.extBut _ _ c1 x))
  have h2₃ : h₃.IsListIter i2 l2 k2 := h2.at fun o e => kp _ o D.i2z D.i12.symm e
  have hl2₃ : h₃.IsList l2 ys := hl2.at fun o e => kp _ o D.l2z D.l2i1 e
  refine wpAny_bind ?_
  show wpAny _ _ (forIn ([(Value.ref i2, 1)] : List (Value × Nat)) _ _ >>= _) _ _ _
  simp only [List.forIn_cons, List.forIn_nil]
  refine wpAny_bind (wpAny_bind ?_)
  show wpAny _ _ (Builtin.SmallTypes.nextOrEnd (.ref i2) >>= _) _ _ _
  refine wpAny_bind (wpAny_nextOrEnd_end hh h2₃ hl2₃ hy fun h₄ hs₄ => ?_)
  show wpAny _ _ (pure _) _ _ _
  refine wpAny_pure (wpAny_pure ?_)
  refine wpAny_bind (wpAny_rule ?_)
  show wpAny _ _ (newExc (.type "StopIteration") [] >>= _) _ _ _
  refine wpAny_bind ?_
  simp only [newExc, newTuple]
  refine wpAny_bind (wpAny_newObj_type ?_ (by size_fits))
  refine wpAny_bind (m := firstArgMember _ _) (wpAny_of_eq (a := Value.none) (by first | rfl | (simp only [firstArgMember]; rfl)) ?_)
  refine wpAny_newObj_type ?_ (by size_fits)
  simp only [raiseNew]
  refine wpAny_bind (wpAny_handled ?_)
  first | rw [show A.in1.handled = none from hh] | rw [hh]
  refine wpAny_bind (wpAny_pure (wpAny_throw ?_))
  exact hE _ _ (fun c o c1 c2 c3 c4 e => Heap.get?_push_of_some _ (Heap.get?_push_of_some _ (hs₄ _ _ c4 (kp c o c1 c3 e)))) ⟨_, Heap.get?_push_size _ rfl, rfl⟩
end
end PySem
set_option Elab.async false
set_option linter.all false
set_option maxRecDepth 100000
set_option maxHeartbeats 4000000
set_option autoImplicit false
namespace PySem
open Sem (wp)
section
variable {prog : Program} {w : World} {A : Around} {E : Value → Shared → Prop} {s : Shared}
theorem pyNext_zs_item {z TI TO i1 i2 l1 l2 : Addr} {k1 k2 : Nat} {xs ys : Array Value} {x y a b : Value} {Q : Option Value → Shared → Prop} (D : ZipApart z TI TO i1 i2 l1 l2)
    (hz : IsZs s.heap z TI TO .none) (hTI : IsPair s.heap TI (.ref i1) (.ref i2)) (hTO : IsPair s.heap TO a b)
    (h1 : s.heap.IsListIter i1 l1 k1) (h2 : s.heap.IsListIter i2 l2 k2) (hl1 : s.heap.IsList l1 xs) (hl2 : s.heap.IsList l2 ys) (hx : xs[k1]? = some x) (hy : ys[k2]? = some y)
    (hQ : ∀ h', IsZs h' z TI TO (rawInt s.heap.objs.size) → IsPair h' TO x y → h'.IsListIter i1 l1 (k1 + 1) → h'.IsListIter i2 l2 (k2 + 1) → IsPair h' s.heap.objs.size x y → h'.objs.size = s.heap.objs.size + 1 →
      (∀ c o, c ≠ z → c ≠ TO → c ≠ i1 → c ≠ i2 → s.heap.get? c = some o → h'.get? c = some o) → Q (some (.ref s.heap.objs.size)) { s with heap := h' }) :
    wpAny (model prog w) A (pyNext (.ref z)) Q E s := by
  have hT : s.TypeIs (.ref z) "zip" := ⟨_, hz, rfl⟩
  unfold pyNext
  exact wpAny_bind (wpAny_attempt (wpAny_callSpecial?_slot (name := Str.ofString "__next__") hT F.slot_zip_next
    (wpAny_call_entry F.slot_zip_next hT F.entry_zip_next
      (zs_next_item D hz hTI hTO h1 h2 hl1 hl2 hx hy fun h' a1 a2 a3 a4 a5 a6 a7 => wpAny_pure (hQ h' a1 a2 a3 a4 a5 a6 a7)) (F.args_zip_next_1 _))))
theorem pyNext_zs_end {z TI TO i1 i2 l1 l2 : Addr} {k1 k2 : Nat} {xs ys : Array Value} {a b : Value} {Q : Option Value → Shared → Prop} (hh : A.handled = none) (D : ZipApart z TI TO i1 i2 l1 l2)
    (hz : IsZs s.heap z TI TO .none) (hTI : IsPair s.heap TI (.ref i1) (.ref i2)) (hTO : IsPair s.heap TO a b)
    (h1 : s.heap.IsListIter i1 l1 k1) (h2 : s.heap.IsListIter i2 l2 k2) (hl1 : s.heap.IsList l1 xs) (hl2 : s.heap.IsList l2 ys) (hx : xs[k1]? = none) (hy : ys[k2]? = none)
    (hQ : ∀ h', (∀ c o, c ≠ z → c ≠ TO → c ≠ i1 → c ≠ i2 → s.heap.get? c = some o → h'.get? c = some o) → Q none { s with heap := h' }) : wpAny (model prog w) A (pyNext (.ref z)) Q E s := by
  have hT : s.TypeIs (.ref z) "zip" := ⟨_, hz, rfl⟩
  unfold pyNext
  refine wpAny_bind (wpAny_attempt (wpAny_callSpecial?_slot (name := Str.ofString "__next__") hT F.slot_zip_next
    (wpAny_call_entry F.slot_zip_next hT F.entry_zip_next (zs_next_end hh D hz hTI hTO h1 h2 hl1 hl2 hx hy fun h' e hk he => ?_) (F.args_zip_next_1 _))))
  obtain ⟨o, ho, hc⟩ := he
  refine wpAny_bind (wpAny_isInstance (T := "StopIteration") (b := true) ⟨o, ho, hc⟩ isSubtype_stop ?_)
  exact wpAny_pure (hQ _ hk)
theorem letGo_zs {elts : List Expr} {x1 : Nat} {pos : Pos} {z TI TO T : Addr} {Q : Unit → Shared → Prop} (hz : IsZs s.heap z TI TO (rawInt T))
    (hQ : ∀ h', IsZs h' z TI TO .none → Heap.SameBut z s.heap h' → Q () { s with heap := h' }) :
    wpAny (model prog w) A (letOwnedTupleGo (.Tuple elts x1 pos) (.ref z) (.ref T)) Q E s := by
  unfold letOwnedTupleGo
  refine wpAny_bind (wpAny_load hz ?_)
  show wpAny _ _ (if (["enumerate", "zip", "dict_itemiterator", "dict_reverseitemiterator", "odict_iterator", "itertools.zip_longest", "itertools.pairwise"].contains "zip" &&
      (#[rawInt T, .bool false, .bool true, .ref TI, .ref TO] : Array Value)[0]? == some (rawInt T)) = true then _ else _) Q E s
  rw [if_pos (by simp)]
  refine wpAny_bind (wpAny_rule ?_)
  show wpAny _ _ (setField (.ref z) 0 .none) Q E s
  exact wpAny_setField_rec hz (by simp) fun h' hz' hs' => hQ h' hz' hs'
theorem pyIter_zs {z TI TO : Addr} {f0 : Value} {Q : Value → Shared → Prop} (hz : IsZs s.heap z TI TO f0) (h : Q (.ref z) s) : wpAny (model prog w) A (pyIter (.ref z)) Q E s := by
  have hT : s.TypeIs (.ref z) "zip" := ⟨_, hz, rfl⟩
  refine wpAny_pyIter_slot hT F.slot_zip_iter (wpAny_call_entry F.slot_zip_iter hT F.entry_zip_iter ?_ (F.args_zip_iter_1 _))
  show wpAny _ _ (ret (.ref z)) _ _ s
  exact wpAny_pure ⟨_, rfl, "zip", _, hT, F.slot_zip_next.lookup, h⟩
end
section
variable {M : Model} {A : Around} {E : Value → Shared → Prop} {s : Shared} {env : Env}
theorem callWithT_kw {pos : Pos} {T : String} {args : List (Bool × Sem Value)} {keywords : List (Option Str × Sem Value)} {Q : Value → Shared → Prop}
    (hplain : args.any (·.1) = false) (hkw : keywords.any (·.1.isNone) = false)
    (h : wpAny M A (evalArgs (.type T) true args keywords) (fun a s₁ => wpAny M A (call (.type T) ([] ++ a.pos) a.kw) Q E s₁) E s) :
    wpAny M A (callWith pos (.type T) [] args keywords) Q E s := by
  unfold callWith
  refine wpAny_bind (wpAny_holding (wpAny_mono h (fun a s₁ h₁ => wpAny_bind (wpAny_standAt ?_)) fun _ _ x => x))
  simp only [hplain, hkw, Bool.or_false]
  refine wpAny_bind (wpAny_pure ?_)
  exact wpAny_bind (wpAny_mono h₁ (fun r s₂ hr => wpAny_bind (wpAny_holding (wpAny_point (wpAny_pure hr)))) fun _ _ x => x)
end
end PySem
namespace L2
open PySem PySem.Spec PyProof.Rows
/-- two lists of one length -/
def Itzs (K : PySem.W.Frag) (a b : Addr) : It :=
  ⟨fun i H => ∃ (xs ys : List V) (x y : V), SqL K H a xs ∧ SqL K H b ys ∧ xs[i]? = some x ∧ ys[i]? = some y,
    fun i H v H' => ∃ T x y, v = .ref T ∧ H T = none ∧ H' = upd H T (.tup [x, y]) ∧ (∀ xs, SqL K H a xs → xs[i]? = some x) ∧ ∀ ys, SqL K H b ys → ys[i]? = some y,
    fun i H => ∃ xs ys : List V, SqL K H a xs ∧ SqL K H b ys ∧ xs.length ≤ i ∧ ys.length ≤ i⟩
theorem turn_zs {P : Program} {w : World} {K : PySem.W.Frag} {elts : List Expr} {kk : Nat} {tpos : Pos} {a b z TI TO i1 i2 : Addr} (D : ZipApart z TI TO i1 i2 a b) :
    Turn P w K (.Tuple elts kk tpos) (Itzs K a b) [z, TI, TO, i1, i2] z (fun i h => IsZs h z TI TO .none ∧ IsPair h TI (.ref i1) (.ref i2) ∧ (∃ x y, IsPair h TO x y) ∧ h.IsListIter i1 a i ∧ h.IsListIter i2 b i) where
  mem := by simp
  obj := fun i h st c hc => by
    obtain ⟨hz, hTI, ⟨x, y, hTO⟩, ⟨o1, e1, _, d1⟩, ⟨o2, e2, _, d2⟩⟩ := st
    have e' : c = z ∨ c = TI ∨ c = TO ∨ c = i1 ∨ c = i2 := by simpa using hc
    rcases e' with q | q | q | q | q
    · rw [q]; exact ⟨_, hz, fun v q => nomatch q⟩
    · rw [q]; exact ⟨_, hTI, fun v q => nomatch q⟩
    · rw [q]; exact ⟨_, hTO, fun v q => nomatch q⟩
    · rw [q]; exact ⟨o1, e1, fun v q => by rw [d1] at q; cases q⟩
    · rw [q]; exact ⟨o2, e2, fun v q => by rw [d2] at q; cases q⟩
  keep := fun i h h' st k => by
    obtain ⟨hz, hTI, ⟨x, y, hTO⟩, h1, h2⟩ := st
    exact ⟨k z (by simp) _ hz, k TI (by simp) _ hTI, ⟨x, y, k TO (by simp) _ hTO⟩, h1.at fun o q => k i1 (by simp) o q, h2.at fun o q => k i2 (by simp) o q⟩
  item := by
    intro X hP hw hK hc i pins s σ H E I hf st hg
    subst hP hw hK
    obtain ⟨hz, hTI, ⟨x0, y0, hTO⟩, h1, h2⟩ := st
    obtain ⟨xs, ys, x, y, hqx, hqy, hx, hy⟩ := hg
    obtain ⟨its, rv, p, _⟩ := I.list hqx
    obtain ⟨its2, rv2, p2, _⟩ := I.list hqy
    obtain ⟨u, hu, ru⟩ := rv.get hx
    obtain ⟨u2, hu2, ru2⟩ := rv2.get hy
    have hzl : z < s.heap.objs.size := Heap.lt_size hz
    refine pyNext_zs_item D hz hTI hTO h1 h2 p.isList p2.isList (x := u) (y := u2) (by simpa using hu) (by simpa using hu2) fun h' z' TO' h1' h2' hT hsz hk => ?_
    refine ⟨_, rfl, letGo_zs (s := { s with heap := h' }) z' fun h'' z'' sb => ?_⟩
    have hT2 : h''.get? s.heap.objs.size = some { cls := .type "tuple", data := .seq #[u, u2] } := (sb.2 _ (Nat.ne_of_gt hzl)).trans hT
    have new : ObjOk X.prog X.w (upd H s.heap.objs.size (.tup [x, y])) h'' s.heap.objs.size (.tup [x, y]) :=
      ⟨by show 2 ≤ sizeLine; decide, [u, u2], .cons ru (.cons ru2 .nil), ⟨_, hT2, rfl, _, rfl⟩⟩
    have I1 : Inv X pins σ (upd H s.heap.objs.size (.tup [x, y])) { s with heap := h'' } :=
      I.turnedNew (t' := s.toks) (ch := [z, TI, TO, i1, i2]) (fun c o hb q => (sb.2 c (fun q' => hb (by simp [q']))).trans (hk c o (fun q' => hb (by simp [q'])) (fun q' => hb (by simp [q'])) (fun q' => hb (by simp [q'])) (fun q' => hb (by simp [q'])) q)) hf (Nat.le_refl _) new
    refine ⟨.ref s.heap.objs.size, _, I1, rfl, ⟨_, x, y, rfl, I.hok.fresh (Nat.le_refl _), rfl, fun l hl => by rw [I.list_inj hl hqx]; exact hx, fun l hl => by rw [I.list_inj hl hqy]; exact hy⟩, ⟨z'', ?_, ⟨u, u2, ?_⟩, ?_, ?_⟩, fun c hcm => ?_⟩
    · exact (sb.2 _ D.TIz).trans (hk _ _ D.TIz D.TITO D.TIi1 D.TIi2 hTI)
    · exact (sb.2 _ D.TOz).trans TO'
    · exact h1'.at fun o q => (sb.2 _ D.i1z).trans q
    · exact h2'.at fun o q => (sb.2 _ D.i2z).trans q
    · have hlt : c < s.heap.objs.size := by
        have e' : c = z ∨ c = TI ∨ c = TO ∨ c = i1 ∨ c = i2 := by simpa using hcm
        rcases e' with q | q | q | q | q
        · rw [q]; exact hzl
        · rw [q]; exact Heap.lt_size hTI
        · rw [q]; exact Heap.lt_size hTO
        · rw [q]; obtain ⟨_, e1, _⟩ := h1; exact Heap.lt_size e1
        · rw [q]; obtain ⟨_, e2, _⟩ := h2; exact Heap.lt_size e2
      rw [upd_ne (Nat.ne_of_lt hlt)]
      exact (hf c hcm).1
  done := by
    intro X hP hw hK hc i pins s σ H E I hf st hg
    subst hP hw hK
    obtain ⟨hz, hTI, ⟨x0, y0, hTO⟩, h1, h2⟩ := st
    obtain ⟨xs, ys, hqx, hqy, q1, q2⟩ := hg
    obtain ⟨its, rv, p, _⟩ := I.list hqx
    obtain ⟨its2, rv2, p2, _⟩ := I.list hqy
    have l1 := rv.length
    have l2 := rv2.length
    exact pyNext_zs_end (I.ok.hd hc) D hz hTI hTO h1 h2 p.isList p2.isList (by simp; omega) (by simp; omega) fun h' hk => ⟨rfl, I.turnedL (t' := s.toks) (ch := [z, TI, TO, i1, i2]) (fun c o hb q =>
      hk c o (fun q' => hb (by simp [q'])) (fun q' => hb (by simp [q'])) (fun q' => hb (by simp [q'])) (fun q' => hb (by simp [q'])) q) hf⟩
  self := fun A i s Q E st h => pyIter_zs st.1 h
def iZs (K : PySem.W.Frag) (ta : TA) : TI := fun σ H R => ta σ H fun vs H1 => ∃ a b xs ys, vs = [.ref a, .ref b] ∧ SqL K H1 a xs ∧ SqL K H1 b ys ∧ R (Itzs K a b) H1
theorem pi_zs {X : Cx} {e e2 : Expr} {ta : TA} {p pos tpos kp : Pos} {elts : List Expr} {kk kn : Nat} {cp : Pos} (hg : Gl X "zip") (hm : X.mg "zip" = none) (ha : PA X [e, e2] ta)
    (hs : backTo pos (starEach [e, e2] X.env) = (false, eval e X.env) :: backTo pos (starEach [e2] X.env) := by rfl) (hpl : (backTo pos (starEach [e, e2] X.env)).any (·.1) = false := by rfl) :
    PI X (.Tuple elts kk tpos) (.Call (.Name "zip" p) [e, e2] [⟨some (Str.ofString "strict"), .Constant (.bool true) kn cp, kp⟩] pos) (iZs X.K ta) := by
  refine ⟨fun pins s σ H R I h => ?_⟩
  refine wpAny_Call_Name_kw (ld_blt I hg hm PyProof.Rows.boot_zip ?_)
  refine PySem.callWithT_kw hpl (by rfl) ?_
  rw [hs]
  refine PyProof.Rows.evalArgs_kwB (by rfl) ?_
  rw [← hs]
  refine thn (ha.run pos pins s σ H _ I h) fun us s1 ⟨vs, H1, I1, r1, q1⟩ => ?_
  refine PyProof.Rows.kws_cons (Constant_bool (PyProof.Rows.kws_nil ?_))
  obtain ⟨a, b, xs, ys, ex, hqx, hqy, q⟩ := q1
  subst ex
  cases r1 with
  | cons r rr =>
    cases rr with
    | cons r' rr =>
      cases rr
      cases r
      cases r'
      obtain ⟨its, rv, p1, _⟩ := I1.list hqx
      obtain ⟨its2, rv2, p2, _⟩ := I1.list hqy
      have la : a < s1.heap.objs.size := p1.lt
      have lb : b < s1.heap.objs.size := p2.lt
      show wpAny _ _ (call (.type "zip") [.ref a, .ref b] [(Str.ofString "strict", .bool true)]) _ _ _
      refine call_zs p1.isList p2.isList fun h' hz hTI hTO h1 h2 hsz hk => pyIter_zs hz ?_
      have I2 : Inv X pins σ H1 { s1 with heap := h' } := I1.kept (t' := s1.toks) hk
      refine ⟨s1.heap.objs.size + 4, [s1.heap.objs.size + 4, s1.heap.objs.size + 2, s1.heap.objs.size + 3, s1.heap.objs.size, s1.heap.objs.size + 1], _, _, H1, rfl, I2, turn_zs (PySem.W.ktu_apart s1.heap.objs.size a b la lb), ⟨hz, hTI, ⟨_, _, hTO⟩, h1, h2⟩, fun c hcm => ?_, q⟩
      have e' : c = s1.heap.objs.size + 4 ∨ c = s1.heap.objs.size + 2 ∨ c = s1.heap.objs.size + 3 ∨ c = s1.heap.objs.size ∨ c = s1.heap.objs.size + 1 := by simpa using hcm
      have hle : s1.heap.objs.size ≤ c := by
        rcases e' with z | z | z | z | z
        · rw [z]; exact Nat.le_add_right _ _
        · rw [z]; exact Nat.le_add_right _ _
        · rw [z]; exact Nat.le_add_right _ _
        · rw [z]; exact Nat.le_refl _
        · rw [z]; exact Nat.le_add_right _ _
      exact I1.fpOk hle (I1.hok.fresh hle)
end L2
namespace WS
open PySem PySem.Spec PyProof.Rows L2
section
variable {Z : Ctx} {bs : Bs} {en : En} {a b : Expr} {pos p tpos kp cp : Pos} {ds es : List PyData} {elts : List Expr} {kk kn : Nat}
theorem HI_zs (hm : Z.mg "zip" = none) (ha : HV Z bs a en (.list ds)) (hb : HV Z bs b en (.list es)) (hl : ds.length = es.length) (hg : GlS Z.sc "zip" := by rfl)
    (hs : ∀ i, starEach [a, b] (Z.X i).env = (false, eval a (Z.X i).env) :: starEach [b] (Z.X i).env := by intro _; rfl) (hs2 : ∀ i, starEach [b] (Z.X i).env = (false, eval b (Z.X i).env) :: starEach [] (Z.X i).env := by intro _; rfl)
    (hbt : ∀ i, backTo pos (starEach [a, b] (Z.X i).env) = (false, eval a (Z.X i).env) :: backTo pos (starEach [b] (Z.X i).env) := by intro _; rfl) (hpl : ∀ i, (backTo pos (starEach [a, b] (Z.X i).env)).any (·.1) = false := by intro _; rfl) :
    HI Z bs (.Tuple elts kk tpos) (.Call (.Name "zip" p) [a, b] [⟨some (Str.ofString "strict"), .Constant (.bool true) kn cp, kp⟩] pos) en (zipD ds es) := fun σ F H R Q q => by
  refine ⟨iZs Z.K (tAr Z [a, b]), fun i => ?_, ?_⟩
  · have z := pi_zs (elts := elts) (kk := kk) (tpos := tpos) (p := p) (pos := pos) (kp := kp) (cp := cp) (kn := kn) (Ctx.gl hg i) (Ctx.mgN hm i) (pa_tA Z [a, b] i) (hbt i) (hpl i)
    rw [Z.hK i] at z; exact z
  · refine (HA_cons ha (HA_cons hb HA_nil hs2) hs) σ F H R _ fun vs d F1 H1 R1 G1 r1 ed => ?_
    subst ed
    cases r1 with
    | cons r1 r2 =>
      cases r2 with
      | cons r3 r4 =>
        cases r4
        cases r1 with
        | @lst l xs _ h1 h2 =>
          cases r3 with
          | @lst m ys _ h3 h4 =>
            have I := itr_zip (K := Z.K) (g := bs.g) h1 h2 h3 h4
            refine ⟨l, m, xs, ys, rfl, SqL.of (R1.fh _ _ h1), SqL.of (R1.fh _ _ h3), q _ F1 H1 R1 G1 ⟨I.go, I.yl, fun k F H s1 s2 hk => ?_⟩⟩
            have hz : (zipD ds es).length = min ds.length es.length := by simp [zipD]
            have l1 := h2.len
            have l2 := h4.len
            exact ⟨xs, ys, SqL.of (s2 _ _ (s1 _ _ h1)), SqL.of (s2 _ _ (s1 _ _ h3)), by omega, by omega⟩
end
end WS
set_option Elab.async false
set_option linter.all false
set_option maxRecDepth 100000
set_option maxHeartbeats 4000000
set_option autoImplicit false
namespace WS
open PySem PySem.Spec PyProof.Rows L2

/-! ### new lists, new matrices -/
/-- e gives a new list -/
def HNl (Z : Ctx) (b : Bs) (e : Expr) (en : En) (ds : List PyData) : Prop :=
  ∀ (σ : L2.St) (F H : Hp), Rel Z.K b en σ F H → ∀ Q : VK, (∀ a xs F' H', Rel Z.K b en σ F' H' → Grow b.g F H F' H' → H a = none → F' a = none → H' a = some (.lst xs) → Rps F' xs ds → Q (.ref a) H') → ∃ t, (∀ i, PE (Z.X i) e t) ∧ t σ H Q
structure NewM (H F' H' : Hp) (a : Addr) (rs : List Addr) (m : List (List PyData)) : Prop where
  a0 : H a = none
  a1 : F' a = none
  a2 : H' a = some (.lst (rs.map V.ref))
  nd : rs.Nodup
  na : a ∉ rs
  ln : rs.length = m.length
  row : ∀ (j : Nat) (r : Addr) (row : List PyData), rs[j]? = some r → m[j]? = some row → H r = none ∧ F' r = none ∧ ∃ xs, H' r = some (.lst xs) ∧ Rps F' xs row
def HNm (Z : Ctx) (b : Bs) (e : Expr) (en : En) (m : List (List PyData)) : Prop :=
  ∀ (σ : L2.St) (F H : Hp), Rel Z.K b en σ F H → ∀ Q : VK, (∀ a rs F' H', Rel Z.K b en σ F' H' → Grow b.g F H F' H' → NewM H F' H' a rs m → Q (.ref a) H') → ∃ t, (∀ i, PE (Z.X i) e t) ∧ t σ H Q
theorem NewM.rowAt {H F' H' : Hp} {a : Addr} {rs : List Addr} {m : List (List PyData)} (N : NewM H F' H' a rs m) {r : Addr} (h : r ∈ rs) : H r = none ∧ F' r = none ∧ ∃ xs, H' r = some (.lst xs) := by
  obtain ⟨j, hj⟩ := List.getElem?_of_mem h
  have hl : j < m.length := by rw [← N.ln]; exact (List.getElem?_eq_some_iff.mp hj).1
  obtain ⟨z1, z2, xs, z3, _⟩ := N.row j r _ hj (List.getElem?_eq_getElem hl)
  exact ⟨z1, z2, xs, z3⟩
theorem rps_refs {F : Hp} : ∀ {rs : List Addr} {m : List (List PyData)}, rs.length = m.length → (∀ (j : Nat) (r : Addr) (row : List PyData), rs[j]? = some r → m[j]? = some row → Rp F (.ref r) (.list row)) → Rps F (rs.map V.ref) (m.map .list)
  | [], [], _, _ => .nil
  | r :: rs, x :: m, h, k => .cons (k 0 r x rfl rfl) (rps_refs (by simpa using h) fun j r x h1 h2 => k (j + 1) r x (by simpa using h1) (by simpa using h2))
  | [], _ :: _, h, _ => by simp at h
  | _ :: _, [], h, _ => by simp at h
/-- all of it is frozen -/
theorem NewM.frz {g : Option Addr} {F H F' H' : Hp} {a : Addr} {rs : List Addr} {m : List (List PyData)} (G : Grow g F H F' H') (N : NewM H F' H' a rs m) : ∃ F2, Grow g F H F2 H' ∧ Grow g F' H F2 H' ∧ Rp F2 (.ref a) (.list (m.map .list)) := by
  have base : ∀ F0 : Hp, Same F0 F' → (∀ c o, H c = some o → F' c = F0 c) → Grow g F0 H (fun c => if c = a ∨ c ∈ rs then H' c else F' c) H' := fun F0 s f => by
    refine ⟨fun c u h => ?_, fun c u h => ?_, G.h, fun c u h => ?_⟩
    · have h' := s c u h
      show (if c = a ∨ c ∈ rs then H' c else F' c) = some u
      rw [if_neg]
      · exact h'
      · rintro (e | e)
        · subst e; rw [N.a1] at h'; cases h'
        · rw [(N.rowAt e).2.1] at h'; cases h'
    · have h : (if c = a ∨ c ∈ rs then H' c else F' c) = some u := h
      by_cases q : c = a ∨ c ∈ rs
      · rw [if_pos q] at h; exact h
      · rw [if_neg q] at h; exact G.fh c u h
    · show (if c = a ∨ c ∈ rs then H' c else F' c) = F0 c
      rw [if_neg]
      · exact f c u h
      · rintro (e | e)
        · subst e; rw [N.a0] at h; cases h
        · rw [(N.rowAt e).1] at h; cases h
  have s2 : Same F' (fun c => if c = a ∨ c ∈ rs then H' c else F' c) := (base F' (Same.refl _) fun _ _ _ => rfl).f
  refine ⟨_, base F G.f G.fr, base F' (Same.refl _) fun _ _ _ => rfl, .lst (xs := rs.map V.ref) ?_ (rps_refs N.ln fun j r row h1 h2 => ?_)⟩
  · show (if a = a ∨ a ∈ rs then H' a else F' a) = _
    rw [if_pos (.inl rfl)]; exact N.a2
  · obtain ⟨_, _, xs, z3, z4⟩ := N.row j r row h1 h2
    refine .lst (xs := xs) ?_ (z4.up s2)
    show (if r = a ∨ r ∈ rs then H' r else F' r) = _
    rw [if_pos (.inr (List.mem_of_getElem? h1))]; exact z3
section
variable {Z : Ctx} {bs : Bs} {en : En} {a b c e : Expr} {es : List Expr} {pos p : Pos} {P Pa Pb : PyData → Prop} {d : PyData} {ds : List PyData} {m : List (List PyData)}
theorem HNm.he (h : HNm Z bs e en m) : HV Z bs e en (.list (m.map .list)) := fun σ F H R Q q => by
  obtain ⟨t, h1, h2⟩ := h σ F H R Q (fun a rs F' H' R' G N => by
    obtain ⟨F2, G2, G3, rp⟩ := N.frz G
    exact q _ _ F2 H' (R.grow G2) G2 rp rfl)
  exact ⟨t, h1, h2⟩
theorem HNl.he (h : HNl Z bs e en ds) : HV Z bs e en (.list ds) := fun σ F H R Q q => by
  obtain ⟨t, h1, h2⟩ := h σ F H R Q (fun a xs F' H' R' G h0 h1 h2 r => by
    have G2 := G.frz h0 h1 h2
    have sm : Same F' (upd F' a (.lst xs)) := fun c u h => by rw [upd_ne (ne_of_none h h1)]; exact h
    exact q _ _ _ H' (R.grow G2) G2 (.lst upd_same (r.up sm)) rfl)
  exact ⟨t, h1, h2⟩
/-- [x] * n -/
theorem HNl_rep {z : PyData} {n : Nat} (ha : HV Z bs a en (.list [z])) (hb : HV Z bs b en (.int (n : Int))) (hl : n ≤ 100000) : HNl Z bs (.BinOp a .Mult b pos) en (List.replicate n z) := fun σ F H R Q q => by
  refine ⟨_, fun i => pe_op op_rep (pe_tE Z a i) (pe_tE Z b i), ?_⟩
  refine ha σ F H R _ fun x dx F1 H1 R1 s1 rx px => ?_
  refine hb σ F1 H1 R1 _ fun y dy F2 H2 R2 s2 ry py => ?_
  have rx := rx.up s2.f
  subst px py
  cases ry
  cases rx with
  | lst h1 h2 =>
    cases h2 with
    | @cons v0 _ _ _ r1 r2 =>
      cases r2
      refine ⟨_, _, _, rfl, rfl, R2.fh _ _ h1, by omega, by omega, lenOk (by simp; exact hl), fun p hp => ?_⟩
      rw [Int.toNat_natCast, flatten_one]
      have G := s1.trans s2
      have hp0 : H p = none := by
        cases z : H p with
        | none => rfl
        | some u => rw [G.h p u z] at hp; cases hp
      have G2 : Grow bs.g F H F2 (upd H2 p (.lst (List.replicate n v0))) := G.mut hp0 (R2.fnone hp)
      exact q p _ F2 _ (R.grow G2) G2 hp0 (R2.fnone hp) upd_same (rps_rep r1 n)
/-- the reading of [elt for tg in it if ..]: the list is new -/
theorem lc_readN {tg elt : Expr} {scope : Scope} {α : Type} {xs : List α} {c h : α → PyData} {pr : α → Bool} {f : En → PyData → En → Prop} {g : TG} {tt : TT} {vs : List Nat} {wi : TI} {σ : L2.St} {F H : Hp} {Q : VK} (R0 : Rel Z.K bs en σ F H)
    (hgr : ∀ (en : En) (σ : L2.St) (F H : Hp) (v : V) (d : PyData) (en' : En), Rel Z.K bs en σ F H → Rp F v d → f en d en' → ∀ Q : L2.St → Hp → Prop, (∀ σ', Rel Z.K bs en' σ' F H → (∀ j, j ∉ vs → σ'[j]? = σ[j]?) → σ'.length = σ.length → Q σ' H) → g v σ H Q)
    (hx : ∀ x ∈ xs, ∃ en', f (en.wipe vs) (c x) en' ∧
      (∀ σ F H, Rel Z.K bs en' σ F H → ∀ Q : Bool → Hp → Prop, (∀ k F' H', Rel Z.K bs en' σ F' H' → Grow bs.g F H F' H' → k = pr x → Q k H') → tt σ H Q) ∧
      (pr x = true → HV (Z.blk scope) bs elt en' (h x)))
    (hl : xs.length ≤ 100000)
    (hwi : ∀ R : It → Hp → Prop, (∀ J F' H', Rel Z.K bs en σ F' H' → Grow bs.g F H F' H' → ItR bs.g F' J (xs.map c) → R J H') → wi σ H R)
    (q : ∀ a acc F' H', Rel Z.K bs en σ F' H' → Grow bs.g F H F' H' → H a = none → F' a = none → H' a = some (.lst acc) → Rps F' acc ((xs.filter pr).map h) → Q (.ref a) H') :
    tLc wi g tt (tE (Z.blk scope) elt) vs σ H Q := by
  refine hwi _ fun J F1 H1 R1 G1 I => ?_
  intro D hD
  have fD : F1 D = none := R1.fnone hD
  have hD0 : H D = none := by
    cases z : H D with
    | none => rfl
    | some u => rw [G1.h D u z] at hD; cases hD
  have hlen : (xs.map c).length = xs.length := List.length_map _
  refine ⟨fun k m H => m = xs.length - k ∧ k ≤ xs.length ∧ ∃ Fk acc, Grow bs.g F1 H1 Fk H ∧ Fk D = none ∧ H D = some (.lst acc) ∧ Rps Fk acc (((xs.take k).filter pr).map h), ⟨xs.length, rfl, Nat.zero_le _, F1, [], R1.gid.mut hD fD, fD, upd_same, .nil⟩, ?_⟩
  rintro k m H2 ⟨em, hk, F2, acc, G2, fD2, hD2, ra⟩
  by_cases hlt : k < xs.length
  · refine .inr ⟨I.go k F2 H2 G2.f G2.fh (by rw [hlen]; exact hlt), fun H' => ∃ Fk acc, Grow bs.g F1 H1 Fk H' ∧ Fk D = none ∧ H' D = some (.lst acc) ∧ Rps Fk acc (((xs.take (k + 1)).filter pr).map h), fun H' ⟨Fk, acc, w⟩ => ⟨xs.length - (k + 1), by omega, rfl, hlt, Fk, acc, w⟩, fun x H3 y => ?_⟩
    have hxk : xs[k]? = some xs[k] := List.getElem?_eq_getElem hlt
    obtain ⟨F3, G3, r3⟩ := I.yl k F2 H2 x H3 (c xs[k]) G2.f G2.fh (by rw [List.getElem?_map, hxk]; rfl) y
    have R3 : Rel Z.K bs en σ F3 H3 := R1.grow (G2.trans G3)
    obtain ⟨en', p1, p2, p3⟩ := hx xs[k] (List.getElem_mem hlt)
    refine hgr _ (L2.wipe σ vs) F3 H3 x _ en' (R3.wipe vs) r3 p1 _ fun σ4 R4 k4 l4 => ⟨(wipe_same l4 k4).trans wipe_wipe, ?_⟩
    have hD3 : H3 D = some (.lst acc) := G3.h D _ hD2
    have fD3 : F3 D = none := (G3.fr D _ hD2).trans fD2
    have tk : xs.take (k + 1) = xs.take k ++ [xs[k]] := by rw [List.take_add_one, hxk]; rfl
    refine p2 σ4 F3 H3 R4 _ fun b F5 H5 R5 G5 eb => ?_
    have hD5 : H5 D = some (.lst acc) := G5.h D _ hD3
    have fD5 : F5 D = none := (G5.fr D _ hD3).trans fD3
    subst eb
    cases hb : pr xs[k] with
    | false =>
      rw [if_neg (by decide)]
      refine ⟨F5, acc, (G2.trans G3).trans G5, fD5, hD5, ?_⟩
      rw [tk, List.filter_append, show [xs[k]].filter pr = [] by simp [hb], List.append_nil]
      exact (ra.up G3.f).up G5.f
    | true =>
      rw [if_pos rfl]
      refine (p3 hb) σ4 F5 H5 R5 _ fun v d F6 H6 R6 G6 r6 ed => ?_
      subst ed
      have hD6 : H6 D = some (.lst acc) := G6.h D _ hD5
      have fD6 : F6 D = none := (G6.fr D _ hD5).trans fD5
      refine ⟨acc, hD6, ?_, F6, acc ++ [v], Grow.mut (((G2.trans G3).trans G5).trans G6) hD fD6, fD6, upd_same, ?_⟩
      · rw [ra.len, List.length_map]
        have h1 := List.length_filter_le pr (xs.take k)
        have h2 : (xs.take k).length ≤ k := by rw [List.length_take]; omega
        exact lenLt (by omega)
      · rw [tk, List.filter_append, show [xs[k]].filter pr = [xs[k]] by simp [hb], List.map_append]
        exact (((ra.up G3.f).up G5.f).up G6.f).snoc r6
  · have ek : k = xs.length := by omega
    subst ek
    refine .inl ⟨I.st _ F2 H2 G2.f G2.fh (by rw [hlen]; exact Nat.le_refl _), ?_⟩
    rw [List.take_length] at ra
    exact q D acc F2 H2 (R1.grow G2) (G1.trans G2) hD0 fD2 hD2 ra
/-- [elt for tg in it], new -/
theorem HNl_lc {tg it elt : Expr} {scope : Scope} {own : List (Str × Nat)} {α : Type} {xs : List α} {c h : α → PyData} {f : En → PyData → En → Prop} (hi : HI Z bs tg it en (xs.map c)) (ok : BlkOk Z.N Z.sc scope own) (hg : HG (Z.blk scope) tg (own.map (·.2)) f)
    (hx : ∀ x ∈ xs, ∃ en', f (en.wipe (own.map (·.2))) (c x) en' ∧ HV (Z.blk scope) bs elt en' (h x)) (hl : xs.length ≤ 100000) (hs : FoldN Z it := by intro _ _; rfl) : HNl Z bs (.ListComp elt [⟨tg, it, [], 0⟩] scope pos) en (xs.map h) := fun σ F H R Q q => by
  obtain ⟨g, a1, b1⟩ := hg
  refine ⟨tLc (fun σ' H' R' => ∃ wi, (∀ i, PI (Z.X i) tg it wi) ∧ wi σ' H' R') g tYes (tE (Z.blk scope) elt) (own.map (·.2)), fun i => ?_, ?_⟩
  · refine pe_lc (Z.hc i) (by rw [Z.hN]; exact Z.nd) ⟨fun pins s σ H R I ⟨wi, h1, h2⟩ => (h1 i).run pins s σ H R I h2⟩ (by rw [Z.hN, Z.hs]; exact ok) (fun s H C cl fp => a1 (i, s, H, C, cl, fp)) (fun s H C cl fp => pts_nil) (fun s H C cl fp => pe_tE (Z.blk scope) elt (i, s, H, C, cl, fp)) (hs i)
  · refine lc_readN (tg := tg) (pr := fun _ => true) R (fun en σ F H v d en' => b1 bs en σ F H v d en') (fun x hm => by
      obtain ⟨en', p1, p2⟩ := hx x hm
      exact ⟨en', p1, tt_yes rfl, fun _ => p2⟩) hl (fun R' k => hi σ F H R R' k) fun a acc F' H' R' G h0 h1 h2 r => ?_
    rw [List.filter_eq_self.mpr (fun _ _ => rfl)] at r
    exact q a acc F' H' R' G h0 h1 h2 r
theorem lcm_read {tg elt : Expr} {scope : Scope} {α : Type} {xs : List α} {c : α → PyData} {h : α → List PyData} {f : En → PyData → En → Prop} {g : TG} {tt : TT} {vs : List Nat} {wi : TI} {σ : L2.St} {F H : Hp} {Q : VK}
    (hgr : ∀ (en : En) (σ : L2.St) (F H : Hp) (v : V) (d : PyData) (en' : En), Rel Z.K bs en σ F H → Rp F v d → f en d en' → ∀ Q : L2.St → Hp → Prop, (∀ σ', Rel Z.K bs en' σ' F H → (∀ j, j ∉ vs → σ'[j]? = σ[j]?) → σ'.length = σ.length → Q σ' H) → g v σ H Q)
    (hx : ∀ x ∈ xs, ∃ en', f (en.wipe vs) (c x) en' ∧
      (∀ σ F H, Rel Z.K bs en' σ F H → ∀ Q : Bool → Hp → Prop, (∀ k F' H', Rel Z.K bs en' σ F' H' → Grow bs.g F H F' H' → k = true → Q k H') → tt σ H Q) ∧
      HNl (Z.blk scope) bs elt en' (h x))
    (hl : xs.length ≤ 100000)
    (hwi : ∀ R : It → Hp → Prop, (∀ J F' H', Rel Z.K bs en σ F' H' → Grow bs.g F H F' H' → ItR bs.g F' J (xs.map c) → R J H') → wi σ H R)
    (q : ∀ a rs F' H', Rel Z.K bs en σ F' H' → Grow bs.g F H F' H' → NewM H F' H' a rs (xs.map h) → Q (.ref a) H') :
    tLc wi g tt (tE (Z.blk scope) elt) vs σ H Q := by
  refine hwi _ fun J F1 H1 R1 G1 I => ?_
  intro D hD
  have fD : F1 D = none := R1.fnone hD
  have back : ∀ c, H1 c = none → H c = none := fun c hc => by
    cases z : H c with
    | none => rfl
    | some u => rw [G1.h c u z] at hc; cases hc
  have hlen : (xs.map c).length = xs.length := List.length_map _
  refine ⟨fun k m H => m = xs.length - k ∧ k ≤ xs.length ∧ ∃ Fk rs, Grow bs.g F1 H1 Fk H ∧ Fk D = none ∧ H D = some (.lst (rs.map V.ref)) ∧ rs.Nodup ∧ D ∉ rs ∧ rs.length = k ∧ ∀ (j : Nat) (r : Addr) (row : List PyData), rs[j]? = some r → (xs.map h)[j]? = some row → H1 r = none ∧ Fk r = none ∧ ∃ ys, H r = some (.lst ys) ∧ Rps Fk ys row, ⟨xs.length, rfl, Nat.zero_le _, F1, [], R1.gid.mut hD fD, fD, upd_same, List.nodup_nil, (fun h => nomatch h), rfl, fun j r row h _ => by simp at h⟩, ?_⟩
  rintro k m H2 ⟨em, hk, F2, rs, G2, fD2, hD2, nd, dn, rl, rows⟩
  by_cases hlt : k < xs.length
  · refine .inr ⟨I.go k F2 H2 G2.f G2.fh (by rw [hlen]; exact hlt), fun H' => ∃ Fk rs, Grow bs.g F1 H1 Fk H' ∧ Fk D = none ∧ H' D = some (.lst (rs.map V.ref)) ∧ rs.Nodup ∧ D ∉ rs ∧ rs.length = k + 1 ∧ ∀ (j : Nat) (r : Addr) (row : List PyData), rs[j]? = some r → (xs.map h)[j]? = some row → H1 r = none ∧ Fk r = none ∧ ∃ ys, H' r = some (.lst ys) ∧ Rps Fk ys row, fun H' ⟨Fk, rs, w⟩ => ⟨xs.length - (k + 1), by omega, rfl, hlt, Fk, rs, w⟩, fun x H3 y => ?_⟩
    have hxk : xs[k]? = some xs[k] := List.getElem?_eq_getElem hlt
    obtain ⟨F3, G3, r3⟩ := I.yl k F2 H2 x H3 (c xs[k]) G2.f G2.fh (by rw [List.getElem?_map, hxk]; rfl) y
    have R3 : Rel Z.K bs en σ F3 H3 := R1.grow (G2.trans G3)
    obtain ⟨en', p1, p2, p3⟩ := hx xs[k] (List.getElem_mem hlt)
    refine hgr _ (L2.wipe σ vs) F3 H3 x _ en' (R3.wipe vs) r3 p1 _ fun σ4 R4 k4 l4 => ⟨(wipe_same l4 k4).trans wipe_wipe, ?_⟩
    have hD3 : H3 D = some (.lst (rs.map V.ref)) := G3.h D _ hD2
    have fD3 : F3 D = none := (G3.fr D _ hD2).trans fD2
    refine p2 σ4 F3 H3 R4 _ fun b F5 H5 R5 G5 eb => ?_
    subst eb
    rw [if_pos rfl]
    have G35 := G3.trans G5
    refine p3 σ4 F5 H5 R5 _ fun a ys F6 H6 R6 G6 h50 fa6 ha6 r6 => ?_
    have hD5 : H5 D = some (.lst (rs.map V.ref)) := G5.h D _ hD3
    have fD5 : F5 D = none := (G5.fr D _ hD3).trans fD3
    have hD6 : H6 D = some (.lst (rs.map V.ref)) := G6.h D _ hD5
    have fD6 : F6 D = none := (G6.fr D _ hD5).trans fD5
    have aD : a ≠ D := fun e => by rw [e, hD5] at h50; cases h50
    have gt : Grow bs.g F1 H1 F6 H6 := (G2.trans G35).trans G6
    have ha1 : H1 a = none := by
      cases z : H1 a with
      | none => rfl
      | some u => rw [(G2.trans G35).h a u z] at h50; cases h50
    have oldr : ∀ r ∈ rs, ∃ ys, H5 r = some (.lst ys) := fun r hr => by
      obtain ⟨j, hj⟩ := List.getElem?_of_mem hr
      have hjl : j < k := by rw [← rl]; exact (List.getElem?_eq_some_iff.mp hj).1
      obtain ⟨_, _, ys, z, _⟩ := rows j r _ hj (by rw [List.getElem?_map, List.getElem?_eq_getElem (by omega)]; rfl)
      exact ⟨ys, G35.h r _ z⟩
    have an : a ∉ rs := fun hr => by
      obtain ⟨ys, z⟩ := oldr a hr
      rw [h50] at z; cases z
    refine ⟨rs.map V.ref, hD6, ?_, F6, rs ++ [a], gt.mut hD fD6, fD6, by rw [List.map_append]; exact upd_same, ?_, ?_, ?_, fun j r row hj hrow => ?_⟩
    · rw [List.length_map, rl]; exact lenLt (by omega)
    · refine List.nodup_append.mpr ⟨nd, by simp, fun x hx y hy e => ?_⟩
      rw [List.mem_singleton] at hy
      exact an (by rw [← hy, ← e]; exact hx)
    · intro hm
      rcases List.mem_append.mp hm with q | q
      · exact dn q
      · rw [List.mem_singleton] at q; exact aD q.symm
    · rw [List.length_append, rl]; rfl
    · by_cases hjk : j < k
      · rw [List.getElem?_append_left (by omega)] at hj
        obtain ⟨z1, z2, ys', z3, z4⟩ := rows j r row hj hrow
        have rD : r ≠ D := fun e => dn (by rw [← e]; exact List.mem_of_getElem? hj)
        refine ⟨z1, (G6.fr r _ (G35.h r _ z3)).trans ((G35.fr r _ z3).trans z2), ys', by rw [upd_ne rD]; exact G6.h r _ (G35.h r _ z3), (z4.up G35.f).up G6.f⟩
      · rw [List.getElem?_append_right (by omega), rl] at hj
        have : j = k := by
          have := (List.getElem?_eq_some_iff.mp hj).1
          simp at this; omega
        subst this
        rw [Nat.sub_self] at hj
        cases hj
        rw [List.getElem?_map, hxk] at hrow
        cases hrow
        exact ⟨ha1, fa6, ys, by rw [upd_ne aD]; exact ha6, r6⟩
  · have ek : k = xs.length := by omega
    subst ek
    refine .inl ⟨I.st _ F2 H2 G2.f G2.fh (by rw [hlen]; exact Nat.le_refl _), ?_⟩
    exact q D rs F2 H2 (R1.grow G2) (G1.trans G2) ⟨back D hD, fD2, hD2, nd, dn, by rw [rl, List.length_map], fun j r row h1 h2 => by
      obtain ⟨z1, z2, w⟩ := rows j r row h1 h2
      exact ⟨back r z1, z2, w⟩⟩
/-- [elt for tg in it] with elt new each time: a new matrix -/
theorem HNm_lc {tg it elt : Expr} {scope : Scope} {own : List (Str × Nat)} {α : Type} {xs : List α} {c : α → PyData} {h : α → List PyData} {f : En → PyData → En → Prop} (hi : HI Z bs tg it en (xs.map c)) (ok : BlkOk Z.N Z.sc scope own) (hg : HG (Z.blk scope) tg (own.map (·.2)) f)
    (hx : ∀ x ∈ xs, ∃ en', f (en.wipe (own.map (·.2))) (c x) en' ∧ HNl (Z.blk scope) bs elt en' (h x)) (hl : xs.length ≤ 100000) (hs : FoldN Z it := by intro _ _; rfl) : HNm Z bs (.ListComp elt [⟨tg, it, [], 0⟩] scope pos) en (xs.map h) := fun σ F H R Q q => by
  obtain ⟨g, a1, b1⟩ := hg
  refine ⟨tLc (fun σ' H' R' => ∃ wi, (∀ i, PI (Z.X i) tg it wi) ∧ wi σ' H' R') g tYes (tE (Z.blk scope) elt) (own.map (·.2)), fun i => ?_, ?_⟩
  · refine pe_lc (Z.hc i) (by rw [Z.hN]; exact Z.nd) ⟨fun pins s σ H R I ⟨wi, h1, h2⟩ => (h1 i).run pins s σ H R I h2⟩ (by rw [Z.hN, Z.hs]; exact ok) (fun s H C cl fp => a1 (i, s, H, C, cl, fp)) (fun s H C cl fp => pts_nil) (fun s H C cl fp => pe_tE (Z.blk scope) elt (i, s, H, C, cl, fp)) (hs i)
  · exact lcm_read (tg := tg) (fun en σ F H v d en' => b1 bs en σ F H v d en') (fun x hm => by
      obtain ⟨en', p1, p2⟩ := hx x hm
      exact ⟨en', p1, tt_yes rfl, p2⟩) hl (fun R' k => hi σ F H R R' k) q
end
end WS
set_option Elab.async false
set_option linter.all false
set_option maxRecDepth 100000
set_option maxHeartbeats 4000000
set_option autoImplicit false
namespace WS
open PySem PySem.Spec PyProof.Rows L2

section
variable {K : PySem.W.Frag} {b : Bs} {en : En} {σ : L2.St} {F H F' H' : Hp} {a : Addr} {rs : List Addr} {m : List (List PyData)} {ds : List PyData}
theorem Rel.newM (R : Rel K b en σ F H) (R' : Rel K b en σ F' H') (N : NewM H F' H' a rs m) (no : noOwn en.sl = true) : Rel K b (en.own (.mat a rs m)) σ F' H' :=
  R'.ownTo R'.fh (fun _ _ _ h => h) (fun _ _ _ h => h) ⟨R.h0none N.a0, N.a1, N.a2, N.nd, N.na, N.ln, fun j r row h1 h2 => by
    obtain ⟨z1, z2, z3⟩ := N.row j r row h1 h2
    exact ⟨R.h0none z1, z2, z3⟩⟩ (noOwn_at no)
theorem Rel.newL {xs : List V} (R : Rel K b en σ F H) (R' : Rel K b en σ F' H') (h0 : H a = none) (h1 : F' a = none) (h2 : H' a = some (.lst xs)) (h3 : Rps F' xs ds) (no : noOwn en.sl = true) : Rel K b (en.own (.lst a ds)) σ F' H' :=
  R'.ownTo R'.fh (fun _ _ _ h => h) (fun _ _ _ h => h) ⟨R.h0none h0, h1, xs, h2, h3⟩ (noOwn_at no)
/-- a row's content changes -/
theorem Rel.ownMutM (R : Rel K b en σ F H) (hw : en.ow = .mat a rs m) {j : Nat} {r : Addr} {xs : List V} {row row' : List PyData} (hj : rs[j]? = some r) (hm : m[j]? = some row) (hx : Rps F xs row') : Rel K b (en.own (.mat a rs (m.set j row'))) σ F (upd H r (.lst xs)) := by
  have q := R.ow
  rw [hw] at q
  obtain ⟨q1, q2, q3, q4, q5, q6, q7⟩ := q
  obtain ⟨y1, y2, ys, y3, y4⟩ := q7 j r row hj hm
  have nM : ¬ b.M r := R.own_ne y1
  have ra : a ≠ r := fun e => q5 (by rw [e]; exact List.mem_of_getElem? hj)
  refine ⟨R.bo, R.ff, fun c u h => by rw [upd_ne (ne_of_none h y2)]; exact R.fh c u h, fun c o h n => by rw [upd_ne (ne_of_none h y1)]; exact R.hh c o h n, R.fr, fun g hg => ?_, fun o ho => ?_, R.ln, fun i e h => ?_, ⟨q1, q2, by rw [upd_ne ra]; exact q3, q4, q5, by rw [List.length_set]; exact q6, fun j' r' row'' h1 h2 => ?_⟩⟩
  · obtain ⟨x, y, z, w, s⟩ := R.gn g hg
    exact ⟨x, y, z, by rw [upd_ne (show g ≠ r from fun e => nM (.inl (by rw [← e]; exact hg)))]; exact w, s⟩
  · exact (R.ob o ho).keep (Same.refl F) (fun u q => by rw [upd_ne (show o.p ≠ r from fun e => nM (.inr ⟨o, ho, .inl e.symm⟩))]; exact q) (fun l u hl q => by rw [upd_ne (show l ≠ r from fun e => nM (.inr ⟨o, ho, .inr (by rw [← e]; exact hl)⟩))]; exact q)
  · have z := R.sl i e h
    cases e with
    | own =>
      rw [hw] at z
      exact z
    | _ => exact z
  · by_cases e : j' = j
    · subst e
      rw [hj] at h1; cases h1
      have hl : j' < m.length := (List.getElem?_eq_some_iff.mp hm).1
      rw [List.getElem?_set_self hl] at h2
      cases h2
      exact ⟨y1, y2, xs, upd_same, hx⟩
    · rw [List.getElem?_set_ne (fun z => e z.symm)] at h2
      obtain ⟨z1, z2, zs, z3, z4⟩ := q7 j' r' row'' h1 h2
      have rr : r' ≠ r := fun z => by
        have l1 := (List.getElem?_eq_some_iff.mp h1).1
        have this : rs[j']? = rs[j]? := by rw [h1, hj, z]
        exact e ((List.getElem?_inj l1 q4).mp this)
      exact ⟨z1, z2, zs, by rw [upd_ne rr]; exact z3, z4⟩
theorem Rel.frzM (R : Rel K b en σ F H) (hw : en.ow = .mat a rs m) : ∃ F', Same F F' ∧ Rel K b en.frz σ F' H := by
  have q := R.ow
  rw [hw] at q
  obtain ⟨q1, q2, q3, q4, q5, q6, q7⟩ := q
  have rowAt : ∀ r ∈ rs, F r = none ∧ b.H0 r = none := fun r h => by
    obtain ⟨j, hj⟩ := List.getElem?_of_mem h
    have hl : j < m.length := by rw [← q6]; exact (List.getElem?_eq_some_iff.mp hj).1
    obtain ⟨z1, z2, xs, z3, _⟩ := q7 j r _ hj (List.getElem?_eq_getElem hl)
    exact ⟨z2, z1⟩
  have sm : Same F (fun c => if c = a ∨ c ∈ rs then H c else F c) := fun c u h => by
    show (if c = a ∨ c ∈ rs then H c else F c) = some u
    rw [if_neg]
    · exact h
    · rintro (e | e)
      · subst e; rw [q2] at h; cases h
      · rw [(rowAt c e).1] at h; cases h
  have rp : Rp (fun c => if c = a ∨ c ∈ rs then H c else F c) (.ref a) (.list (m.map .list)) := .lst (xs := rs.map V.ref) (by
      show (if a = a ∨ a ∈ rs then H a else F a) = _
      rw [if_pos (.inl rfl)]; exact q3) (rps_refs q6 fun j r row h1 h2 => by
    obtain ⟨_, _, xs, z3, z4⟩ := q7 j r row h1 h2
    refine .lst (xs := xs) ?_ (z4.up sm)
    show (if r = a ∨ r ∈ rs then H r else F r) = _
    rw [if_pos (.inr (List.mem_of_getElem? h1))]; exact z3)
  refine ⟨_, sm, R.bo, R.ff.trans sm, fun c u h => ?_, R.hh, fun c o h => ?_, R.gn, fun o ho => ?_, by simp [En.frz, R.ln], fun i e h => ?_, trivial⟩
  · have h : (if c = a ∨ c ∈ rs then H c else F c) = some u := h
    by_cases z : c = a ∨ c ∈ rs
    · rw [if_pos z] at h; exact h
    · rw [if_neg z] at h; exact R.fh c u h
  · show (if c = a ∨ c ∈ rs then H c else F c) = b.F0 c
    rw [if_neg]
    · exact R.fr c o h
    · rintro (e | e)
      · subst e; rw [q1] at h; cases h
      · rw [(rowAt c e).2] at h; cases h
  · exact (R.ob o ho).keep sm (fun u q => q) (fun l u _ q => q)
  · have h : (en.sl.map (frzE en.ow))[i]? = some e := h
    rw [List.getElem?_map] at h
    cases he : en.sl[i]? with
    | none => rw [he] at h; cases h
    | some e0 =>
      rw [he] at h
      have h : frzE en.ow e0 = e := Option.some.inj h
      have z := R.sl i e0 he
      subst h
      cases e0 with
      | own =>
        rw [hw] at z ⊢
        exact ⟨_, z, rp⟩
      | dat d => obtain ⟨v, e1, e2⟩ := z; exact ⟨v, e1, e2.up sm⟩
      | _ => exact z
end
section
variable {Z : Ctx} {bs : Bs} {en : En} {st : Stmt} {rest ts : List Stmt} {e a b c : Expr} {es : List Expr} {pos : Pos} {Φ : DE} {P : PyData → Prop} {m : List (List PyData)} {ds : List PyData}
theorem HT_frzM {a : Addr} {rs : List Addr} (hw : en.ow = .mat a rs m) (h : HT Z bs ts en.frz Φ) : HT Z bs ts en Φ := fun σ F H R D q r => by
  obtain ⟨F', s, R'⟩ := R.frzM hw
  exact h σ F' H R' D (fun en' σ' F2 H2 R2 s2 p => q en' σ' F2 H2 R2 (s.trans s2) p) r

/-! ### values of which one may be new -/
inductive EntRs (K : PySem.W.Frag) (b : Bs) (w : Own) (F : Hp) : List V → List Ent → Prop
  | nil : EntRs K b w F [] []
  | cons {v : V} {vs : List V} {e : Ent} {es : List Ent} : EntR K b w F (some (some v)) e → EntRs K b w F vs es → EntRs K b w F (v :: vs) (e :: es)
def HAe (Z : Ctx) (b : Bs) (es : List Expr) (en : En) (P : Own → List Ent → Prop) : Prop :=
  ∀ (σ : L2.St) (F H : Hp), Rel Z.K b en σ F H → ∀ Q : List V → Hp → Prop, (∀ w vs ens F' H', Rel Z.K b (en.own w) σ F' H' → Same F F' → EntRs Z.K b w F' vs ens → P w ens → Q vs H') → ∃ t, (∀ i, PA (Z.X i) es t) ∧ t σ H Q
theorem HAe_nil {P : Own → List Ent → Prop} (h : P en.ow []) : HAe Z bs [] en P := fun σ F H R Q q => ⟨tNil, fun _ => pa_nil, q en.ow [] [] F H R (Same.refl F) .nil h⟩
theorem HAe_dat {Pd : PyData → Prop} {P : Own → List Ent → Prop} (ha : HE Z bs e en Pd) (hr : ∀ d, Pd d → HAe Z bs es en fun w ens => P w (.dat d :: ens))
    (hs : ∀ i, starEach (e :: es) (Z.X i).env = (false, eval e (Z.X i).env) :: starEach es (Z.X i).env := by intro _; rfl) : HAe Z bs (e :: es) en P := fun σ F H R Q q => by
  refine ⟨_, fun i => pa_cons (pe_tE Z e i) (pa_tA Z es i) (hs i), ha σ F H R _ fun v d F1 H1 R1 s1 r1 p1 => ?_⟩
  refine hr d p1 σ F1 H1 R1 _ fun w vs ens F2 H2 R2 s2 r2 p2 => ?_
  exact q w (v :: vs) (.dat d :: ens) F2 H2 R2 (s1.f.trans s2) (.cons (e := Ent.dat d) ⟨v, rfl, r1.up s2⟩ r2) p2
theorem HAe_mat {P : Own → List Ent → Prop} (ha : HNm Z bs e en m) (hr : ∀ a rs, HAe Z bs es (en.own (.mat a rs m)) fun w ens => w = .mat a rs m ∧ P w (.own :: ens)) (no : noOwn en.sl = true := by rfl)
    (hs : ∀ i, starEach (e :: es) (Z.X i).env = (false, eval e (Z.X i).env) :: starEach es (Z.X i).env := by intro _; rfl) : HAe Z bs (e :: es) en P := fun σ F H R Q q => by
  refine ⟨_, fun i => pa_cons (pe_tE Z e i) (pa_tA Z es i) (hs i), ?_⟩
  obtain ⟨t, h1, h2⟩ := ha σ F H R (fun v H1 => tAr Z es σ H1 fun vs H2 => Q (v :: vs) H2) (fun a rs F1 H1 R1 s1 N => by
    refine hr a rs σ F1 H1 (R.newM R1 N no) _ fun w vs ens F2 H2 R2 s2 r2 p2 => ?_
    obtain ⟨e1, p2⟩ := p2
    subst e1
    exact q _ (.ref a :: vs) (.own :: ens) F2 H2 R2 (s1.f.trans s2) (.cons (e := Ent.own) (show some (some (V.ref a)) = some (some (V.ref a)) from rfl) r2) p2)
  exact ⟨t, h1, h2⟩
theorem HAe_lst {P : Own → List Ent → Prop} (ha : HNl Z bs e en ds) (hr : ∀ a, HAe Z bs es (en.own (.lst a ds)) fun w ens => w = .lst a ds ∧ P w (.own :: ens)) (no : noOwn en.sl = true := by rfl)
    (hs : ∀ i, starEach (e :: es) (Z.X i).env = (false, eval e (Z.X i).env) :: starEach es (Z.X i).env := by intro _; rfl) : HAe Z bs (e :: es) en P := fun σ F H R Q q => by
  refine ⟨_, fun i => pa_cons (pe_tE Z e i) (pa_tA Z es i) (hs i), ?_⟩
  obtain ⟨t, h1, h2⟩ := ha σ F H R (fun v H1 => tAr Z es σ H1 fun vs H2 => Q (v :: vs) H2) (fun a xs F1 H1 R1 s1 h0 h1 h2 h3 => by
    refine hr a σ F1 H1 (R.newL R1 h0 h1 h2 h3 no) _ fun w vs ens F2 H2 R2 s2 r2 p2 => ?_
    obtain ⟨e1, p2⟩ := p2
    subst e1
    exact q _ (.ref a :: vs) (.own :: ens) F2 H2 R2 (s1.f.trans s2) (.cons (e := Ent.own) (show some (some (V.ref a)) = some (some (V.ref a)) from rfl) r2) p2)
  exact ⟨t, h1, h2⟩
/-- x = a new matrix -/
theorem HS_setM {i : Nat} {x : Str} {px : Pos} (h : HNm Z bs e en m) (k : ∀ a rs, Φ.nx ((en.own (.mat a rs m)).set i .own)) (no : noOwn en.sl = true := by rfl) (hi : Z.N[i]? = some x := by rfl) (hx : LocS Z.sc x := by first | exact Or.inl rfl | exact Or.inr rfl)
    (hf : StoS Z x := by first | exact fun _ => Or.inl rfl | exact fun _ => Or.inr rfl) (hs : ∀ j, swapsWith e (some (.Name x px)) pos.line (Z.X j).env = pure false := by intro _; rfl) : HS Z bs (.Assign [.Name x px] e pos) en Φ := fun σ F H R D q r => by
  refine ⟨tAsg (tE Z e) (gName i), fun j => ps_set (by rw [Z.hN]; exact Z.nd) (Ctx.nth hi j) (Ctx.loc hx j) (pe_tE Z e j) (hs j) (hf j), ?_⟩
  obtain ⟨t, h1, h2⟩ := h σ F H R (fun v H1 => gName i v σ H1 D.nx) (fun a rs F1 H1 R1 s1 N => q _ _ F1 H1 ((R.newM R1 N no).setS (e := Ent.own) (show some (some (V.ref a)) = some (some (V.ref a)) from rfl)) s1.f (k a rs))
  exact ⟨t, h1, h2⟩
theorem HS_parE {i j : Nat} {x y : Str} {a b : Expr} {px py pt : Pos} {kt k2 : Nat} {pt2 : Pos} (h : HAe Z bs [a, b] en fun w es => ∃ e1 e2, es = [e1, e2] ∧ Φ.nx (((en.own w).set i e1).set j e2))
    (hi : Z.N[i]? = some x := by rfl) (hj : Z.N[j]? = some y := by rfl) (hij : i ≠ j := by decide) (hx : Z.sc.names.lookup x = some .local := by rfl) (hy : Z.sc.names.lookup y = some .local := by rfl)
    (hw : ∀ t, swappedStores [.Tuple [.Name x px, .Name y py] kt pt] (.Tuple [a, b] k2 pt2) (Z.X t).env = pure (some [x, y]) := by intro _; rfl) (hs : ∀ t, swapsWithSole [.Tuple [.Name x px, .Name y py] kt pt] (.Tuple [a, b] k2 pt2) pos.line (Z.X t).env = pure false := by intro _; rfl) :
    HS Z bs (.Assign [.Tuple [.Name x px, .Name y py] kt pt] (.Tuple [a, b] k2 pt2) pos) en Φ := fun σ F H R D q r => by
  refine ⟨tPar i j (tAr Z [a, b]), fun t => ps_par (Z.hc t) (by rw [Z.hN]; exact Z.nd) (Ctx.nth hi t) (Ctx.nth hj t) hij (by rw [Z.hs]; exact hx) (by rw [Z.hs]; exact hy) (pa_tA Z _ t) (hw t) (hs t), h σ F H R _ fun w vs ens F' H' R' s' r' p' => ?_⟩
  obtain ⟨e1, e2, ee, p'⟩ := p'
  subst ee
  cases r' with
  | cons r1 r2 =>
    cases r2 with
    | cons r3 r4 =>
      cases r4
      exact ⟨_, _, rfl, q _ _ F' H' ((R'.setS r1).setS r3) s' p'⟩
theorem HS_par3E {i j l : Nat} {x y z : Str} {a b c : Expr} {px py pz pt : Pos} {kt k2 : Nat} {pt2 : Pos} (h : HAe Z bs [a, b, c] en fun w es => ∃ e1 e2 e3, es = [e1, e2, e3] ∧ Φ.nx ((((en.own w).set i e1).set j e2).set l e3))
    (hi : Z.N[i]? = some x := by rfl) (hj : Z.N[j]? = some y := by rfl) (hl : Z.N[l]? = some z := by rfl) (hij : i ≠ j := by decide) (hil : i ≠ l := by decide) (hjl : j ≠ l := by decide) (hx : Z.sc.names.lookup x = some .local := by rfl) (hy : Z.sc.names.lookup y = some .local := by rfl) (hz : Z.sc.names.lookup z = some .local := by rfl)
    (hw : ∀ t, swappedStores [.Tuple [.Name x px, .Name y py, .Name z pz] kt pt] (.Tuple [a, b, c] k2 pt2) (Z.X t).env = pure (some [x, y, z]) := by intro _; rfl) (hs : ∀ t, swapsWithSole [.Tuple [.Name x px, .Name y py, .Name z pz] kt pt] (.Tuple [a, b, c] k2 pt2) pos.line (Z.X t).env = pure false := by intro _; rfl) :
    HS Z bs (.Assign [.Tuple [.Name x px, .Name y py, .Name z pz] kt pt] (.Tuple [a, b, c] k2 pt2) pos) en Φ := fun σ F H R D q r => by
  refine ⟨tPar3 i j l (tAr Z [a, b, c]), fun t => ps_par3 (Z.hc t) (by rw [Z.hN]; exact Z.nd) (Ctx.nth hi t) (Ctx.nth hj t) (Ctx.nth hl t) hij hil hjl (by rw [Z.hs]; exact hx) (by rw [Z.hs]; exact hy) (by rw [Z.hs]; exact hz) (pa_tA Z _ t) (hw t) (hs t), h σ F H R _ fun w vs ens F' H' R' s' r' p' => ?_⟩
  obtain ⟨e1, e2, e3, ee, p'⟩ := p'
  subst ee
  cases r' with
  | cons r1 r2 =>
    cases r2 with
    | cons r3 r4 =>
      cases r4 with
      | cons r5 r6 =>
        cases r6
        exact ⟨_, _, _, rfl, q _ _ F' H' (((R'.setS r1).setS r3).setS r5) s' p'⟩

/-! ### cells -/
def HGX (Z : Ctx) (tg : Expr) (f : Bs → En → PyData → En → Prop) : Prop :=
  ∃ g : TG, (∀ i, PG (Z.X i) tg g) ∧ ∀ (b : Bs) (en : En) (σ : L2.St) (F H : Hp) (v : V) (d : PyData) (en' : En), Rel Z.K b en σ F H → Rp F v d → f b en d en' → ∀ Q : L2.St → Hp → Prop, (∀ σ' F' H', Rel Z.K b en' σ' F' H' → Same F F' → Q σ' H') → g v σ H Q
theorem HG.x {tg : Expr} {vs : List Nat} {f : En → PyData → En → Prop} (h : HG Z tg vs f) : HGX Z tg (fun _ => f) := by
  obtain ⟨g, h1, h2⟩ := h
  exact ⟨g, h1, fun b en σ F H v d en' R r e Q q => h2 b en σ F H v d en' R r e Q fun σ' R' _ _ => q σ' F H R' (Same.refl F)⟩
def HGXs (Z : Ctx) (tgs : List Expr) (f : Bs → En → List PyData → En → Prop) : Prop :=
  ∃ g : TGs, (∀ i, PGs (Z.X i) tgs g) ∧ ∀ (b : Bs) (en : En) (σ : L2.St) (F H : Hp) (v : List V) (d : List PyData) (en' : En), Rel Z.K b en σ F H → Rps F v d → f b en d en' → ∀ Q : L2.St → Hp → Prop, (∀ σ' F' H', Rel Z.K b en' σ' F' H' → Same F F' → Q σ' H') → g v σ H Q
def xNil : Bs → En → List PyData → En → Prop := fun _ en d en' => d = [] ∧ en' = en
def xCons (f : Bs → En → PyData → En → Prop) (h : Bs → En → List PyData → En → Prop) : Bs → En → List PyData → En → Prop := fun b en d en' => ∃ x r e1, d = x :: r ∧ f b en x e1 ∧ h b e1 r en'
theorem HGXs_nil : HGXs Z [] xNil := ⟨gNil, fun i => pgs_nil, fun b en σ F H v d en' R r e Q q => by
  obtain ⟨e1, e2⟩ := e
  subst e1 e2
  cases r
  exact ⟨rfl, q σ F H R (Same.refl F)⟩⟩
theorem HGXs_cons {t : Expr} {ts : List Expr} {f : Bs → En → PyData → En → Prop} {h : Bs → En → List PyData → En → Prop} (h1 : HGX Z t f) (h2 : HGXs Z ts h)
    (hs : ∀ i, (assignEach (t :: ts) (Z.X i).env).map (·.2) = assign t (Z.X i).env :: (assignEach ts (Z.X i).env).map (·.2) := by intro _; rfl) : HGXs Z (t :: ts) (xCons f h) := by
  obtain ⟨g1, a1, b1⟩ := h1
  obtain ⟨g2, a2, b2⟩ := h2
  refine ⟨gCons g1 g2, fun i => pgs_cons (a1 i) (a2 i) (hs i), fun b en σ F H v d en' R r e Q q => ?_⟩
  obtain ⟨x, rr, e1, ed, p1, p2⟩ := e
  subst ed
  cases r with
  | cons r1 r2 =>
    refine ⟨_, _, rfl, b1 b en σ F H _ x e1 R r1 p1 _ fun σ1 F1 H1 R1 s1 => ?_⟩
    exact b2 b e1 σ1 F1 H1 _ rr en' R1 (r2.up s1) p2 _ fun σ2 F2 H2 R2 s2 => q σ2 F2 H2 R2 (s1.trans s2)
def xTup (h : Bs → En → List PyData → En → Prop) : Bs → En → PyData → En → Prop := fun b en d en' => ∃ ds, d = .tuple ds ∧ h b en ds en'
theorem HGX_tup {ts : List Expr} {k : Nat} {pos : Pos} {h : Bs → En → List PyData → En → Prop} {n : Nat} (h1 : HGXs Z ts h) (hl : ∀ b en ds en', h b en ds en' → ds.length = n)
    (hn : ∀ i, (assignEach ts (Z.X i).env).length = n := by intro _; rfl) (hst : ∀ i, (assignEach ts (Z.X i).env).findIdx? (·.1) = none := by intro _; rfl) : HGX Z (.Tuple ts k pos) (xTup h) := by
  obtain ⟨g1, a1, b1⟩ := h1
  refine ⟨gTup Z.K n g1, fun i => ?_, fun b en σ F H v d en' R r e Q q => ?_⟩
  · have z := pg_tup (pos := pos) (k := k) (Z.hc i) (a1 i) (hn i) (hst i)
    rw [Z.hK i] at z; exact z
  · obtain ⟨ds, ed, p⟩ := e
    subst ed
    cases r with
    | tup h1 h2 =>
      exact ⟨_, _, rfl, SqT.of (R.fh _ _ h1), by rw [h2.len]; exact hl b en ds en' p, b1 b en σ F H _ ds en' R h2 p Q q⟩
def xLst (h : Bs → En → List PyData → En → Prop) : Bs → En → PyData → En → Prop := fun b en d en' => ∃ ds, d = .list ds ∧ h b en ds en'
theorem HGX_unl {ts : List Expr} {k : Nat} {pos : Pos} {h : Bs → En → List PyData → En → Prop} {n : Nat} (h1 : HGXs Z ts h) (hl : ∀ b en ds en', h b en ds en' → ds.length = n)
    (hn : ∀ i, (assignEach ts (Z.X i).env).length = n := by intro _; rfl) (hst : ∀ i, (assignEach ts (Z.X i).env).findIdx? (·.1) = none := by intro _; rfl) : HGX Z (.Tuple ts k pos) (xLst h) := by
  obtain ⟨g1, a1, b1⟩ := h1
  refine ⟨gUnl Z.K n g1, fun i => ?_, fun b en σ F H v d en' R r e Q q => ?_⟩
  · have z := pg_unl (pos := pos) (k := k) (Z.hc i) (a1 i) (hn i) (hst i)
    rw [Z.hK i] at z; exact z
  · obtain ⟨ds, ed, p⟩ := e
    subst ed
    cases r with
    | lst h1 h2 =>
      exact ⟨_, _, rfl, SqL.of (R.fh _ _ h1), by rw [h2.len]; exact hl b en ds en' p, b1 b en σ F H _ ds en' R h2 p Q q⟩
theorem HS_asgX {tg : Expr} {f : Bs → En → PyData → En → Prop} (h : HE Z bs e en P) (hg : HGX Z tg f) (k : ∀ d, P d → ∃ en', f bs en d en' ∧ Φ.nx en')
    (hs : ∀ j, swapsWithSole [tg] e pos.line (Z.X j).env = pure false := by intro _; rfl) (hw : ∀ j, swappedStores [tg] e (Z.X j).env = pure none := by intro _; rfl) (h1 : ∀ j, (assignEach [tg] (Z.X j).env).map (·.2) = [assign tg (Z.X j).env] := by intro _; rfl) : HS Z bs (.Assign [tg] e pos) en Φ := fun σ F H R D q r => by
  obtain ⟨g, a1, b1⟩ := hg
  refine ⟨tAsg (tE Z e) g, fun j => ps_asg (pe_tE Z e j) (a1 j) (hs j) (hw j) (h1 j), h σ F H R _ fun v d F' H' R' G r' p => ?_⟩
  obtain ⟨en', p1, p2⟩ := k d p
  exact b1 bs en σ F' H' v d en' R' r' p1 _ fun σ' F2 H2 R2 s2 => q en' σ' F2 H2 R2 (G.f.trans s2) p2
theorem ixN_nat {n i : Nat} (h : i < n) : ixN n (i : Int) = some i := by
  have := atI_of (xs := List.range n) (i := (i : Int)) (z := i) (by omega) (by rw [Int.toNat_natCast, List.getElem?_range h])
  unfold atI at this
  rw [List.length_range] at this
  cases q : ixN n (i : Int) with
  | none => rw [q] at this; cases this
  | some j =>
    rw [q] at this
    have this : (List.range n)[j]? = some i := this
    have hj : j < n := by
      have := (List.getElem?_eq_some_iff.mp this).1
      simpa using this
    rw [List.getElem?_range hj] at this
    rw [Option.some.inj this]
/-- x[i][j] of the matrix of one's own -/
def xCell (Z : Ctx) (i : Nat) (ie je : Expr) : Bs → En → PyData → En → Prop := fun b en d en' => ∃ (a : Addr) (rs : List Addr) (m : List (List PyData)) (p q : Nat) (row : List PyData), en.ow = .mat a rs m ∧ en.sl[i]? = some .own ∧ HV Z b ie en (.int (p : Int)) ∧ HV Z b je en (.int (q : Int)) ∧
  m[p]? = some row ∧ q < row.length ∧ en' = en.own (.mat a rs (m.set p (row.set q d)))
theorem HGX_cell {i : Nat} {x : Str} {ie je : Expr} {px p1 p2 : Pos} (hN : Z.N[i]? = some x := by rfl) (hv : Vis Z.sc x := by first | exact Or.inl rfl | exact Or.inr (Or.inl rfl) | exact Or.inr (Or.inr rfl)) (hd : (x == ("__debug__" : Str)) = false := by decide)
    (hcd : (x == ("__classdict__" : Str)) = false := by decide) (hs : PlainIx ie := by intro _ _; rfl)
    (ha : ∀ i v, assign (.Subscript (.Subscript (.Name x px) ie p1) je p2) (Z.X i).env v = (do
      let ov ← holding [v] (eval (.Subscript (.Name x px) ie p1) (Z.X i).env)
      let iv ← holding [v, ov] (eval je (Z.X i).env)
      standAt p2
      holding [v, ov, iv] (setItem ov iv v)
      release [v, ov, iv] []) := by intro _ _; rfl) : HGX Z (.Subscript (.Subscript (.Name x px) ie p1) je p2) (xCell Z i ie je) := by
  refine ⟨gSub (tOp (rIxL Z.K) (tVar i) (tE Z ie)) (tE Z je) rSetL, fun j => pg_sub (pe_ix (ixL j) (pe_var (Ctx.nth hN j) (Ctx.vis hv j) hd hcd) (pe_tE Z ie j) hs) (pe_tE Z je j) set_list (ha j), fun b en σ F H v d en' R r e Q q => ?_⟩
  obtain ⟨a, rs, m, p, q', row, hw, hs', h1, h2, hm, hq, rfl⟩ := e
  have so := R.sl i _ hs'
  rw [hw] at so
  refine ⟨_, so, h1 σ F H R _ fun v1 d1 F1 H1 R1 s1 r1 e1 => ?_⟩
  subst e1
  cases r1
  have q0 := R1.ow
  rw [hw] at q0
  obtain ⟨q1, q2, q3, q4, q5, q6, q7⟩ := q0
  have hp : p < rs.length := by rw [q6]; exact (List.getElem?_eq_some_iff.mp hm).1
  have hr : rs[p]? = some rs[p] := List.getElem?_eq_getElem hp
  refine ⟨_, _, _, .ref rs[p], rfl, rfl, SqL.of q3, atI_of (by omega) (by rw [Int.toNat_natCast, List.getElem?_map, hr]; rfl), ?_⟩
  refine h2 σ F1 H1 R1 _ fun v2 d2 F2 H2 R2 s2 r2 e2 => ?_
  subst e2
  cases r2
  have q0 := R2.ow
  rw [hw] at q0
  obtain ⟨_, _, _, _, _, _, q7⟩ := q0
  obtain ⟨y1, y2, ys, y3, y4⟩ := q7 p _ row hr hm
  refine ⟨_, ys, _, q', rfl, rfl, y3, ixN_nat (by rw [y4.len]; exact hq), ?_⟩
  exact q σ F2 _ (R2.ownMutM hw hr hm (Rps.setAt ((r.up s1.f).up s2.f) q' y4)) (s1.f.trans s2.f)
/-- x[k] of the list of one's own -/
def xItem (Z : Ctx) (i : Nat) (ke : Expr) : Bs → En → PyData → En → Prop := fun b en d en' => ∃ (a : Addr) (ds : List PyData) (k : Nat), en.ow = .lst a ds ∧ en.sl[i]? = some .own ∧ HV Z b ke en (.int (k : Int)) ∧ k < ds.length ∧ en' = en.own (.lst a (ds.set k d))
theorem HGX_item {i : Nat} {x : Str} {ke : Expr} {px p2 : Pos} (hN : Z.N[i]? = some x := by rfl) (hv : Vis Z.sc x := by first | exact Or.inl rfl | exact Or.inr (Or.inl rfl) | exact Or.inr (Or.inr rfl)) (hd : (x == ("__debug__" : Str)) = false := by decide)
    (hcd : (x == ("__classdict__" : Str)) = false := by decide)
    (ha : ∀ i v, assign (.Subscript (.Name x px) ke p2) (Z.X i).env v = (do
      let ov ← holding [v] (eval (.Name x px) (Z.X i).env)
      let iv ← holding [v, ov] (eval ke (Z.X i).env)
      standAt p2
      holding [v, ov, iv] (setItem ov iv v)
      release [v, ov, iv] []) := by intro _ _; rfl) : HGX Z (.Subscript (.Name x px) ke p2) (xItem Z i ke) := by
  refine ⟨gSub (tVar i) (tE Z ke) rSetL, fun j => pg_sub (pe_var (Ctx.nth hN j) (Ctx.vis hv j) hd hcd) (pe_tE Z ke j) set_list (ha j), fun b en σ F H v d en' R r e Q q => ?_⟩
  obtain ⟨a, ds, k, hw, hs', h1, hk, rfl⟩ := e
  have so := R.sl i _ hs'
  rw [hw] at so
  refine ⟨_, so, h1 σ F H R _ fun v1 d1 F1 H1 R1 s1 r1 e1 => ?_⟩
  subst e1
  cases r1
  have q0 := R1.ow
  rw [hw] at q0
  obtain ⟨q1, q2, xs, q3, q4⟩ := q0
  refine ⟨_, xs, _, k, rfl, rfl, q3, ixN_nat (by rw [q4.len]; exact hk), ?_⟩
  exact q σ F1 _ (R1.ownMut hw (Rps.setAt (r.up s1.f) k q4)) s1.f
/-- reading it -/
theorem HV_ixOwn {i : Nat} {x : Str} {px : Pos} {a : Addr} {k : Nat} {d : PyData} (hw : en.ow = .lst a ds) (hs : en.sl[i]? = some .own) (hb : HV Z bs b en (.int (k : Int))) (hd : ds[k]? = some d)
    (hN : Z.N[i]? = some x := by rfl) (hv : Vis Z.sc x := by first | exact Or.inl rfl | exact Or.inr (Or.inl rfl) | exact Or.inr (Or.inr rfl)) (hd1 : (x == ("__debug__" : Str)) = false := by decide) (hcd : (x == ("__classdict__" : Str)) = false := by decide) (hp : PlainIx b := by intro _ _; rfl) :
    HV Z bs (.Subscript (.Name x px) b pos) en d := fun σ F H R Q q => by
  have so := R.sl i _ hs
  rw [hw] at so
  refine ⟨_, fun j => pe_ix (ixL j) (pe_var (Ctx.nth hN j) (Ctx.vis hv j) hd1 hcd) (pe_tE Z b j) hp, _, so, hb σ F H R _ fun v1 d1 F1 H1 R1 s1 r1 e1 => ?_⟩
  subst e1
  cases r1
  have q0 := R1.ow
  rw [hw] at q0
  obtain ⟨q1, q2, xs, q3, q4⟩ := q0
  obtain ⟨v, e1, e2⟩ := q4.get hd
  exact ⟨_, _, _, v, rfl, rfl, SqL.of q3, atI_of (by omega) (by rw [Int.toNat_natCast]; exact e1), q v d F1 H1 R1 s1 e2 rfl⟩
end
end WS
set_option Elab.async false
set_option linter.all false
set_option maxRecDepth 100000
set_option maxHeartbeats 4000000
set_option autoImplicit false
namespace WS
open PySem PySem.Spec PyProof.Rows L2
/-! ### what draws -/
def En.tick (en : En) (k : Nat) : En := { en with ct := en.ct + k }
theorem tick_tick (en : En) (k l : Nat) : (en.tick k).tick l = en.tick (k + l) := by
  unfold En.tick; simp only [Nat.add_assoc]
theorem Gen.mono {m n : Nat} (h : m ≤ n) {H : Hp} {g : Addr} (G : Gen m H g) : Gen n H g := by
  obtain ⟨a, b, c, e, h1, h2, h3, h4, h5⟩ := G
  exact ⟨a, b, c, e, h1, h2, h3, h4, by omega⟩
section
variable {K : PySem.W.Frag} {b : Bs} {en : En} {σ : L2.St} {F H : Hp}
theorem Rel.tick (R : Rel K b en σ F H) (k : Nat) : Rel K b (en.tick k) σ F H :=
  ⟨R.bo, R.ff, R.fh, R.hh, R.fr, fun g hg => (R.gn g hg).mono (Nat.le_add_right _ _), fun o ho => R.ob o ho, R.ln, R.sl, R.ow⟩
/-- another has drawn -/
theorem Rel.growG (R : Rel K b en σ F H) {g : Addr} {k : Nat} {F' H' : Hp} (eg : b.g = some g) (G : GrowG g (en.ct + k) F H F' H') : Rel K b (en.tick k) σ F' H' := by
  have no : b.o = none := by rcases R.bo.x1 with z | z; rw [eg] at z; cases z; exact z
  have ng : ∀ a, b.H0 a = none → a ≠ g := fun a h e => by
    obtain ⟨_, u, q⟩ := R.bo.g1 g eg
    rw [← e, h] at q; cases q
  refine ⟨R.bo, R.ff.trans G.f, G.fh, fun a o h n => G.h a o (fun e => n (.inl (by rw [e]; exact eg))) (R.hh a o h n), fun a o h => ?_, fun g' hg' => ?_, fun o ho => (by rw [no] at ho; cases ho), R.ln, fun i e h => ?_, ?_⟩
  · by_cases e : a = g
    · subst e
      obtain ⟨x, y, z, q, _⟩ := R.gn a eg
      exact (G.fr a _ q).trans (R.fr a o h)
    · refine (G.fr a o (R.hh a o h ?_)).trans (R.fr a o h)
      rintro (z | ⟨o', z, _⟩)
      · rw [eg] at z; exact e (Option.some.inj z).symm
      · rw [no] at z; cases z
  · have : g' = g := by rw [eg] at hg'; exact (Option.some.inj hg').symm
    subst this
    exact G.gn
  · have q := R.sl i e h
    cases e with
    | dat d => obtain ⟨v, e1, e2⟩ := q; exact ⟨v, e1, e2.up G.f⟩
    | _ => exact q
  · have q := R.ow
    show OwR b F' H' en.ow
    cases hw : en.ow with
    | no => trivial
    | lst a ds =>
      rw [hw] at q
      obtain ⟨q1, q2, xs, q3, q4⟩ := q
      exact ⟨q1, (G.fr a _ q3).trans q2, xs, G.h _ _ (ng a q1) q3, q4.up G.f⟩
    | mat a rs m =>
      rw [hw] at q
      obtain ⟨q1, q2, q3, q4, q5, q6, q7⟩ := q
      refine ⟨q1, (G.fr a _ q3).trans q2, G.h _ _ (ng a q1) q3, q4, q5, q6, fun j r row h1 h2 => ?_⟩
      obtain ⟨z1, z2, xs, z3, z4⟩ := q7 j r row h1 h2
      exact ⟨z1, (G.fr r _ z3).trans z2, xs, G.h _ _ (ng r z1) z3, z4.up G.f⟩
/-- the generator's list is written -/
theorem Rel.genMut (R : Rel K b en σ F H) {g : Addr} {k : Nat} {xs : List V} (eg : b.g = some g) (hG : Gen (en.ct + k) (upd H g (.lst xs)) g) : Rel K b (en.tick k) σ F (upd H g (.lst xs)) := by
  have fg : F g = none := by
    obtain ⟨h0, u, h1⟩ := R.bo.g1 g eg
    exact (R.fr g u h1).trans h0
  refine R.growG eg ⟨Same.refl F, fun c u h => by rw [upd_ne (ne_of_none h fg)]; exact R.fh c u h, fun a o n h => by rw [upd_ne n]; exact h, fun a o h => rfl, hG⟩
end
def HD (Z : Ctx) (b : Bs) (e : Expr) (en : En) (k : Nat) (P : PyData → Prop) : Prop :=
  ∀ (σ : L2.St) (F H : Hp), Rel Z.K b en σ F H → ∀ Q : VK, (∀ v d F' H', Rel Z.K b (en.tick k) σ F' H' → Same F F' → Rp F' v d → P d → Q v H') → ∃ t, (∀ i, PE (Z.X i) e t) ∧ t σ H Q
def HDA (Z : Ctx) (b : Bs) (es : List Expr) (en : En) (k : Nat) (P : List PyData → Prop) : Prop :=
  ∀ (σ : L2.St) (F H : Hp), Rel Z.K b en σ F H → ∀ Q : List V → Hp → Prop, (∀ vs ds F' H', Rel Z.K b (en.tick k) σ F' H' → Same F F' → Rps F' vs ds → P ds → Q vs H') → ∃ t, (∀ i, PA (Z.X i) es t) ∧ t σ H Q
def HDC (Z : Ctx) (b : Bs) (e : Expr) (en : En) (k : Nat) (P : Bool → Prop) : Prop :=
  ∀ (σ : L2.St) (F H : Hp), Rel Z.K b en σ F H → ∀ Q : Bool → Hp → Prop, (∀ c F' H', Rel Z.K b (en.tick k) σ F' H' → Same F F' → P c → Q c H') → ∃ t, (∀ i, PT (Z.X i) e t) ∧ t σ H Q
section
variable {Z : Ctx} {bs : Bs} {en : En} {st : Stmt} {e a b c : Expr} {es : List Expr} {pos : Pos} {Φ : DE} {P Pa Pb : PyData → Prop} {ds : List PyData} {k l : Nat}
theorem HD_of (h : HE Z bs e en P) (k : Nat) : HD Z bs e en k P := fun σ F H R Q q => h σ F H R Q fun v d F' H' R' G r p => q v d F' H' (R'.tick k) G.f r p
theorem HD_imp {P' : PyData → Prop} (h : HD Z bs e en k P) (j : ∀ d, P d → P' d) : HD Z bs e en k P' := fun σ F H R Q q => h σ F H R Q fun v d F' H' R' G r p => q v d F' H' R' G r (j d p)
theorem HD_more (h : HD Z bs e en k P) (hl : k ≤ l) : HD Z bs e en l P := fun σ F H R Q q => h σ F H R Q fun v d F' H' R' G r p => q v d F' H' (by
  have := R'.tick (l - k)
  rwa [tick_tick, Nat.add_sub_cancel' hl] at this) G r p
theorem HD_two {r : R2} {mk : Expr} (hp : ∀ i ta tb, PE (Z.X i) a ta → PE (Z.X i) b tb → PE (Z.X i) mk (tOp r ta tb)) (ha : HD Z bs a en k Pa) (hb : HD Z bs b (en.tick k) l Pb)
    (hr : ∀ x y dx dy F H (Q : VK), Same F H → Rp F x dx → Rp F y dy → Pa dx → Pb dy → (∀ v d, Rp F v d → P d → Q v H) → r x y H Q) : HD Z bs mk en (k + l) P := by
  intro σ F H R Q q
  refine ⟨_, fun i => hp i _ _ (pe_tE Z a i) (pe_tE Z b i), ?_⟩
  refine ha σ F H R _ fun x dx F1 H1 R1 s1 rx px => ?_
  refine hb σ F1 H1 R1 _ fun y dy F2 H2 R2 s2 ry py => ?_
  rw [tick_tick] at R2
  exact hr x y dx dy F2 H2 Q R2.fh (rx.up s2) ry px py fun v d r' p' => q v d F2 H2 R2 (s1.trans s2) r' p'
def IsI (p : Int → Prop) : PyData → Prop := fun d => ∃ i, d = .int i ∧ p i
theorem HD_sub {p q : Int → Prop} (ha : HD Z bs a en k (IsI p)) (hb : HD Z bs b (en.tick k) l (IsI q)) (h : ∀ i j, p i → q j → P (.int (i - j))) : HD Z bs (.BinOp a .Sub b pos) en (k + l) P := by
  refine HD_two (fun i ta tb pa pb => pe_op op_sub pa pb) ha hb fun x y dx dy F H Q s rx ry px py q => ?_
  obtain ⟨i, rfl, pi⟩ := px
  obtain ⟨j, rfl, pj⟩ := py
  cases rx; cases ry
  exact ⟨i, j, rfl, rfl, q _ _ (.int _) (h i j pi pj)⟩
theorem HD_add {p q : Int → Prop} (ha : HD Z bs a en k (IsI p)) (hb : HD Z bs b (en.tick k) l (IsI q)) (h : ∀ i j, p i → q j → P (.int (i + j))) : HD Z bs (.BinOp a .Add b pos) en (k + l) P := by
  refine HD_two (fun i ta tb pa pb => pe_op op_add pa pb) ha hb fun x y dx dy F H Q s rx ry px py q => ?_
  obtain ⟨i, rfl, pi⟩ := px
  obtain ⟨j, rfl, pj⟩ := py
  cases rx; cases ry
  exact ⟨i, j, rfl, rfl, q _ _ (.int _) (h i j pi pj)⟩
theorem HD_ixL (ha : HV Z bs a en (.list ds)) (hb : HD Z bs b (en.tick 0) l (IsI fun i => 0 ≤ i ∧ i < ds.length)) (h : ∀ d ∈ ds, P d) (hs : PlainIx b := by intro _ _; rfl) : HD Z bs (.Subscript a b pos) en (0 + l) P := by
  refine HD_two (fun i ta tb pa pb => pe_ix (ixL i) pa pb hs) (HD_of ha 0) hb fun x y dx dy F H Q s rx ry px py q => ?_
  subst px
  obtain ⟨i, rfl, h0, h1⟩ := py
  cases ry
  have hz : ds[i.toNat]? = some ds[i.toNat] := List.getElem?_eq_getElem (by omega)
  cases rx with
  | lst h3 h2 =>
    obtain ⟨v, e1, e2⟩ := atI_rp h2 (atI_of h0 hz)
    exact ⟨_, _, _, v, rfl, rfl, SqL.of (s _ _ h3), e1, q v _ e2 (h _ (List.getElem_mem _))⟩
theorem HD_eqII {p q : Int → Prop} (ha : HD Z bs a en k (IsI p)) (hb : HD Z bs b (en.tick k) l (IsI q)) (h : ∀ i j, p i → q j → P (.bool (decide (i = j)))) : HD Z bs (.Compare a [.Eq] [b] pos) en (k + l) P := by
  refine HD_two (fun i ta tb pa pb => pe_cmpR op_eq pa pb (nomark b)) ha hb fun x y dx dy F H Q s rx ry px py q => ?_
  obtain ⟨i, rfl, pi⟩ := px
  obtain ⟨j, rfl, pj⟩ := py
  cases rx; cases ry
  refine ⟨rfl, q _ _ (.bl _) ?_⟩
  have := h i j pi pj
  rw [dec_int]; exact this
theorem HD_eqSS {x y : Str} (ha : HD Z bs a en k (fun d => d = .str x)) (hb : HD Z bs b (en.tick k) l (fun d => d = .str y)) (h : P (.bool (x == y))) : HD Z bs (.Compare a [.Eq] [b] pos) en (k + l) P := by
  refine HD_two (fun i ta tb pa pb => pe_cmpR op_eq pa pb (nomark b)) ha hb fun x' y' dx dy F H Q s rx ry px py q => ?_
  subst px py
  cases rx; cases ry
  refine ⟨rfl, q _ _ (.bl _) ?_⟩
  rw [dec_str]; exact h
theorem HDC_eqI {p q : Int → Prop} {P : Bool → Prop} (ha : HD Z bs a en k (IsI p)) (hb : HD Z bs b (en.tick k) l (IsI q)) (h : ∀ i j, p i → q j → P (decide (i = j))) : HDC Z bs (.Compare a [.Eq] [b] pos) en (k + l) P := by
  intro σ F H R Q q
  refine ⟨_, fun i => pt_cmpR op_eq (pe_tE Z a i) (pe_tE Z b i) (nomark b), ?_⟩
  refine ha σ F H R _ fun x dx F1 H1 R1 s1 rx px => ?_
  refine hb σ F1 H1 R1 _ fun y dy F2 H2 R2 s2 ry py => ?_
  rw [tick_tick] at R2
  obtain ⟨i, rfl, pi⟩ := px
  obtain ⟨j, rfl, pj⟩ := py
  cases rx; cases ry
  refine ⟨rfl, _, rfl, ?_⟩
  have := h i j pi pj
  rw [dec_int]
  exact q _ F2 H2 R2 (s1.trans s2) this
theorem HDC_val {P : Bool → Prop} (h : HD Z bs e en k fun d => ∃ z, d = .bool z ∧ P z) (he : ∀ i whole, isTrue e (Z.X i).env whole = (do let v ← whole; standAt e.pos; holding [v] (truthy v)) := by intro _ _; rfl) : HDC Z bs e en k P := fun σ F H R Q q => by
  refine ⟨_, fun i => pt_val (pe_tE Z e i) (he i), ?_⟩
  refine h σ F H R _ fun v d F' H' R' s r ⟨z, ed, p⟩ => ?_
  subst ed
  cases r
  exact ⟨z, rfl, q z F' H' R' s p⟩
theorem HDC_not {P : Bool → Prop} (h : HDC Z bs a en k fun z => P (!z)) : HDC Z bs (.UnaryOp .Not a pos) en k P := fun σ F H R Q q =>
  ⟨_, fun i => pt_not (pt_tT Z a i), h σ F H R _ fun z F' H' R' s p => q _ F' H' R' s p⟩
/-- a or b, both false -/
theorem HDC_or2 (ha : HDC Z bs a en k fun z => z = false) (hb : HDC Z bs b (en.tick k) l fun z => z = false) : HDC Z bs (.BoolOp .Or [a, b] pos) en (k + l) fun z => z = false := fun σ F H R Q q => by
  refine ⟨_, fun i => (pw_or (pt_tT Z a i) (pw_or1 (pt_tT Z b i))).pt, ?_⟩
  refine ha σ F H R _ fun z F1 H1 R1 s1 e1 => ?_
  subst e1
  refine hb σ F1 H1 R1 _ fun z F2 H2 R2 s2 e2 => ?_
  rw [tick_tick] at R2
  exact q z F2 H2 R2 (s1.trans s2) e2
theorem HDA_nil {P : List PyData → Prop} (h : P []) : HDA Z bs [] en 0 P := fun σ F H R Q q => ⟨_, fun _ => pa_nil, q _ _ F H (R.tick 0) (Same.refl F) .nil h⟩
theorem HDA_cons {P : List PyData → Prop} (ha : HD Z bs e en k Pa) (hr : ∀ d, Pa d → HDA Z bs es (en.tick k) l fun ds => P (d :: ds)) (hs : ∀ i, starEach (e :: es) (Z.X i).env = (false, eval e (Z.X i).env) :: starEach es (Z.X i).env := by intro _; rfl) : HDA Z bs (e :: es) en (k + l) P := fun σ F H R Q q => by
  refine ⟨_, fun i => pa_cons (pe_tE Z e i) (pa_tA Z es i) (hs i), ha σ F H R _ fun v d1 F1 H1 R1 s1 r1 e1 => ?_⟩
  refine hr d1 e1 σ F1 H1 R1 _ fun vs ds2 F2 H2 R2 s2 r2 e2 => ?_
  rw [tick_tick] at R2
  exact q _ _ F2 H2 R2 (s1.trans s2) (.cons (r1.up s2) r2) e2
theorem HD_tup {P' : List PyData → Prop} {j : Nat} (h : HDA Z bs es en k P') (hl : ∀ ds, P' ds → ds.length ≤ 100000 ∧ P (.tuple ds)) : HD Z bs (.Tuple es j pos) en k P := fun σ F H R Q q => by
  refine ⟨_, fun i => pe_tup (pa_tA Z es i), h σ F H R _ fun vs ds2 F2 H2 R2 s2 r2 e2 => ?_⟩
  obtain ⟨h1, h2⟩ := hl _ e2
  refine ⟨lenOk (by rw [r2.len]; exact h1), fun p hp => ?_⟩
  exact q _ _ _ _ (R2.alloc hp) (s2.trans (R2.same_alloc hp)) (.tup upd_same (r2.up (R2.same_alloc hp))) h2
/-- a plain def with arguments that draw -/
theorem HD_call {x : Str} {p : Pos} {j n : Nat} {W : List PyData → (PyData → Prop) → Prop} {P' : List PyData → Prop} (kn : Kn Z.P Z.w Z.K Z.mg Z.base x j (spF n W)) (hr : Room j Z.A) (ha : HDA Z bs (e :: es) en k P') (hn : ∀ ds, P' ds → ds.length = n ∧ W ds P)
    (hg : GlS Z.sc x := by rfl) (hdb : (x == ("__debug__" : Str)) = false := by decide) (he : ∀ i, starEach (e :: es) (Z.X i).env = (false, eval e (Z.X i).env) :: starEach es (Z.X i).env := by intro _; rfl) (hpl : ∀ i, (backTo pos (starEach es (Z.X i).env)).any (·.1) = false := by intro _; rfl) :
    HD Z bs (.Call (.Name x p) (e :: es) [] pos) en k P := fun σ F H R Q q => by
  obtain ⟨f, fd, ps, ok, hm, hk, hb⟩ := kn
  refine ⟨tCall (spF n W) [] E0 (tAr Z (e :: es)), fun i => ?_, ?_⟩
  · refine pe_call (fd := fd) (ps := ps) (k := j) (f := f) (CX := CX0) ?_ ?_ (Ctx.gl hg i) (Ctx.mgS hm i) ?_ ?_ .nil pass0 (pa_tA Z _ i) hdb (he i) (hpl i)
    · rw [Z.hP, Z.hw, Z.hK, Z.hm, Z.hb]; exact ok
    · rw [Z.hA]; exact hr
    · rw [Z.hK]; exact hk
    · rw [Z.hK]; exact hb
  · refine ha σ F H R _ fun vs d F1 H1 R1 s1 r1 ed => ?_
    obtain ⟨h1, h2⟩ := hn d ed
    refine ⟨F1, d, P, R1.fh, by rw [List.append_nil]; exact r1, h1, h2, fun v d F2 H2 G2 r2 p2 => ?_⟩
    have G3 : Grow bs.g F1 H1 F2 H2 := G2.any
    exact q v d F2 H2 (R1.grow G3) (s1.trans G2.f) r2 p2
/-- a def that draws -/
theorem HD_callG {x gx : Str} {gi : Nat} {gp p : Pos} {j n cst : Nat} {W : List PyData → (PyData → Prop) → Prop} {P' : List PyData → Prop} (kn : Kn Z.P Z.w Z.K Z.mg Z.base x j (spG n cst W)) (hr : Room j Z.A) (hgen : en.sl[gi]? = some .gen) (ha : HDA Z bs es en k P') (hn : ∀ ds, P' ds → ds.length = n ∧ W ds P)
    (hct : en.ct + k + cst ≤ 900000000)
    (hgN : Z.N[gi]? = some gx := by rfl) (hgv : Vis Z.sc gx := by first | exact Or.inl rfl | exact Or.inr (Or.inl rfl) | exact Or.inr (Or.inr rfl)) (hgd : (gx == ("__debug__" : Str)) = false := by decide) (hgc : (gx == ("__classdict__" : Str)) = false := by decide)
    (hg : GlS Z.sc x := by rfl) (hdb : (x == ("__debug__" : Str)) = false := by decide) (he : ∀ i, starEach (.Name gx gp :: es) (Z.X i).env = (false, eval (.Name gx gp) (Z.X i).env) :: starEach es (Z.X i).env := by intro _; rfl) (hpl : ∀ i, (backTo pos (starEach es (Z.X i).env)).any (·.1) = false := by intro _; rfl) :
    HD Z bs (.Call (.Name x p) (.Name gx gp :: es) [] pos) en (k + cst) P := fun σ F H R Q q => by
  obtain ⟨f, fd, ps, ok, hm, hk, hb⟩ := kn
  obtain ⟨g, eg, sg⟩ := R.sl gi _ hgen
  refine ⟨tCall (spG n cst W) [] E0 (tCons (tVar gi) (tAr Z es)), fun i => ?_, ?_⟩
  · refine pe_call (fd := fd) (ps := ps) (k := j) (f := f) (CX := CX0) ?_ ?_ (Ctx.gl hg i) (Ctx.mgS hm i) ?_ ?_ .nil pass0 (pa_cons (pe_var (Ctx.nth hgN i) (Ctx.vis hgv i) hgd hgc) (pa_tA Z _ i) (he i)) hdb (he i) (hpl i)
    · rw [Z.hP, Z.hw, Z.hK, Z.hm, Z.hb]; exact ok
    · rw [Z.hA]; exact hr
    · rw [Z.hK]; exact hk
    · rw [Z.hK]; exact hb
  · refine ⟨_, sg, ha σ F H R _ fun vs d F1 H1 R1 s1 r1 ed => ?_⟩
    obtain ⟨h1, h2⟩ := hn d ed
    have fg : F1 g = none := by
      obtain ⟨h0, u, h1⟩ := R1.bo.g1 g eg
      exact (R1.fr g u h1).trans h0
    refine ⟨F1, g, vs, d, P, en.ct + k, by rw [List.append_nil], R1.fh, fg, R1.gn g eg, hct, r1, h1, h2, fun v d F2 H2 G2 r2 p2 => ?_⟩
    have R3 := R1.growG (k := cst) eg G2
    rw [tick_tick] at R3
    exact q v d F2 H2 R3 (s1.trans G2.f) r2 p2

/-! ### statements that draw -/
theorem HS_setD {i : Nat} {x : Str} {px : Pos} (h : HD Z bs e en k P) (j : ∀ d, P d → Φ.nx ((en.tick k).set i (.dat d))) (hi : Z.N[i]? = some x := by rfl) (hx : LocS Z.sc x := by first | exact Or.inl rfl | exact Or.inr rfl)
    (hf : StoS Z x := by first | exact fun _ => Or.inl rfl | exact fun _ => Or.inr rfl) (hs : ∀ j, swapsWith e (some (.Name x px)) pos.line (Z.X j).env = pure false := by intro _; rfl) : HS Z bs (.Assign [.Name x px] e pos) en Φ := fun σ F H R D q r =>
  ⟨tAsg (tE Z e) (gName i), fun j => ps_set (by rw [Z.hN]; exact Z.nd) (Ctx.nth hi j) (Ctx.loc hx j) (pe_tE Z e j) (hs j) (hf j), h σ F H R _ fun v d F' H' R' s r' p => q _ _ F' H' (R'.setD r') s (j d p)⟩
theorem HS_asgD {tg : Expr} {f : Bs → En → PyData → En → Prop} (h : HD Z bs e en k P) (hg : HGX Z tg f) (j : ∀ d, P d → ∃ en', f bs (en.tick k) d en' ∧ Φ.nx en')
    (hs : ∀ j, swapsWithSole [tg] e pos.line (Z.X j).env = pure false := by intro _; rfl) (hw : ∀ j, swappedStores [tg] e (Z.X j).env = pure none := by intro _; rfl) (h1 : ∀ j, (assignEach [tg] (Z.X j).env).map (·.2) = [assign tg (Z.X j).env] := by intro _; rfl) : HS Z bs (.Assign [tg] e pos) en Φ := fun σ F H R D q r => by
  obtain ⟨g, a1, b1⟩ := hg
  refine ⟨tAsg (tE Z e) g, fun j => ps_asg (pe_tE Z e j) (a1 j) (hs j) (hw j) (h1 j), h σ F H R _ fun v d F' H' R' s r' p => ?_⟩
  obtain ⟨en', p1, p2⟩ := j d p
  exact b1 bs _ σ F' H' v d en' R' r' p1 _ fun σ' F2 H2 R2 s2 => q en' σ' F2 H2 R2 (s.trans s2) p2
theorem HS_parD {i j : Nat} {x y : Str} {a b : Expr} {px py pt : Pos} {kt k2 : Nat} {pt2 : Pos} (h : HDA Z bs [a, b] en k fun ds => ∃ d1 d2, ds = [d1, d2] ∧ Φ.nx (((en.tick k).set i (.dat d1)).set j (.dat d2)))
    (hi : Z.N[i]? = some x := by rfl) (hj : Z.N[j]? = some y := by rfl) (hij : i ≠ j := by decide) (hx : Z.sc.names.lookup x = some .local := by rfl) (hy : Z.sc.names.lookup y = some .local := by rfl)
    (hw : ∀ t, swappedStores [.Tuple [.Name x px, .Name y py] kt pt] (.Tuple [a, b] k2 pt2) (Z.X t).env = pure (some [x, y]) := by intro _; rfl) (hs : ∀ t, swapsWithSole [.Tuple [.Name x px, .Name y py] kt pt] (.Tuple [a, b] k2 pt2) pos.line (Z.X t).env = pure false := by intro _; rfl) :
    HS Z bs (.Assign [.Tuple [.Name x px, .Name y py] kt pt] (.Tuple [a, b] k2 pt2) pos) en Φ := fun σ F H R D q r => by
  refine ⟨tPar i j (tAr Z [a, b]), fun t => ps_par (Z.hc t) (by rw [Z.hN]; exact Z.nd) (Ctx.nth hi t) (Ctx.nth hj t) hij (by rw [Z.hs]; exact hx) (by rw [Z.hs]; exact hy) (pa_tA Z _ t) (hw t) (hs t), h σ F H R _ fun vs d F' H' R' s r' ed => ?_⟩
  obtain ⟨d1, d2, e1, p⟩ := ed
  subst e1
  cases r' with
  | cons r1 r2 =>
    cases r2 with
    | cons r3 r4 =>
      cases r4
      exact ⟨_, _, rfl, q _ _ F' H' ((R'.setD r1).setD r3) s p⟩
theorem HS_par3D {i j l : Nat} {x y z : Str} {a b c : Expr} {px py pz pt : Pos} {kt k2 : Nat} {pt2 : Pos} (h : HDA Z bs [a, b, c] en k fun ds => ∃ d1 d2 d3, ds = [d1, d2, d3] ∧ Φ.nx ((((en.tick k).set i (.dat d1)).set j (.dat d2)).set l (.dat d3)))
    (hi : Z.N[i]? = some x := by rfl) (hj : Z.N[j]? = some y := by rfl) (hl : Z.N[l]? = some z := by rfl) (hij : i ≠ j := by decide) (hil : i ≠ l := by decide) (hjl : j ≠ l := by decide) (hx : Z.sc.names.lookup x = some .local := by rfl) (hy : Z.sc.names.lookup y = some .local := by rfl) (hz : Z.sc.names.lookup z = some .local := by rfl)
    (hw : ∀ t, swappedStores [.Tuple [.Name x px, .Name y py, .Name z pz] kt pt] (.Tuple [a, b, c] k2 pt2) (Z.X t).env = pure (some [x, y, z]) := by intro _; rfl) (hs : ∀ t, swapsWithSole [.Tuple [.Name x px, .Name y py, .Name z pz] kt pt] (.Tuple [a, b, c] k2 pt2) pos.line (Z.X t).env = pure false := by intro _; rfl) :
    HS Z bs (.Assign [.Tuple [.Name x px, .Name y py, .Name z pz] kt pt] (.Tuple [a, b, c] k2 pt2) pos) en Φ := fun σ F H R D q r => by
  refine ⟨tPar3 i j l (tAr Z [a, b, c]), fun t => ps_par3 (Z.hc t) (by rw [Z.hN]; exact Z.nd) (Ctx.nth hi t) (Ctx.nth hj t) (Ctx.nth hl t) hij hil hjl (by rw [Z.hs]; exact hx) (by rw [Z.hs]; exact hy) (by rw [Z.hs]; exact hz) (pa_tA Z _ t) (hw t) (hs t), h σ F H R _ fun vs d F' H' R' s r' ed => ?_⟩
  obtain ⟨d1, d2, d3, e1, p⟩ := ed
  subst e1
  cases r' with
  | cons r1 r2 =>
    cases r2 with
    | cons r3 r4 =>
      cases r4 with
      | cons r5 r6 =>
        cases r6
        exact ⟨_, _, _, rfl, q _ _ F' H' (((R'.setD r1).setD r3).setD r5) s p⟩
theorem HS_retD (h : HD Z bs e en k P) (j : ∀ d, P d → Φ.rt (en.tick k) d) : HS Z bs (.Return (some e) pos) en Φ := fun σ F H R D q r =>
  ⟨tRet (tE Z e), fun i => ps_ret (pe_tE Z e i), h σ F H R _ fun v d F' H' R' s r' p => r (en.tick k) σ v d F' H' R' r' (j d p)⟩
theorem HS_ifD {ta tb : List Stmt} (h : HDC Z bs c en k fun z => if z = true then HT Z bs ta (en.tick k) Φ else HT Z bs tb (en.tick k) Φ) : HS Z bs (.If c ta tb pos) en Φ := fun σ F H R D q r => by
  refine ⟨tIfS (tT Z c) (tSs Z ta) (tSs Z tb), fun i => ps_if (pt_tT Z c i) (pss_tS Z ta i) (pss_tS Z tb i), h σ F H R _ fun z F' H' R' s p => ?_⟩
  cases z with
  | true => exact p σ F' H' R' D (fun en2 σ2 F2 H2 R2 s2 p2 => q en2 σ2 F2 H2 R2 (s.trans s2) p2) r
  | false => exact p σ F' H' R' D (fun en2 σ2 F2 H2 R2 s2 p2 => q en2 σ2 F2 H2 R2 (s.trans s2) p2) r

/-! ### the generator's list itself -/
theorem HE_gen {gi : Nat} {gx : Str} {gp : Pos} {j : Nat} (hgen : en.sl[gi]? = some .gen) (hb : HV Z bs b en (.int (j : Int))) (h : ∀ x y z : Int, 0 ≤ x → x.natAbs < 2 ^ 2000 → y.natAbs < 2 ^ 40 → 0 ≤ z → z ≤ (en.ct : Int) → ∃ w, [x, y, z][j]? = some w ∧ P (.int w))
    (hN : Z.N[gi]? = some gx := by rfl) (hv : Vis Z.sc gx := by first | exact Or.inl rfl | exact Or.inr (Or.inl rfl) | exact Or.inr (Or.inr rfl)) (hd : (gx == ("__debug__" : Str)) = false := by decide) (hcd : (gx == ("__classdict__" : Str)) = false := by decide) (hp : PlainIx b := by intro _ _; rfl) :
    HE Z bs (.Subscript (.Name gx gp) b pos) en P := fun σ F H R Q q => by
  obtain ⟨g, eg, sg⟩ := R.sl gi _ hgen
  refine ⟨_, fun i => pe_ix (ixL i) (pe_var (Ctx.nth hN i) (Ctx.vis hv i) hd hcd) (pe_tE Z b i) hp, _, sg, hb σ F H R _ fun v1 d1 F1 H1 R1 s1 r1 e1 => ?_⟩
  subst e1
  cases r1
  obtain ⟨x, y, z, q0, q1, q2, q3, q4, q5⟩ := R1.gn g eg
  obtain ⟨w, h1, h2⟩ := h x y z q1 q2 q3 q4 q5
  refine ⟨_, [.int x, .int y, .int z], _, .int w, rfl, rfl, SqL.of q0, atI_of (by omega) ?_, q _ _ F1 H1 R1 s1 (.int w) h2⟩
  rw [Int.toNat_natCast]
  have : [V.int x, V.int y, V.int z] = [x, y, z].map V.int := rfl
  rw [this, List.getElem?_map, h1]; rfl
theorem HS_genSet {gi : Nat} {gx : Str} {gp p1 : Pos} {j : Nat} (hgen : en.sl[gi]? = some .gen) (h : HE Z bs e en P) (hb : HV Z bs b en (.int (j : Int))) (hj : j < 3)
    (hv : ∀ d, P d → ∃ w : Int, d = .int w ∧ ∀ x y z : Int, 0 ≤ x → x.natAbs < 2 ^ 2000 → y.natAbs < 2 ^ 40 → 0 ≤ z → z ≤ (en.ct : Int) → ∃ x' y' z', [x, y, z].set j w = [x', y', z'] ∧ 0 ≤ x' ∧ x'.natAbs < 2 ^ 2000 ∧ y'.natAbs < 2 ^ 40 ∧ 0 ≤ z' ∧ z' ≤ (en.ct : Int) + k) (hΦ : Φ.nx (en.tick k))
    (hN : Z.N[gi]? = some gx := by rfl) (hvi : Vis Z.sc gx := by first | exact Or.inl rfl | exact Or.inr (Or.inl rfl) | exact Or.inr (Or.inr rfl)) (hd : (gx == ("__debug__" : Str)) = false := by decide) (hcd : (gx == ("__classdict__" : Str)) = false := by decide)
    (ha : ∀ i v, assign (.Subscript (.Name gx gp) b p1) (Z.X i).env v = (do
      let ov ← holding [v] (eval (.Name gx gp) (Z.X i).env)
      let iv ← holding [v, ov] (eval b (Z.X i).env)
      standAt p1
      holding [v, ov, iv] (setItem ov iv v)
      release [v, ov, iv] []) := by intro _ _; rfl)
    (hs : ∀ j, swapsWithSole [.Subscript (.Name gx gp) b p1] e pos.line (Z.X j).env = pure false := by intro _; rfl) (hw : ∀ j, swappedStores [.Subscript (.Name gx gp) b p1] e (Z.X j).env = pure none := by intro _; rfl) (h1 : ∀ j, (assignEach [.Subscript (.Name gx gp) b p1] (Z.X j).env).map (·.2) = [assign (.Subscript (.Name gx gp) b p1) (Z.X j).env] := by intro _; rfl) :
    HS Z bs (.Assign [.Subscript (.Name gx gp) b p1] e pos) en Φ := fun σ F H R D q r => by
  obtain ⟨g, eg, sg⟩ := R.sl gi _ hgen
  refine ⟨tAsg (tE Z e) (gSub (tVar gi) (tE Z b) rSetL), fun i => ps_asg (pe_tE Z e i) (pg_sub (pe_var (Ctx.nth hN i) (Ctx.vis hvi i) hd hcd) (pe_tE Z b i) set_list (ha i)) (hs i) (hw i) (h1 i), h σ F H R _ fun v d F1 H1 R1 G1 r1 p1 => ?_⟩
  obtain ⟨w, rfl, hv⟩ := hv d p1
  cases r1
  refine ⟨_, sg, hb σ F1 H1 R1 _ fun v2 d2 F2 H2 R2 G2 r2 e2 => ?_⟩
  subst e2
  cases r2
  obtain ⟨x, y, z, q0, q1, q2, q3, q4, q5⟩ := R2.gn g eg
  obtain ⟨x', y', z', e3, w1, w2, w3, w4, w5⟩ := hv x y z q1 q2 q3 q4 q5
  refine ⟨_, _, _, j, rfl, rfl, q0, ixN_nat (by exact hj), ?_⟩
  have es : [V.int x, V.int y, V.int z].set j (.int w) = [V.int x', V.int y', V.int z'] := by
    have : [V.int x, V.int y, V.int z].set j (.int w) = ([x, y, z].set j w).map V.int := by rw [List.map_set]; rfl
    rw [this, e3]; rfl
  rw [es]
  exact q _ σ F2 _ (R2.genMut (k := k) eg ⟨x', y', z', upd_same, w1, w2, w3, w4, by omega⟩) (G1.f.trans G2.f) hΦ
end

/-! ### a def that draws -/
def en0G (N : List Str) (ds : List PyData) (m : Nat) : En := { sl := .gen :: (ds.map Ent.dat ++ List.replicate (N.length - 1 - ds.length) .un), ct := m }
theorem rel0G {K : PySem.W.Frag} {N : List Str} {F H : Hp} {g : Addr} {m : Nat} {vs : List V} {ds : List PyData} (s : Same F H) (fg : F g = none) (G : Gen m H g) (r : Rps F vs ds) (hN : 1 ≤ N.length) : Rel K ⟨F, H, some g, none⟩ (en0G N ds m) (L2.start N (.ref g :: vs)) F H := by
  have hl := r.len
  refine ⟨⟨fun g' h => ?_, (fun _ h => nomatch h), .inr rfl⟩, Same.refl F, s, fun a o h _ => h, fun _ _ _ => rfl, fun g' h => ?_, (fun _ h => nomatch h), ?_, fun i e h => ?_, trivial⟩
  · cases h
    obtain ⟨x, y, z, q, _⟩ := G
    exact ⟨fg, _, q⟩
  · cases h; exact G
  · show (Ent.gen :: (ds.map Ent.dat ++ List.replicate (N.length - 1 - ds.length) .un)).length = ((V.ref g :: vs).map some ++ List.replicate (N.length - (vs.length + 1)) none).length
    simp [hl]; omega
  · cases i with
    | zero =>
      have h : some Ent.gen = some e := h
      cases h
      exact ⟨g, rfl, rfl⟩
    | succ i =>
      have h : (ds.map Ent.dat ++ List.replicate (N.length - 1 - ds.length) Ent.un)[i]? = some e := h
      show EntR K _ _ F ((vs.map some ++ List.replicate (N.length - (vs.length + 1)) none)[i]?) e
      by_cases q : i < ds.length
      · rw [List.getElem?_append_left (by simpa using q), List.getElem?_map] at h
        rw [List.getElem?_eq_getElem q] at h
        cases (Option.some.inj h)
        obtain ⟨v, h1, h2⟩ := r.get (List.getElem?_eq_getElem q)
        refine ⟨v, ?_, h2⟩
        rw [List.getElem?_append_left (by simp; omega), List.getElem?_map, h1]
        rfl
      · rw [List.getElem?_append_right (by simp; omega)] at h
        have : e = .un := List.eq_of_mem_replicate (List.mem_of_getElem? h)
        subst this
        trivial
theorem Rel.endG {K : PySem.W.Frag} {F H F' H' : Hp} {g : Addr} {en : En} {σ : L2.St} {n : Nat} (R : Rel K ⟨F, H, some g, none⟩ en σ F' H') (h : en.ct ≤ n) : GrowG g n F H F' H' :=
  ⟨R.ff, R.fh, fun a o ne h => R.hh a o h (by
    rintro (z | ⟨_, z, _⟩)
    · exact ne (Option.some.inj z).symm
    · cases z), fun a o h => R.fr a o h, (R.gn g rfl).mono h⟩
section
variable {P : Program} {w : World} {K : PySem.W.Frag} {mg : Str → Option Value} {base : Heap}
theorem fn_okG {x qual : Str} {st : Stmt} {f : Addr} {fd : FuncData} {N ps : List Str} {k n c : Nat} {W : List PyData → (PyData → Prop) → Prop} (F : Fun K x qual st f fd) (S : FnScope N ps (defScope st)) (hn : ps.length = n + 1) (hN : 1 ≤ N.length)
    (hb : ∀ (cd : Value) (A : Around) (outer : List Env) (s : Shared) (H : Hp) (E : XK) (hr : Room k (A.deeper (envOfC qual (defScope st) s.heap.objs.size f cd))) (bs : Bs) (ds : List PyData) (Pd : PyData → Prop) (m : Nat), bs.o = none → m + c ≤ 900000000 → W ds Pd → ds.length = n →
      HT (ctx0 P w K mg base N qual (defScope st) f cd A outer s H E S.nd (Room.un200 hr)) bs (defBody st) (en0G N ds m) ⟨fun en' => en'.ct ≤ m + c ∧ Pd .none, fun en' d => en'.ct ≤ m + c ∧ Pd d⟩) :
    FnOk P w K mg base CX0 (k + 1) f fd ps (spG n c W) := by
  refine F.ok S (fun vs H Q E h => ?_) (fun cd A outer s H vs Q E hr h => ?_)
  · obtain ⟨F0, g, ws, ds, Pd, m, rfl, _, _, _, _, r, hl, _⟩ := h
    rw [List.length_cons, r.len, hl, hn]
  · obtain ⟨F0, g, ws, ds, Pd, m, rfl, sm, fg, G, hm, r, hl, hw, q⟩ := h
    obtain ⟨t, h1, h2⟩ := hb cd A outer s H E hr ⟨F0, H, some g, none⟩ ds Pd m rfl hm hw hl _ F0 H (rel0G sm fg G r hN) { nx := fun _ H' => Q .non H', rt := Q } (fun en' σ' F' H' R _ p => q _ _ F' H' (R.endG p.1) .non p.2) (fun en' σ' v d F' H' R rp p => q _ _ F' H' (R.endG p.1) rp p.2)
    exact ⟨t, h1 (), h2⟩
end
end WS
set_option Elab.async false
set_option linter.all false
set_option maxRecDepth 100000
set_option maxHeartbeats 4000000
set_option autoImplicit false
namespace L2
open PySem PySem.Spec PyProof.Rows
/-- o.f = .. as a target -/
def gAttr (K : PySem.W.Frag) (ta : TE) (f : Str) : TG := fun v σ H Q => ta σ H fun x H2 => ∃ a C dx fs, x = .ref a ∧ H2 a = some (.ins C dx fs) ∧ Cls K C ∧ NoAttr K C f ∧ fs.length < 1000 ∧ Q σ (upd H2 a (.ins C dx (putF f v fs)))
theorem pg_attr {X : Cx} {o : Expr} {f : Str} {pos : Pos} {ta : TE} (ho : PE X o ta) : PG X (.Attribute o f pos) (gAttr X.K ta f) := by
  refine ⟨fun pins s σ H v u Q I r h => ?_⟩
  refine PySem.W.kas_attr (thn (ho.run pins s σ H _ I h) fun ov s2 ⟨x, H2, I2, rx, a, C, dx, fs, ex, ea, c, n, l, q2⟩ => ?_)
  subst ex
  obtain rfl : ov = Value.ref a := rx
  exact setattr_ok I2 ea c n l r fun s3 I3 => ⟨σ, _, I3, q2⟩
end L2
namespace WS
open PySem PySem.Spec PyProof.Rows L2
def putD (f : Str) (v : PyData) : List (Str × PyData) → List (Str × PyData)
  | [] => [(f, v)]
  | (g, x) :: r => if g = f then (g, v) :: r else (g, x) :: putD f v r
theorem lookup_putD (f g : Str) (v : PyData) : ∀ fs : List (Str × PyData), (putD f v fs).lookup g = if g = f then some v else fs.lookup g
  | [] => by
    show List.lookup g [(f, v)] = _
    by_cases h : g = f
    · have hb : (g == f) = true := beq_iff_eq.mpr h
      simp only [List.lookup, hb, if_pos h]
    · have hb : (g == f) = false := beq_eq_false_iff_ne.mpr h
      simp only [List.lookup, hb, if_neg h]
  | (k, x) :: r => by
    have ih := lookup_putD f g v r
    rw [show putD f v ((k, x) :: r) = (if k = f then (k, v) :: r else (k, x) :: putD f v r) from rfl]
    by_cases hk : k = f
    · rw [if_pos hk]
      by_cases h : g = k
      · have hb : (g == k) = true := beq_iff_eq.mpr h
        simp only [List.lookup, hb, if_pos (h.trans hk)]
      · have hb : (g == k) = false := beq_eq_false_iff_ne.mpr h
        simp only [List.lookup, hb, if_neg (fun e : g = f => h (e.trans hk.symm))]
    · rw [if_neg hk]
      by_cases h : g = k
      · have hb : (g == k) = true := beq_iff_eq.mpr h
        simp only [List.lookup, hb, if_neg (fun e : g = f => hk (h.symm.trans e))]
      · have hb : (g == k) = false := beq_eq_false_iff_ne.mpr h
        simp only [List.lookup, hb]
        exact ih
theorem length_putD (f : Str) (v : PyData) : ∀ fs : List (Str × PyData), fs.length ≤ (putD f v fs).length ∧ (fs.lookup f = none → (putD f v fs).length = fs.length + 1)
  | [] => ⟨Nat.zero_le _, fun _ => rfl⟩
  | (k, x) :: r => by
    obtain ⟨h1, h2⟩ := length_putD f v r
    rw [show putD f v ((k, x) :: r) = (if k = f then (k, v) :: r else (k, x) :: putD f v r) from rfl]
    by_cases hk : k = f
    · rw [if_pos hk]
      subst hk
      exact ⟨Nat.le_refl _, fun h => by simp [List.lookup] at h⟩
    · rw [if_neg hk]
      refine ⟨by simp only [List.length_cons]; omega, fun h => ?_⟩
      have hb : (f == k) = false := beq_eq_false_iff_ne.mpr (fun e => hk e.symm)
      simp only [List.lookup, hb] at h
      simp only [List.length_cons]
      rw [h2 h]
theorem length_putV (f : Str) (v : V) : ∀ fs : List (Str × V), fs.lookup f ≠ none → (putF f v fs).length = fs.length
  | [], h => absurd rfl h
  | (k, x) :: r, h => by
    rw [show putF f v ((k, x) :: r) = (if k = f then (k, v) :: r else (k, x) :: putF f v r) from rfl]
    by_cases hk : k = f
    · rw [if_pos hk]; rfl
    · rw [if_neg hk]
      have hb : (f == k) = false := beq_eq_false_iff_ne.mpr (fun e => hk e.symm)
      simp only [List.lookup, hb] at h
      simp only [List.length_cons]
      rw [length_putV f v r h]
def En.fld (en : En) (fs : List (Str × PyData)) (fo : List PyData) : En := { en with fs := fs, fo := fo }
abbrev OS := List (Str × PyData) × List PyData
section
variable {K : PySem.W.Frag} {b : Bs} {en : En} {σ : L2.St} {F H : Hp} {o : Ob}
/-- the object is written: all else stands -/
theorem Rel.objTo (R : Rel K b en σ F H) (ho : b.o = some o) {F' H' : Hp} {fs : List (Str × PyData)} {fo : List PyData} (s : Same F F') (fh : Same F' H') (h : ∀ a u, a ≠ o.p → o.l ≠ some a → H a = some u → H' a = some u) (fr : ∀ a u, H a = some u → F' a = F a)
    (hob : ObR o (en.fld fs fo) F' H') : Rel K b (en.fld fs fo) σ F' H' := by
  have ng : b.g = none := by rcases R.bo.x1 with z | z; exact z; rw [ho] at z; cases z
  have nM : ∀ a, ¬ b.M a → a ≠ o.p ∧ o.l ≠ some a := fun a n => ⟨fun e => n (.inr ⟨o, ho, .inl e⟩), fun e => n (.inr ⟨o, ho, .inr e⟩)⟩
  have own : ∀ a, b.H0 a = none → a ≠ o.p ∧ o.l ≠ some a := fun a n => nM a (R.own_ne n)
  refine ⟨R.bo, R.ff.trans s, fh, fun a u h0 n => h a u (nM a n).1 (nM a n).2 (R.hh a u h0 n), fun a u h0 => ?_, fun g hg => (by rw [ng] at hg; cases hg), fun o' ho' => ?_, R.ln, fun i e he => ?_, ?_⟩
  · by_cases n : b.M a
    · rcases n with n | ⟨o', e, z⟩
      · rw [ng] at n; cases n
      · obtain ⟨u', q⟩ := (R.ob o' e).mem z
        exact (fr a _ q).trans (R.fr a u h0)
    · exact (fr a u (R.hh a u h0 n)).trans (R.fr a u h0)
  · rw [ho] at ho'; cases ho'; exact hob
  · have q := R.sl i e he
    cases e with
    | dat d => obtain ⟨v, e1, e2⟩ := q; exact ⟨v, e1, e2.up s⟩
    | _ => exact q
  · have q := R.ow
    show OwR b F' H' en.ow
    cases hw : en.ow with
    | no => trivial
    | lst a ds =>
      rw [hw] at q
      obtain ⟨q1, q2, xs, q3, q4⟩ := q
      exact ⟨q1, (fr a _ q3).trans q2, xs, h _ _ (own a q1).1 (own a q1).2 q3, q4.up s⟩
    | mat a rs m =>
      rw [hw] at q
      obtain ⟨q1, q2, q3, q4, q5, q6, q7⟩ := q
      refine ⟨q1, (fr a _ q3).trans q2, h _ _ (own a q1).1 (own a q1).2 q3, q4, q5, q6, fun j r row h1 h2 => ?_⟩
      obtain ⟨z1, z2, xs, z3, z4⟩ := q7 j r row h1 h2
      exact ⟨z1, (fr r _ z3).trans z2, xs, h _ _ (own r z1).1 (own r z1).2 z3, z4.up s⟩
theorem Rel.objNone (R : Rel K b en σ F H) (ho : b.o = some o) : F o.p = none ∧ ∀ l, o.l = some l → F l = none ∧ o.p ≠ l := by
  obtain ⟨h0, ⟨u, h1⟩, h2⟩ := R.bo.o1 o ho
  refine ⟨(R.fr o.p u h1).trans h0, fun l hl => ?_⟩
  obtain ⟨z0, ⟨u', z1⟩, z2⟩ := h2 l hl
  exact ⟨(R.fr l u' z1).trans z0, z2⟩
/-- self.f = v -/
theorem Rel.objSet (R : Rel K b en σ F H) (ho : b.o = some o) {f : Str} {v : V} {d : PyData} {vs : List (Str × V)} (hp : H o.p = some (.ins o.C o.dx vs)) (hv : Rp F v d) (hf : f ≠ ("found" : Str)) : Rel K b (en.fld (putD f d en.fs) en.fo) σ F (upd H o.p (.ins o.C o.dx (putF f v vs))) := by
  obtain ⟨f1, f2⟩ := R.objNone ho
  refine R.objTo ho (Same.refl F) (fun c u h => by rw [upd_ne (ne_of_none h f1)]; exact R.fh c u h) (fun a u n _ h => by rw [upd_ne n]; exact h) (fun _ _ _ => rfl) ?_
  obtain ⟨vs', q, q0, q2, qn, q3⟩ := R.ob o ho
  rw [hp] at q; cases q
  refine ⟨_, upd_same, ?_, fun g d' hg => ?_, fun g hg hn => ?_, fun l hl => ?_⟩
  · show (putF f v vs).length ≤ (putD f d en.fs).length + 1 ∧ (o.l = none → (putF f v vs).length ≤ (putD f d en.fs).length)
    obtain ⟨l1, l2⟩ := length_putD f d en.fs
    obtain ⟨q0, q0'⟩ := q0
    by_cases e : vs.lookup f = none
    · have e2 : en.fs.lookup f = none := by
        cases z : en.fs.lookup f with
        | none => rfl
        | some d0 => obtain ⟨v0, z1, _⟩ := q2 f d0 z; rw [e] at z1; cases z1
      have := length_putF f v vs
      rw [l2 e2]; exact ⟨by omega, fun z => by have := q0' z; omega⟩
    · rw [length_putV f v vs e]; exact ⟨by omega, fun z => by have := q0' z; omega⟩
  · have hg : (putD f d en.fs).lookup g = some d' := hg
    rw [lookup_putD] at hg
    rw [lookup_putF]
    by_cases e : g = f
    · rw [if_pos e] at hg ⊢; cases hg; exact ⟨v, rfl, hv⟩
    · rw [if_neg e] at hg ⊢; exact q2 g d' hg
  · have hg : (putD f d en.fs).lookup g = none := hg
    rw [lookup_putD] at hg
    rw [lookup_putF]
    by_cases e : g = f
    · rw [if_pos e] at hg; cases hg
    · rw [if_neg e] at hg ⊢; exact qn g hg hn
  · obtain ⟨z1, xs, z2, z3⟩ := q3 l hl
    refine ⟨by rw [lookup_putF, if_neg (fun e => hf e.symm)]; exact z1, xs, by rw [upd_ne (fun e => (f2 l hl).2 e.symm)]; exact z2, z3⟩
/-- self.found.append(..) -/
theorem Rel.objApp (R : Rel K b en σ F H) (ho : b.o = some o) {l : Addr} (hl : o.l = some l) {xs : List V} {fo : List PyData} (hx : Rps F xs fo) : Rel K b (en.fld en.fs fo) σ F (upd H l (.lst xs)) := by
  obtain ⟨f1, f2⟩ := R.objNone ho
  refine R.objTo ho (Same.refl F) (fun c u h => by rw [upd_ne (ne_of_none h (f2 l hl).1)]; exact R.fh c u h) (fun a u _ n h => by rw [upd_ne (fun e => n (by rw [e]; exact hl))]; exact h) (fun _ _ _ => rfl) ?_
  obtain ⟨vs, q, q0, q2, qn, q3⟩ := R.ob o ho
  refine ⟨vs, by rw [upd_ne (f2 l hl).2]; exact q, q0, q2, qn, fun l' hl' => ?_⟩
  have e : l' = l := by rw [hl] at hl'; exact (Option.some.inj hl').symm
  subst e
  exact ⟨(q3 l' hl').1, xs, upd_same, hx⟩
end
section
variable {Z : Ctx} {bs : Bs} {en : En} {st : Stmt} {e a b c : Expr} {es : List Expr} {pos : Pos} {Φ : DE} {P : PyData → Prop} {ds : List PyData} {o : Ob}
/-- the target self.f -/
def xFld (Z : Ctx) (i : Nat) (f : Str) : Bs → En → PyData → En → Prop := fun b en d en' => ∃ o, b.o = some o ∧ Cls Z.K o.C ∧ NoAttr Z.K o.C f ∧ en.sl[i]? = some .slf ∧ en.fs.length < 900 ∧ en' = en.fld (putD f d en.fs) en.fo
theorem HGX_fld {i : Nat} {x f : Str} {p1 p2 : Pos} (hf : f ≠ ("found" : Str) := by decide) (hN : Z.N[i]? = some x := by rfl) (hv : Vis Z.sc x := by first | exact Or.inl rfl | exact Or.inr (Or.inl rfl) | exact Or.inr (Or.inr rfl)) (hd : (x == ("__debug__" : Str)) = false := by decide) (hcd : (x == ("__classdict__" : Str)) = false := by decide) :
    HGX Z (.Attribute (.Name x p1) f p2) (xFld Z i f) := by
  refine ⟨gAttr Z.K (tVar i) f, fun j => ?_, fun b en σ F H v d en' R r e Q q => ?_⟩
  · have z := pg_attr (f := f) (pos := p2) (pe_var (X := Z.X j) (pos := p1) (Ctx.nth hN j) (Ctx.vis hv j) hd hcd)
    rw [Z.hK j] at z; exact z
  · obtain ⟨o, ho, hc, hn, hs, hl, rfl⟩ := e
    obtain ⟨o', e1, e2⟩ := R.sl i _ hs
    rw [ho] at e1; cases e1
    obtain ⟨vs, h1, h2, h4, hno, h5⟩ := R.ob o ho
    refine ⟨_, e2, o.p, o.C, o.dx, vs, rfl, h1, hc, hn, by omega, ?_⟩
    exact q σ F _ (R.objSet ho h1 r hf) (Same.refl F)
theorem HS_fld {i : Nat} {x f : Str} {p1 p2 : Pos} (h : HE Z bs e en P) (ho : bs.o = some o) (hc : Cls Z.K o.C) (hn : NoAttr Z.K o.C f) (hs : en.sl[i]? = some .slf) (hl : en.fs.length < 900) (k : ∀ d, P d → Φ.nx (en.fld (putD f d en.fs) en.fo))
    (hf : f ≠ ("found" : Str) := by decide) (hN : Z.N[i]? = some x := by rfl) (hv : Vis Z.sc x := by first | exact Or.inl rfl | exact Or.inr (Or.inl rfl) | exact Or.inr (Or.inr rfl)) (hd : (x == ("__debug__" : Str)) = false := by decide) (hcd : (x == ("__classdict__" : Str)) = false := by decide)
    (hsw : ∀ j, swapsWith e (some (.Attribute (.Name x p1) f p2)) pos.line (Z.X j).env = pure false := by intro _; rfl) : HS Z bs (.Assign [.Attribute (.Name x p1) f p2] e pos) en Φ := fun σ F H R D q r => by
  refine ⟨sFld Z.K (tVar i) (tE Z e) f, fun j => ?_, h σ F H R _ fun v d F' H' R' G r' p => ?_⟩
  · have z := ps_fld (f := f) (pos' := p2) (pos := pos) (pe_var (X := Z.X j) (pos := p1) (Ctx.nth hN j) (Ctx.vis hv j) hd hcd) (pe_tE Z e j) (hsw j)
    rw [Z.hK j] at z; exact z
  · obtain ⟨o', e1, e2⟩ := R'.sl i _ hs
    rw [ho] at e1; cases e1
    obtain ⟨vs, h1, h2, h4, hno, h5⟩ := R'.ob o ho
    exact ⟨_, e2, o.p, o.C, o.dx, vs, rfl, h1, hc, hn, by omega, q _ σ F' _ (R'.objSet ho h1 r' hf) G.f (k d p)⟩
/-- self.found.append(e) -/
theorem HS_fapp {i : Nat} {x : Str} {px p2 apos cpos : Pos} (ho : bs.o = some o) {l : Addr} (hlo : o.l = some l) (hc : Cls Z.K o.C) (hn : NoAttr Z.K o.C "found") (hs : en.sl[i]? = some .slf) (h : HE Z bs e en P) (hl : en.fo.length < 100000) (k : ∀ d, P d → Φ.nx (en.fld en.fs (en.fo ++ [d])))
    (hN : Z.N[i]? = some x := by rfl) (hv : Vis Z.sc x := by first | exact Or.inl rfl | exact Or.inr (Or.inl rfl) | exact Or.inr (Or.inr rfl)) (hd : (x == ("__debug__" : Str)) = false := by decide) (hcd : (x == ("__classdict__" : Str)) = false := by decide)
    (hb : ∀ i, attributeBase (.Name x px) "found" (Z.X i).env (eval (.Name x px) (Z.X i).env) = eval (.Name x px) (Z.X i).env := by intro _; rfl)
    (hbase : ∀ j, attributeBase (.Attribute (.Name x px) "found" p2) "append" (Z.X j).env (eval (.Attribute (.Name x px) "found" p2) (Z.X j).env) = eval (.Attribute (.Name x px) "found" p2) (Z.X j).env := by intro _; rfl)
    (hfew : ∀ j, ((backTo cpos (starEach [e] (Z.X j).env)).all (fun x => !x.1) && (backToKw cpos (keywordEach [] (Z.X j).env)).all (fun x => x.1.isSome)
      && decide (([e] : List Expr).length + ([] : List Keyword).length + (if ([] : List Keyword).isEmpty then 0 else 1) < 30)) = true := by intro _; rfl)
    (hline : (apos.endLine == cpos.line) = true := by rfl) (hst : ∀ i, starEach [e] (Z.X i).env = (false, eval e (Z.X i).env) :: starEach [] (Z.X i).env := by intro _; rfl)
    (hsw : ∀ j, swapsWith (.Call (.Attribute (.Attribute (.Name x px) "found" p2) "append" apos) [e] [] cpos) none pos.line (Z.X j).env = pure false := by intro _; rfl) : HS Z bs (.Expr (.Call (.Attribute (.Attribute (.Name x px) "found" p2) "append" apos) [e] [] cpos) pos) en Φ := fun σ F H R D q r => by
  refine ⟨tDrop (tBM Z.K "list" rAppend (tFld Z.K (tVar i) "found") (tCons (tE Z e) tNil)), fun j => ?_, ?_⟩
  · have z0 := pe_fld (f := "found") (pos := p2) (pe_var (X := Z.X j) (pos := px) (Ctx.nth hN j) (Ctx.vis hv j) hd hcd) (hb j)
    have z := pe_bm (X := Z.X j) (cpos := cpos) (apos := apos) PySem.F.plainAttrs_list PySem.F.slot_list_append PySem.F.type_list_append mt_append z0 (pa_cons (pe_tE Z e j) pa_nil (hst j)) (hbase j) (hfew j) hline (hst j) (by rfl)
    rw [Z.hK j] at z
    exact ps_expr z (hsw j)
  · obtain ⟨o', e1, e2⟩ := R.sl i _ hs
    rw [ho] at e1; cases e1
    obtain ⟨vs, h1, h2, h4, hno, h5⟩ := R.ob o ho
    obtain ⟨z1, xs, z2, z3⟩ := h5 l hlo
    refine ⟨_, e2, o.p, o.C, o.dx, vs, .ref l, rfl, h1, hc, hn, z1, .inl ⟨rfl, _, SqL.of z2⟩, ?_⟩
    refine h σ F H R _ fun v d F2 H2 R2 G2 r2 p2 => ?_
    obtain ⟨vs2, _, _, _, _, h52⟩ := R2.ob o ho
    obtain ⟨_, xs2, y2, y3⟩ := h52 l hlo
    refine ⟨l, xs2, v, rfl, rfl, y2, lenLt (by rw [y3.len]; exact hl), ?_⟩
    exact q _ σ F2 _ (R2.objApp ho hlo (y3.snoc r2)) G2.f (k d p2)
end

/-! ### methods -/
structure GrowO (o : Ob) (F H F' H' : Hp) : Prop where
  f : Same F F'
  fh : Same F' H'
  h : ∀ a u, a ≠ o.p → o.l ≠ some a → H a = some u → H' a = some u
  fr : ∀ a u, H a = some u → F' a = F a
def ObS (o : Ob) (st : OS) (F H : Hp) : Prop := ObR o { sl := [], fs := st.1, fo := st.2 } F H
/-- a method's promise -/
def spO (n : Nat) (C : Addr) (W : List PyData → OS → (PyData → OS → Prop) → Prop) : Sp := fun vs H Q _ => ∃ F o ws ds st P, vs = .ref o.p :: ws ∧ o.C = C ∧ (∃ l, o.l = some l ∧ o.p ≠ l ∧ F l = none) ∧ F o.p = none ∧ Same F H ∧ ObS o st F H ∧ Rps F ws ds ∧ ds.length = n ∧ W ds st P ∧
  ∀ v d st' F' H', GrowO o F H F' H' → ObS o st' F' H' → Rp F' v d → P d st' → Q v H'
def en0O (N : List Str) (ds : List PyData) (st : OS) : En := { sl := .slf :: (ds.map Ent.dat ++ List.replicate (N.length - 1 - ds.length) .un), fs := st.1, fo := st.2 }
theorem rel0O {K : PySem.W.Frag} {N : List Str} {F H : Hp} {o : Ob} {st : OS} {vs : List V} {ds : List PyData} (s : Same F H) (fo : F o.p = none) (hl : ∀ l, o.l = some l → o.p ≠ l ∧ F l = none) (hob : ObS o st F H) (r : Rps F vs ds) (hN : 1 ≤ N.length) : Rel K ⟨F, H, none, some o⟩ (en0O N ds st) (L2.start N (.ref o.p :: vs)) F H := by
  have hlen := r.len
  refine ⟨⟨(fun _ h => nomatch h), fun o' h => ?_, .inl rfl⟩, Same.refl F, s, fun a o h _ => h, fun _ _ _ => rfl, (fun _ h => nomatch h), fun o' h => ?_, ?_, fun i e h => ?_, trivial⟩
  · cases h
    exact ⟨fo, hob.mem (.inl rfl), fun l e => ⟨(hl l e).2, hob.mem (.inr e), (hl l e).1⟩⟩
  · cases h; exact hob
  · show (Ent.slf :: (ds.map Ent.dat ++ List.replicate (N.length - 1 - ds.length) .un)).length = ((V.ref o.p :: vs).map some ++ List.replicate (N.length - (vs.length + 1)) none).length
    simp [hlen]; omega
  · cases i with
    | zero =>
      have h : some Ent.slf = some e := h
      cases h
      exact ⟨o, rfl, rfl⟩
    | succ i =>
      have h : (ds.map Ent.dat ++ List.replicate (N.length - 1 - ds.length) Ent.un)[i]? = some e := h
      show EntR K _ _ F ((vs.map some ++ List.replicate (N.length - (vs.length + 1)) none)[i]?) e
      by_cases q : i < ds.length
      · rw [List.getElem?_append_left (by simpa using q), List.getElem?_map] at h
        rw [List.getElem?_eq_getElem q] at h
        cases (Option.some.inj h)
        obtain ⟨v, h1, h2⟩ := r.get (List.getElem?_eq_getElem q)
        refine ⟨v, ?_, h2⟩
        rw [List.getElem?_append_left (by simp; omega), List.getElem?_map, h1]
        rfl
      · rw [List.getElem?_append_right (by simp; omega)] at h
        have : e = .un := List.eq_of_mem_replicate (List.mem_of_getElem? h)
        subst this
        trivial
theorem Rel.endO {K : PySem.W.Frag} {F H F' H' : Hp} {o : Ob} {en : En} {σ : L2.St} (R : Rel K ⟨F, H, none, some o⟩ en σ F' H') : GrowO o F H F' H' ∧ ObS o (en.fs, en.fo) F' H' :=
  ⟨⟨R.ff, R.fh, fun a u n1 n2 h => R.hh a u h (by
    rintro (z | ⟨o', z, w⟩)
    · cases z
    · cases z
      rcases w with w | w
      · exact n1 w
      · exact n2 w), fun a u h => R.fr a u h⟩, (R.ob o rfl).keep (Same.refl _) (fun u q => q) (fun l u _ q => q)⟩
section
variable {P : Program} {w : World} {K : PySem.W.Frag} {mg : Str → Option Value} {base : Heap}
theorem fn_okO {x qual : Str} {st : Stmt} {f C : Addr} {fd : FuncData} {N ps : List Str} {k n : Nat} {W : List PyData → OS → (PyData → OS → Prop) → Prop} (F : Fun K x qual st f fd) (S : FnScope N ps (defScope st)) (hn : ps.length = n + 1) (hN : 1 ≤ N.length)
    (hb : ∀ (cd : Value) (A : Around) (outer : List Env) (s : Shared) (H : Hp) (E : XK) (hr : Room k (A.deeper (envOfC qual (defScope st) s.heap.objs.size f cd))) (bs : Bs) (o : Ob) (l : Addr) (ds : List PyData) (so : OS) (Pd : PyData → OS → Prop), bs.o = some o → o.l = some l → o.C = C → W ds so Pd → ds.length = n →
      HT (ctx0 P w K mg base N qual (defScope st) f cd A outer s H E S.nd (Room.un200 hr)) bs (defBody st) (en0O N ds so) ⟨fun en' => Pd .none (en'.fs, en'.fo), fun en' d => Pd d (en'.fs, en'.fo)⟩) :
    FnOk P w K mg base CX0 (k + 1) f fd ps (spO n C W) := by
  refine F.ok S (fun vs H Q E h => ?_) (fun cd A outer s H vs Q E hr h => ?_)
  · obtain ⟨F0, o, ws, ds, so, Pd, rfl, _, _, _, _, _, r, hl, _⟩ := h
    rw [List.length_cons, r.len, hl, hn]
  · obtain ⟨F0, o, ws, ds, so, Pd, rfl, hC, ⟨l, hl, hpl, fl⟩, fp, sm, hob, r, hlen, hw, q⟩ := h
    have hl' : ∀ l, o.l = some l → o.p ≠ l ∧ F0 l = none := fun l' e => by rw [hl] at e; cases e; exact ⟨hpl, fl⟩
    obtain ⟨t, h1, h2⟩ := hb cd A outer s H E hr ⟨F0, H, none, some o⟩ o l ds so Pd rfl hl hC hw hlen _ F0 H (rel0O sm fp hl' hob r hN) { nx := fun _ H' => Q .non H', rt := Q } (fun en' σ' F' H' R _ p => q _ _ _ _ _ R.endO.1 R.endO.2 .non p) (fun en' σ' v d F' H' R rp p => q _ _ _ _ _ R.endO.1 R.endO.2 rp p)
    exact ⟨t, h1 (), h2⟩
end
/-- a method that is known -/
def KnM (P : Program) (w : World) (K : PySem.W.Frag) (mg : Str → Option Value) (base : Heap) (C : Addr) (m : Str) (k : Nat) (sp : Sp) : Prop :=
  ∃ f fd ps, FnOk P w K mg base CX0 k f fd ps sp ∧ Meth K C m f ∧ Binds K fd ps []
section
variable {Z : Ctx} {bs : Bs} {en : En} {st : Stmt} {e a b c : Expr} {es : List Expr} {pos : Pos} {Φ : DE} {P : PyData → Prop} {ds : List PyData} {o : Ob}
theorem ObR.toS {o : Ob} {en : En} {F H : Hp} (h : ObR o en F H) : ObS o (en.fs, en.fo) F H := h.keep (Same.refl _) (fun u q => q) (fun l u _ q => q)
theorem ObS.toR {o : Ob} {st : OS} {en : En} {F H : Hp} (h : ObS o st F H) : ObR o (en.fld st.1 st.2) F H := ObR.keep (en := { sl := [], fs := st.1, fo := st.2 }) (en' := en.fld st.1 st.2) h (Same.refl _) (fun u q => q) (fun l u _ q => q)
/-- the reading of self.m(..) -/
theorem meth_core {m : Str} {n i : Nat} {W : List PyData → OS → (PyData → OS → Prop) → Prop} {ta : TA} {σ : L2.St} {F H : Hp} {Q : VK} {PO : PyData → OS → Prop} (R : Rel Z.K bs en σ F H) (ho : bs.o = some o) {l : Addr} (hl : o.l = some l) (hs : en.sl[i]? = some .slf) (hm : en.fs.lookup m = none) (hmf : m ≠ ("found" : Str))
    (ha : ∀ Q' : List V → Hp → Prop, (∀ vs F' H', Rel Z.K bs en σ F' H' → Grow bs.g F H F' H' → Rps F' vs ds → Q' vs H') → ta σ H Q') (hn : ds.length = n) (w : W ds (en.fs, en.fo) PO)
    (q : ∀ v d st' F' H', Rel Z.K bs (en.fld st'.1 st'.2) σ F' H' → Same F F' → Rp F' v d → PO d st' → Q v H') : tMeth o.C m (spO n o.C W) [] E0 (tVar i) ta σ H Q := by
  obtain ⟨o', e1, e2⟩ := R.sl i _ hs
  rw [ho] at e1; cases e1
  obtain ⟨vs, h1, h2, h4, hno, h5⟩ := R.ob o ho
  refine ⟨_, e2, o.p, o.dx, vs, rfl, h1, hno m hm hmf, ha _ fun ws F1 H1 R1 G1 r1 => ?_⟩
  obtain ⟨f1, f2⟩ := R1.objNone ho
  refine ⟨F1, o, ws, ds, (en.fs, en.fo), PO, by rw [List.append_nil], rfl, ⟨l, hl, (f2 l hl).2, (f2 l hl).1⟩, f1, R1.fh, (R1.ob o ho).toS, r1, hn, w, fun v d st' F2 H2 G2 ob2 r2 p2 => ?_⟩
  exact q v d st' F2 H2 (R1.objTo ho G2.f G2.fh G2.h G2.fr ob2.toR) (G1.f.trans G2.f) r2 p2
/-- self.m(..) that leaves the object as it is -/
theorem HD_meth {x m : Str} {i k n : Nat} {px apos : Pos} {W : List PyData → OS → (PyData → OS → Prop) → Prop} (ho : bs.o = some o) {l : Addr} (hl : o.l = some l) (hc : Cls Z.K o.C) (kn : KnM Z.P Z.w Z.K Z.mg Z.base o.C m k (spO n o.C W)) (hr : Room k Z.A) (hs : en.sl[i]? = some .slf) (hm : en.fs.lookup m = none) (ha : HAv Z bs (e :: es) en ds) (hn : ds.length = n)
    (w : W ds (en.fs, en.fo) fun d st' => st' = (en.fs, en.fo) ∧ P d) (hmf : m ≠ ("found" : Str) := by decide)
    (hN : Z.N[i]? = some x := by rfl) (hv : Vis Z.sc x := by first | exact Or.inl rfl | exact Or.inr (Or.inl rfl) | exact Or.inr (Or.inr rfl)) (hd : (x == ("__debug__" : Str)) = false := by decide) (hcd : (x == ("__classdict__" : Str)) = false := by decide)
    (hst : ∀ i, starEach (e :: es) (Z.X i).env = (false, eval e (Z.X i).env) :: starEach es (Z.X i).env := by intro _; rfl) (hpl : ∀ i, (backTo pos (starEach es (Z.X i).env)).any (·.1) = false := by intro _; rfl)
    (ht : ∀ j, ∃ pl, eval (.Call (.Attribute (.Name x px) m apos) (e :: es) [] pos) (Z.X j).env = (do
      let ov ← eval (.Name x px) (Z.X j).env
      standAt apos.atName
      let (f, first) ← holding [ov] (getMethod ov m pl)
      callWith pos f first (backTo pos (starEach (e :: es) (Z.X j).env)) (backToKw pos (keywordEach [] (Z.X j).env))) := by intro _; exact ⟨_, rfl⟩) : HD Z bs (.Call (.Attribute (.Name x px) m apos) (e :: es) [] pos) en 0 P := fun σ F H R Q q => by
  obtain ⟨f, fd, ps, ok, hme, hb⟩ := kn
  refine ⟨tMeth o.C m (spO n o.C W) [] E0 (tVar i) (tAr Z (e :: es)), fun j => ?_, ?_⟩
  · obtain ⟨pl, ht⟩ := ht j
    refine pe_meth (pl := pl) (f := f) (fd := fd) (ps := ps) (k := k) (CX := CX0) (pe_var (Ctx.nth hN j) (Ctx.vis hv j) hd hcd) (by rw [Z.hK]; exact hc) (by rw [Z.hK]; exact hme) ?_ (by rw [Z.hA]; exact hr) (by rw [Z.hK]; exact hb) .nil pass0 (pa_tA Z _ j) (hst j) (hpl j) ht
    rw [Z.hP, Z.hw, Z.hK, Z.hm, Z.hb]; exact ok
  · exact meth_core R ho hl hs hm hmf (fun Q' k => ha σ F H R Q' fun vs ds' F' H' R' G r' e => by subst e; exact k vs F' H' R' G r') hn w fun v d st' F' H' R' s r' p => by
      obtain ⟨e1, p⟩ := p
      subst e1
      exact q v d F' H' (R'.tick 0) s r' p
theorem HD_meth0 {x m : Str} {i k : Nat} {px apos : Pos} {W : List PyData → OS → (PyData → OS → Prop) → Prop} (ho : bs.o = some o) {l : Addr} (hl : o.l = some l) (hc : Cls Z.K o.C) (kn : KnM Z.P Z.w Z.K Z.mg Z.base o.C m k (spO 0 o.C W)) (hr : Room k Z.A) (hs : en.sl[i]? = some .slf) (hm : en.fs.lookup m = none)
    (w : W [] (en.fs, en.fo) fun d st' => st' = (en.fs, en.fo) ∧ P d) (hmf : m ≠ ("found" : Str) := by decide)
    (hN : Z.N[i]? = some x := by rfl) (hv : Vis Z.sc x := by first | exact Or.inl rfl | exact Or.inr (Or.inl rfl) | exact Or.inr (Or.inr rfl)) (hd : (x == ("__debug__" : Str)) = false := by decide) (hcd : (x == ("__classdict__" : Str)) = false := by decide)
    (ht : ∀ j, ∃ pl, eval (.Call (.Attribute (.Name x px) m apos) [] [] pos) (Z.X j).env = (do
      let ov ← eval (.Name x px) (Z.X j).env
      standAt apos.atName
      let (f, first) ← holding [ov] (getMethod ov m pl)
      callWith pos f first (backTo pos (starEach [] (Z.X j).env)) (backToKw pos (keywordEach [] (Z.X j).env))) := by intro _; exact ⟨_, rfl⟩) : HD Z bs (.Call (.Attribute (.Name x px) m apos) [] [] pos) en 0 P := fun σ F H R Q q => by
  obtain ⟨f, fd, ps, ok, hme, hb⟩ := kn
  refine ⟨tMeth o.C m (spO 0 o.C W) [] E0 (tVar i) tNil, fun j => ?_, ?_⟩
  · obtain ⟨pl, ht⟩ := ht j
    refine pe_meth0 (pl := pl) (f := f) (fd := fd) (ps := ps) (k := k) (CX := CX0) (pe_var (Ctx.nth hN j) (Ctx.vis hv j) hd hcd) (by rw [Z.hK]; exact hc) (by rw [Z.hK]; exact hme) ?_ (by rw [Z.hA]; exact hr) (by rw [Z.hK]; exact hb) .nil pass0 ht
    rw [Z.hP, Z.hw, Z.hK, Z.hm, Z.hb]; exact ok
  · exact meth_core (ds := []) R ho hl hs hm hmf (fun Q' k => k [] F H R R.gid .nil) rfl w fun v d st' F' H' R' s r' p => by
      obtain ⟨e1, p⟩ := p
      subst e1
      exact q v d F' H' (R'.tick 0) s r' p
/-- self.m(..) as a statement -/
theorem HS_meth {x m : Str} {i k n : Nat} {px apos p3 : Pos} {W : List PyData → OS → (PyData → OS → Prop) → Prop} (ho : bs.o = some o) {l : Addr} (hl : o.l = some l) (hc : Cls Z.K o.C) (kn : KnM Z.P Z.w Z.K Z.mg Z.base o.C m k (spO n o.C W)) (hr : Room k Z.A) (hs : en.sl[i]? = some .slf) (hm : en.fs.lookup m = none) (ha : HAv Z bs (e :: es) en ds) (hn : ds.length = n)
    (w : W ds (en.fs, en.fo) fun d st' => Φ.nx (en.fld st'.1 st'.2)) (hmf : m ≠ ("found" : Str) := by decide)
    (hN : Z.N[i]? = some x := by rfl) (hv : Vis Z.sc x := by first | exact Or.inl rfl | exact Or.inr (Or.inl rfl) | exact Or.inr (Or.inr rfl)) (hd : (x == ("__debug__" : Str)) = false := by decide) (hcd : (x == ("__classdict__" : Str)) = false := by decide)
    (hst : ∀ i, starEach (e :: es) (Z.X i).env = (false, eval e (Z.X i).env) :: starEach es (Z.X i).env := by intro _; rfl) (hpl : ∀ i, (backTo pos (starEach es (Z.X i).env)).any (·.1) = false := by intro _; rfl)
    (ht : ∀ j, ∃ pl, eval (.Call (.Attribute (.Name x px) m apos) (e :: es) [] pos) (Z.X j).env = (do
      let ov ← eval (.Name x px) (Z.X j).env
      standAt apos.atName
      let (f, first) ← holding [ov] (getMethod ov m pl)
      callWith pos f first (backTo pos (starEach (e :: es) (Z.X j).env)) (backToKw pos (keywordEach [] (Z.X j).env))) := by intro _; exact ⟨_, rfl⟩)
    (hsw : ∀ j, swapsWith (.Call (.Attribute (.Name x px) m apos) (e :: es) [] pos) none p3.line (Z.X j).env = pure false := by intro _; rfl) : HS Z bs (.Expr (.Call (.Attribute (.Name x px) m apos) (e :: es) [] pos) p3) en Φ := fun σ F H R D q r => by
  obtain ⟨f, fd, ps, ok, hme, hb⟩ := kn
  refine ⟨tDrop (tMeth o.C m (spO n o.C W) [] E0 (tVar i) (tAr Z (e :: es))), fun j => ?_, ?_⟩
  · obtain ⟨pl, ht⟩ := ht j
    refine ps_expr (pe_meth (pl := pl) (f := f) (fd := fd) (ps := ps) (k := k) (CX := CX0) (pe_var (Ctx.nth hN j) (Ctx.vis hv j) hd hcd) (by rw [Z.hK]; exact hc) (by rw [Z.hK]; exact hme) ?_ (by rw [Z.hA]; exact hr) (by rw [Z.hK]; exact hb) .nil pass0 (pa_tA Z _ j) (hst j) (hpl j) ht) (hsw j)
    rw [Z.hP, Z.hw, Z.hK, Z.hm, Z.hb]; exact ok
  · exact meth_core R ho hl hs hm hmf (fun Q' k => ha σ F H R Q' fun vs ds' F' H' R' G r' e => by subst e; exact k vs F' H' R' G r') hn w fun v d st' F' H' R' s r' p => q _ σ F' H' R' s p
theorem HS_meth0 {x m : Str} {i k : Nat} {px apos p3 : Pos} {W : List PyData → OS → (PyData → OS → Prop) → Prop} (ho : bs.o = some o) {l : Addr} (hl : o.l = some l) (hc : Cls Z.K o.C) (kn : KnM Z.P Z.w Z.K Z.mg Z.base o.C m k (spO 0 o.C W)) (hr : Room k Z.A) (hs : en.sl[i]? = some .slf) (hm : en.fs.lookup m = none)
    (w : W [] (en.fs, en.fo) fun d st' => Φ.nx (en.fld st'.1 st'.2)) (hmf : m ≠ ("found" : Str) := by decide)
    (hN : Z.N[i]? = some x := by rfl) (hv : Vis Z.sc x := by first | exact Or.inl rfl | exact Or.inr (Or.inl rfl) | exact Or.inr (Or.inr rfl)) (hd : (x == ("__debug__" : Str)) = false := by decide) (hcd : (x == ("__classdict__" : Str)) = false := by decide)
    (ht : ∀ j, ∃ pl, eval (.Call (.Attribute (.Name x px) m apos) [] [] pos) (Z.X j).env = (do
      let ov ← eval (.Name x px) (Z.X j).env
      standAt apos.atName
      let (f, first) ← holding [ov] (getMethod ov m pl)
      callWith pos f first (backTo pos (starEach [] (Z.X j).env)) (backToKw pos (keywordEach [] (Z.X j).env))) := by intro _; exact ⟨_, rfl⟩)
    (hsw : ∀ j, swapsWith (.Call (.Attribute (.Name x px) m apos) [] [] pos) none p3.line (Z.X j).env = pure false := by intro _; rfl) : HS Z bs (.Expr (.Call (.Attribute (.Name x px) m apos) [] [] pos) p3) en Φ := fun σ F H R D q r => by
  obtain ⟨f, fd, ps, ok, hme, hb⟩ := kn
  refine ⟨tDrop (tMeth o.C m (spO 0 o.C W) [] E0 (tVar i) tNil), fun j => ?_, ?_⟩
  · obtain ⟨pl, ht⟩ := ht j
    refine ps_expr (pe_meth0 (pl := pl) (f := f) (fd := fd) (ps := ps) (k := k) (CX := CX0) (pe_var (Ctx.nth hN j) (Ctx.vis hv j) hd hcd) (by rw [Z.hK]; exact hc) (by rw [Z.hK]; exact hme) ?_ (by rw [Z.hA]; exact hr) (by rw [Z.hK]; exact hb) .nil pass0 ht) (hsw j)
    rw [Z.hP, Z.hw, Z.hK, Z.hm, Z.hb]; exact ok
  · exact meth_core (ds := []) R ho hl hs hm hmf (fun Q' k => k [] F H R R.gid .nil) rfl w fun v d st' F' H' R' s r' p => q _ σ F' H' R' s p
end
end WS
set_option Elab.async false
set_option linter.all false
set_option maxRecDepth 100000
set_option maxHeartbeats 4000000
set_option autoImplicit false
namespace WS
open PySem PySem.Spec PyProof.Rows L2
section
variable {Z : Ctx} {bs : Bs} {en : En} {a b c e : Expr} {es : List Expr} {pos p : Pos} {P : PyData → Prop} {ds : List PyData}
/-! ### a op b op c -/
theorem HC_chainLe {P : Bool → Prop} {i j k : Int} (ha : HV Z bs a en (.int i)) (hb : HV Z bs b en (.int j)) (hc : HV Z bs c en (.int k)) (h : P (decide (i ≤ j) && decide (j ≤ k))) (hm : lastMarks [CmpOp.LtE, CmpOp.LtE] [b, c] = false := by with_unfolding_all rfl) : HC Z bs (.Compare a [.LtE, .LtE] [b, c] pos) en P := fun σ F H R Q q => by
  refine ⟨_, fun i => pt_chain op_le op_le (pe_tE Z a i) (pe_tE Z b i) (pe_tE Z c i) hm, ?_⟩
  refine ha σ F H R _ fun x dx F1 H1 R1 s1 rx px => ?_
  refine hb σ F1 H1 R1 _ fun y dy F2 H2 R2 s2 ry py => ?_
  subst px py
  cases rx; cases ry
  refine ⟨i, j, rfl, rfl, _, rfl, ?_⟩
  by_cases z : i ≤ j
  · rw [decide_eq_true z, if_pos rfl]
    refine hc σ F2 H2 R2 _ fun w dw F3 H3 R3 s3 rw' pw => ?_
    subst pw
    cases rw'
    rw [decide_eq_true z, Bool.true_and] at h
    exact ⟨j, k, rfl, rfl, _, rfl, q _ F3 H3 R3 ((s1.trans s2).trans s3) h⟩
  · rw [decide_eq_false z, if_neg (by decide)]
    rw [decide_eq_false z, Bool.false_and] at h
    exact ⟨_, rfl, q _ F2 H2 R2 (s1.trans s2) h⟩
/-! ### two clauses -/
theorem HV_lc2 {tg it tg1 it1 elt : Expr} {scope : Scope} {own : List (Str × Nat)} {vs1 : List Nat} {α β : Type} {xs : List α} {ys : α → List β} {c : α → PyData} {d : β → PyData} {h : α → β → PyData} {f f1 : En → PyData → En → Prop}
    (hi : HI Z bs tg it en (xs.map c)) (ok : BlkOk Z.N Z.sc scope own) (hg : HG (Z.blk scope) tg (own.map (·.2)) f) (hg1 : HG (Z.blk scope) tg1 vs1 f1) (hv : ∀ i ∈ vs1, i ∈ own.map (·.2))
    (hx : ∀ x ∈ xs, ∃ en1, f (en.wipe (own.map (·.2))) (c x) en1 ∧ en1.ow = .no ∧ HI (Z.blk scope) bs tg1 it1 en1 ((ys x).map d) ∧ ∀ y ∈ ys x, ∃ en2, f1 (en1.wipe vs1) (d y) en2 ∧ HV (Z.blk scope) bs elt en2 (h x y))
    (hl : (xs.flatMap fun x => (ys x).map (h x)).length ≤ 100000) (hs : FoldN Z it := by intro _ _; rfl) (hs1 : ∀ env x, foldedSetIterable it1 env x = pure x := by intro _ _; rfl) :
    HV Z bs (.ListComp elt [⟨tg, it, [], 0⟩, ⟨tg1, it1, [], 0⟩] scope pos) en (.list (xs.flatMap fun x => (ys x).map (h x))) := fun σ F H R Q q => by
  obtain ⟨g, a1, b1⟩ := hg
  obtain ⟨g1, a2, b2⟩ := hg1
  generalize hvs : own.map (·.2) = vs at *
  refine ⟨tLc2 (fun σ' H' R' => ∃ wi, (∀ i, PI (Z.X i) tg it wi) ∧ wi σ' H' R') g tYes (fun σ' H' R' => ∃ wi, (∀ i, PI ((Z.blk scope).X i) tg1 it1 wi) ∧ wi σ' H' R') g1 tYes (tE (Z.blk scope) elt) vs vs1, fun i => ?_, ?_⟩
  · subst hvs
    refine pe_lc2 (Z.hc i) (by rw [Z.hN]; exact Z.nd) ⟨fun pins s σ H R I ⟨wi, h1, h2⟩ => (h1 i).run pins s σ H R I h2⟩ (by rw [Z.hN, Z.hs]; exact ok) hv (fun s H C cl fp => a1 (i, s, H, C, cl, fp)) (fun s H C cl fp => pts_nil)
      (fun s H C cl fp => ⟨fun pins s' σ H' R I ⟨wi, h1, h2⟩ => (h1 (i, s, H, C, cl, fp)).run pins s' σ H' R I h2⟩) (fun s H C cl fp => a2 (i, s, H, C, cl, fp)) (fun s H C cl fp => pts_nil) (fun s H C cl fp => pe_tE (Z.blk scope) elt (i, s, H, C, cl, fp)) (hs i) hs1
  refine hi σ F H R _ fun J F1 H1 R1 G1 I => ?_
  intro D hD
  have fD : F1 D = none := R1.fnone hD
  have hlen : (xs.map c).length = xs.length := List.length_map _
  refine ⟨fun k m H => m = xs.length - k ∧ k ≤ xs.length ∧ ∃ Fk acc, Grow bs.g F1 H1 Fk H ∧ Fk D = none ∧ H D = some (.lst acc) ∧ Rps Fk acc ((xs.take k).flatMap fun x => (ys x).map (h x)), ⟨xs.length, rfl, Nat.zero_le _, F1, [], R1.gid.mut hD fD, fD, upd_same, .nil⟩, ?_⟩
  rintro k m H2 ⟨em, hk, F2, acc, G2, fD2, hD2, ra⟩
  by_cases hlt : k < xs.length
  · refine .inr ⟨I.go k F2 H2 G2.f G2.fh (by rw [hlen]; exact hlt), fun H' => ∃ Fk acc, Grow bs.g F1 H1 Fk H' ∧ Fk D = none ∧ H' D = some (.lst acc) ∧ Rps Fk acc ((xs.take (k + 1)).flatMap fun x => (ys x).map (h x)), fun H' ⟨Fk, acc, w⟩ => ⟨xs.length - (k + 1), by omega, rfl, hlt, Fk, acc, w⟩, fun x H3 y => ?_⟩
    have hxk : xs[k]? = some xs[k] := List.getElem?_eq_getElem hlt
    obtain ⟨F3, G3, r3⟩ := I.yl k F2 H2 x H3 (c xs[k]) G2.f G2.fh (by rw [List.getElem?_map, hxk]; rfl) y
    have R3 : Rel Z.K bs en σ F3 H3 := R1.grow (G2.trans G3)
    obtain ⟨en1, p1, p0, p2, p3⟩ := hx xs[k] (List.getElem_mem hlt)
    refine b1 bs _ (L2.wipe σ vs) F3 H3 x _ en1 (R3.wipe vs) r3 p1 _ fun σ2 R4 k4 l4 => ⟨(wipe_same l4 k4).trans wipe_wipe, ?_⟩
    have hD3 : H3 D = some (.lst acc) := G3.h D _ hD2
    have fD3 : F3 D = none := (G3.fr D _ hD2).trans fD2
    have tk : xs.take (k + 1) = xs.take k ++ [xs[k]] := by rw [List.take_add_one, hxk]; rfl
    have G23 := G2.trans G3
    have ra3 := ra.up G3.f
    have lim : ((xs.take k).flatMap fun x => (ys x).map (h x)).length + (ys xs[k]).length ≤ 100000 := by
      have e1 : xs = xs.take (k + 1) ++ xs.drop (k + 1) := (List.take_append_drop _ _).symm
      have : (xs.flatMap fun x => (ys x).map (h x)).length = ((xs.take k).flatMap fun x => (ys x).map (h x)).length + (ys xs[k]).length + ((xs.drop (k + 1)).flatMap fun x => (ys x).map (h x)).length := by
        rw [show (xs.flatMap fun x => (ys x).map (h x)) = ((xs.take k ++ [xs[k]]) ++ xs.drop (k + 1)).flatMap fun x => (ys x).map (h x) by rw [← tk, ← e1]]
        rw [List.flatMap_append, List.flatMap_append, List.length_append, List.length_append]
        simp
      omega
    dsimp only [tYes]
    rw [if_pos rfl]
    refine p2 σ2 F3 H3 R4 _ fun J1 F4 H4 R5 G4 I1 => ?_
    have hD4 : H4 D = some (.lst acc) := G4.h D _ hD3
    have fD4 : F4 D = none := (G4.fr D _ hD3).trans fD3
    have hlen1 : ((ys xs[k]).map d).length = (ys xs[k]).length := List.length_map _
    refine ⟨fun j m H => m = (ys xs[k]).length - j ∧ j ≤ (ys xs[k]).length ∧ ∃ Fj acc, Grow bs.g F4 (fun x => if x = D then none else H4 x) Fj H ∧ Fj D = none ∧ H D = some (.lst acc) ∧ Rps Fj acc (((xs.take k).flatMap fun x => (ys x).map (h x)) ++ ((ys xs[k]).take j).map (h xs[k])), ⟨_, rfl, Nat.zero_le _, F4, acc, ?_, fD4, hD4, by simpa using ra3.up G4.f⟩, ?_⟩
    · exact ⟨Same.refl _, R5.fh, fun a o h => by
        by_cases e : a = D
        · subst e; rw [if_pos rfl] at h; cases h
        · rw [if_neg e] at h; exact h, fun _ _ _ => rfl⟩
    have relJ : ∀ Fj Hj accj, Grow bs.g F4 (fun x => if x = D then none else H4 x) Fj Hj → Fj D = none → Hj D = some (.lst accj) → Rel Z.K bs en1 σ2 Fj Hj := fun Fj Hj accj G fDj hDj => by
      -- the block's names stand in a heap in which only D is another
      have nD : bs.g ≠ some D := R1.gnone hD
      have h0D : bs.H0 D = none := R1.h0none hD
      have nM : ¬ bs.M D := R1.own_ne h0D
      have keep : ∀ a o, a ≠ D → H4 a = some o → Hj a = some o := fun a o n h => G.h a o (by show (if a = D then none else H4 a) = _; rw [if_neg n]; exact h)
      have frk : ∀ a o, a ≠ D → H4 a = some o → Fj a = F4 a := fun a o n h => G.fr a o (by show (if a = D then none else H4 a) = _; rw [if_neg n]; exact h)
      refine ⟨R5.bo, R5.ff.trans G.f, G.fh, fun a o h n => keep a o (fun e => by rw [e, h0D] at h; cases h) (R5.hh a o h n), fun a o h => ?_, fun g' hg' => ?_, fun o ho => ?_, R5.ln, fun i e he => ?_, ?_⟩
      · have aD : a ≠ D := fun e => by rw [e, h0D] at h; cases h
        by_cases n : bs.M a
        · obtain ⟨u, hu⟩ := R5.m_in n
          exact (frk a u aD hu).trans (R5.fr a o h)
        · exact (frk a o aD (R5.hh a o h n)).trans (R5.fr a o h)
      · obtain ⟨x, y, z, q0, r⟩ := R5.gn g' hg'
        exact ⟨x, y, z, keep _ _ (fun e => nD (by rw [hg', e])) q0, r⟩
      · exact (R5.ob o ho).keep G.f (fun u q0 => keep _ _ (fun e => nM (.inr ⟨o, ho, .inl e.symm⟩)) q0) (fun l u hl q0 => keep _ _ (fun e => nM (.inr ⟨o, ho, .inr (by rw [← e]; exact hl)⟩)) q0)
      · have q0 := R5.sl i e he
        cases e with
        | dat d => obtain ⟨v, e1, e2⟩ := q0; exact ⟨v, e1, e2.up G.f⟩
        | _ => exact q0
      · rw [p0]; trivial
    rintro j m H5 ⟨em1, hj, F5, acc5, G5, fD5, hD5, ra5⟩
    by_cases hlt1 : j < (ys xs[k]).length
    · refine .inr ⟨I1.go j F5 H5 G5.f G5.fh (by rw [hlen1]; exact hlt1), fun H' => ∃ Fj acc, Grow bs.g F4 (fun x => if x = D then none else H4 x) Fj H' ∧ Fj D = none ∧ H' D = some (.lst acc) ∧ Rps Fj acc (((xs.take k).flatMap fun x => (ys x).map (h x)) ++ ((ys xs[k]).take (j + 1)).map (h xs[k])), fun H' ⟨Fj, acc, w⟩ => ⟨(ys xs[k]).length - (j + 1), by omega, rfl, hlt1, Fj, acc, w⟩, fun y0 H6 yy => ?_⟩
      have hyj : (ys xs[k])[j]? = some (ys xs[k])[j] := List.getElem?_eq_getElem hlt1
      obtain ⟨F6, G6, r6⟩ := I1.yl j F5 H5 y0 H6 (d (ys xs[k])[j]) G5.f G5.fh (by rw [List.getElem?_map, hyj]; rfl) yy
      have R6 : Rel Z.K bs en1 σ2 F6 H6 := (relJ F5 H5 acc5 G5 fD5 hD5).grow G6
      obtain ⟨en2, t1, t2⟩ := p3 (ys xs[k])[j] (List.getElem_mem hlt1)
      refine b2 bs _ (L2.wipe σ2 vs1) F6 H6 y0 _ en2 (R6.wipe vs1) r6 t1 _ fun σ7 R7 k7 l7 => ⟨(wipe_same l7 k7).trans wipe_wipe, ?_⟩
      have hD6 : H6 D = some (.lst acc5) := G6.h D _ hD5
      have fD6 : F6 D = none := (G6.fr D _ hD5).trans fD5
      dsimp only [tYes]
      rw [if_pos rfl]
      refine t2 σ7 F6 H6 R7 _ fun v dv F8 H8 R8 G8 r8 ed => ?_
      subst ed
      have hD8 : H8 D = some (.lst acc5) := G8.h D _ hD6
      have fD8 : F8 D = none := (G8.fr D _ hD6).trans fD6
      have tj : (ys xs[k]).take (j + 1) = (ys xs[k]).take j ++ [(ys xs[k])[j]] := by rw [List.take_add_one, hyj]; rfl
      refine ⟨acc5, hD8, ?_, F8, acc5 ++ [v], Grow.mut ((G5.trans G6).trans G8) (by rw [if_pos rfl]) fD8, fD8, upd_same, ?_⟩
      · rw [ra5.len, List.length_append, List.length_map, List.length_take]
        exact lenLt (by omega)
      · rw [tj, List.map_append, ← List.append_assoc]
        exact ((ra5.up G6.f).up G8.f).snoc r8
    · have ej : j = (ys xs[k]).length := by omega
      subst ej
      refine .inl ⟨I1.st _ F5 H5 G5.f G5.fh (by rw [hlen1]; exact Nat.le_refl _), F5, acc5, ?_, fD5, hD5, ?_⟩
      · have b4 : Grow bs.g F1 H1 F4 H4 := G23.trans G4
        refine ⟨b4.f.trans G5.f, G5.fh, fun a o h => G5.h a o ?_, fun a o h => ?_⟩
        · show (if a = D then none else H4 a) = _
          rw [if_neg (ne_of_none h hD)]; exact b4.h a o h
        · refine (G5.fr a o ?_).trans (b4.fr a o h)
          show (if a = D then none else H4 a) = _
          rw [if_neg (ne_of_none h hD)]; exact b4.h a o h
      · rw [tk, List.flatMap_append]
        rw [List.take_length] at ra5
        simpa using ra5
  · have ek : k = xs.length := by omega
    subst ek
    refine .inl ⟨I.st _ F2 H2 G2.f G2.fh (by rw [hlen]; exact Nat.le_refl _), ?_⟩
    rw [List.take_length] at ra
    have G4 : Grow bs.g F1 H1 (upd F2 D (.lst acc)) H2 := G2.frz hD fD2 hD2
    have sm : Same F2 (upd F2 D (.lst acc)) := fun a u h => by rw [upd_ne (ne_of_none h fD2)]; exact h
    exact q _ _ _ H2 (R1.grow G4) (G1.trans G4) (.lst upd_same (ra.up sm)) rfl
end
end WS
set_option Elab.async false
set_option linter.all false
set_option maxRecDepth 100000
set_option maxHeartbeats 4000000
set_option autoImplicit false
namespace WS
open PySem PySem.Spec PyProof.Rows L2
structure InitEnd (b : Bs) (o : Ob) (l : Addr) (st : OS) (F' H' : Hp) : Prop where
  ff : Same b.F0 F'
  fh : Same F' H'
  h : ∀ a u, a ≠ o.p → b.H0 a = some u → H' a = some u
  fr : ∀ a u, b.H0 a = some u → F' a = b.F0 a
  l0 : b.H0 l = none
  l1 : F' l = none
  ob : ObS { o with l := some l } st F' H'
/-- an __init__'s promise -/
def spI (n : Nat) (C : Addr) (W : List PyData → (OS → Prop) → Prop) : Sp := fun vs H Q _ => ∃ F dx x ws ds P, vs = .ref x :: ws ∧ H x = some (.ins C dx []) ∧ F x = none ∧ Same F H ∧ Rps F ws ds ∧ ds.length = n ∧ W ds P ∧
  ∀ l st' F' H', InitEnd ⟨F, H, none, some ⟨C, dx, x, none⟩⟩ ⟨C, dx, x, none⟩ l st' F' H' → P st' → Q .non H'
def HTI (Z : Ctx) (b : Bs) (o : Ob) (ts : List Stmt) (en : En) (P : OS → Prop) : Prop :=
  ∀ (σ : L2.St) (F H : Hp), Rel Z.K b en σ F H → ∀ D : Ends, (∀ σ' l st' F' H', InitEnd b o l st' F' H' → P st' → D.nx σ' H') → ∃ t, (∀ i, PSs (Z.X i) ts t) ∧ t D σ H
section
variable {K : PySem.W.Frag} {b : Bs} {en : En} {σ : L2.St} {F H : Hp}
theorem Rel.more (R : Rel K b en σ F H) (hw : en.ow = .no) {p : Addr} {u : HO} (hp : H p = none) : Rel K b en σ F (upd H p u) := by
  have keep : ∀ a o, H a = some o → upd H p u a = some o := fun a o h => by rw [upd_ne (ne_of_none h hp)]; exact h
  refine ⟨R.bo, R.ff, fun a o h => keep a o (R.fh a o h), fun a o h n => keep a o (R.hh a o h n), R.fr, fun g hg => ?_, fun o ho => (R.ob o ho).keep (Same.refl _) (fun u q => keep _ _ q) (fun l u _ q => keep _ _ q), R.ln, R.sl, by rw [hw]; trivial⟩
  obtain ⟨x, y, z, q, r⟩ := R.gn g hg
  exact ⟨x, y, z, keep _ _ q, r⟩
end
section
variable {Z : Ctx} {bs : Bs} {en : En} {st : Stmt} {rest : List Stmt} {e a b c : Expr} {es : List Expr} {pos : Pos} {P : OS → Prop} {ds : List PyData} {o : Ob}
theorem HTI_cons (h : HS Z bs st en ⟨fun en' => HTI Z bs o rest en' P, fun _ _ => False⟩) : HTI Z bs o (st :: rest) en P := fun σ F H R D q =>
  ⟨tSeq (tS1 Z st) (tSs Z rest), fun i => pss_cons (ps_tS Z st i) (pss_tS Z rest i), h σ F H R { D with nx := tSs Z rest D } (fun en' σ' F' H' R' s p => p σ' F' H' R' D q) (fun _ _ _ _ _ _ _ _ p => p.elim)⟩
/-- self.f, self.found = e, [] -/
theorem HTI_last {i : Nat} {x f : Str} {p1 p2 p3 p4 pt pt2 lp : Pos} {kt k2 : Nat} {d : PyData} (ho : bs.o = some o) (hl : o.l = none) (hc : Cls Z.K o.C) (hn : NoAttr Z.K o.C f) (hnf : NoAttr Z.K o.C "found") (hs : en.sl[i]? = some .slf) (hlen : en.fs.length < 900) (hw : en.ow = .no) (ha : HV Z bs a en d) (hP : P (putD f d en.fs, []))
    (hfnd : en.fs.lookup ("found" : Str) = none) (hf : f ≠ ("found" : Str) := by decide) (hN : Z.N[i]? = some x := by rfl) (hv : Vis Z.sc x := by first | exact Or.inl rfl | exact Or.inr (Or.inl rfl) | exact Or.inr (Or.inr rfl)) (hd : (x == ("__debug__" : Str)) = false := by decide) (hcd : (x == ("__classdict__" : Str)) = false := by decide)
    (hst : ∀ i, starEach [a, .List [] lp] (Z.X i).env = (false, eval a (Z.X i).env) :: starEach [.List [] lp] (Z.X i).env := by intro _; rfl)
    (hsw : ∀ j, swapsWithSole [.Tuple [.Attribute (.Name x p1) f p2, .Attribute (.Name x p3) "found" p4] kt pt] (.Tuple [a, .List [] lp] k2 pt2) pos.line (Z.X j).env = pure false := by intro _; rfl) (hws : ∀ j, swappedStores [.Tuple [.Attribute (.Name x p1) f p2, .Attribute (.Name x p3) "found" p4] kt pt] (.Tuple [a, .List [] lp] k2 pt2) (Z.X j).env = pure none := by intro _; rfl)
    (h1 : ∀ j, (assignEach [.Tuple [.Attribute (.Name x p1) f p2, .Attribute (.Name x p3) "found" p4] kt pt] (Z.X j).env).map (·.2) = [assign (.Tuple [.Attribute (.Name x p1) f p2, .Attribute (.Name x p3) "found" p4] kt pt) (Z.X j).env] := by intro _; rfl)
    (h2 : ∀ j, (assignEach [.Attribute (.Name x p1) f p2, .Attribute (.Name x p3) "found" p4] (Z.X j).env).map (·.2) = assign (.Attribute (.Name x p1) f p2) (Z.X j).env :: (assignEach [.Attribute (.Name x p3) "found" p4] (Z.X j).env).map (·.2) := by intro _; rfl)
    (h3 : ∀ j, (assignEach [.Attribute (.Name x p3) "found" p4] (Z.X j).env).map (·.2) = assign (.Attribute (.Name x p3) "found" p4) (Z.X j).env :: (assignEach [] (Z.X j).env).map (·.2) := by intro _; rfl)
    (hln : ∀ j, (assignEach [.Attribute (.Name x p1) f p2, .Attribute (.Name x p3) "found" p4] (Z.X j).env).length = 2 := by intro _; rfl) (hfi : ∀ j, (assignEach [.Attribute (.Name x p1) f p2, .Attribute (.Name x p3) "found" p4] (Z.X j).env).findIdx? (·.1) = none := by intro _; rfl) :
    HTI Z bs o [.Assign [.Tuple [.Attribute (.Name x p1) f p2, .Attribute (.Name x p3) "found" p4] kt pt] (.Tuple [a, .List [] lp] k2 pt2) pos] en P := fun σ F H R D q => by
  refine ⟨tAsg (tTup (tCons (tE Z a) (tCons (tLst tNil) tNil))) (gTup Z.K 2 (gCons (gAttr Z.K (tVar i) f) (gCons (gAttr Z.K (tVar i) "found") gNil))), fun j => ?_, ?_⟩
  · have v1 := pe_var (X := Z.X j) (pos := p1) (Ctx.nth hN j) (Ctx.vis hv j) hd hcd
    have v2 := pe_var (X := Z.X j) (pos := p3) (Ctx.nth hN j) (Ctx.vis hv j) hd hcd
    have g1 := pg_attr (f := f) (pos := p2) v1
    have g2 := pg_attr (f := ("found" : Str)) (pos := p4) v2
    have gt := pg_tup (pos := pt) (k := kt) (Z.hc j) (pgs_cons g1 (pgs_cons g2 pgs_nil (h3 j)) (h2 j)) (hln j) (hfi j)
    rw [Z.hK j] at gt
    exact pss_one (ps_asg (pe_tup (pa_cons (pe_tE Z a j) (pa_cons (pe_lst pa_nil) pa_nil) (hst j))) gt (hsw j) (hws j) (h1 j))
  · refine ha σ F H R _ fun v d' F1 H1 R1 G1 r1 e1 => ?_
    subst e1
    refine ⟨Nat.zero_le _, fun l hl1 => ⟨by show 2 ≤ sizeLine; decide, fun p hp => ?_⟩⟩
    have R2 : Rel Z.K bs en σ F1 (upd H1 l (.lst [])) := R1.more hw hl1
    have R3 : Rel Z.K bs en σ F1 (upd (upd H1 l (.lst [])) p (.tup [v, .ref l])) := R2.more hw hp
    obtain ⟨o', e1, e2⟩ := R3.sl i _ hs
    rw [ho] at e1; cases e1
    obtain ⟨vs, z1, z2, z4, zno, _⟩ := R3.ob o ho
    refine ⟨_, _, rfl, SqT.of upd_same, rfl, v, _, rfl, _, e2, o.p, o.C, o.dx, vs, rfl, z1, hc, hn, by omega, .ref l, _, rfl, ?_⟩
    have R4 := R3.objSet ho z1 r1 hf
    obtain ⟨o', e1', e2'⟩ := R4.sl i _ hs
    rw [ho] at e1'; cases e1'
    have pl : p ≠ l := fun e => by rw [e, upd_same] at hp; cases hp
    obtain ⟨f1, f2⟩ := R1.objNone ho
    obtain ⟨u0, hu0⟩ := (R1.ob o ho).mem (.inl rfl)
    have ol : o.p ≠ l := fun e => by rw [e, hl1] at hu0; cases hu0
    obtain ⟨vs4, y1, y2, y4, yno, _⟩ := R4.ob o ho
    have ey : vs4 = putF f v vs := by rw [upd_same] at y1; cases y1; rfl
    refine ⟨_, e2', o.p, o.C, o.dx, vs4, rfl, y1, hc, hnf, ?_, rfl, ?_⟩
    · have : (putD f d' en.fs).length ≤ en.fs.length + 1 := by
        have : ∀ fs : List (Str × PyData), (putD f d' fs).length ≤ fs.length + 1 := by
          intro fs
          induction fs with
          | nil => exact Nat.le_refl _
          | cons a r ih =>
            obtain ⟨k, w⟩ := a
            rw [show putD f d' ((k, w) :: r) = (if k = f then (k, d') :: r else (k, w) :: putD f d' r) from rfl]
            split
            · simp
            · simp only [List.length_cons]; omega
        exact this en.fs
      have y2 : vs4.length ≤ (putD f d' en.fs).length + 1 := y2.1
      omega
    · refine q σ l (putD f d' en.fs, []) F1 _ ⟨R1.ff, fun c u h => ?_, fun a u n h => ?_, R1.fr, R1.h0none hl1, R1.fnone hl1, ?_⟩ hP
      · rw [upd_ne (ne_of_none h f1)]; exact R4.fh c u h
      · have nM : ¬ bs.M a := by
          rintro (z | ⟨o', z, w⟩)
          · rcases R.bo.x1 with k | k
            · rw [k] at z; cases z
            · rw [ho] at k; cases k
          · rw [ho] at z; cases z
            rcases w with w | w
            · exact n w
            · rw [hl] at w; cases w
        rw [upd_ne n]; exact R4.hh a u h nM
      · refine ⟨putF "found" (.ref l) vs4, upd_same, ?_, fun g dd hg => ?_, fun g hg hgn => ?_, fun l' hl' => ?_⟩
        · have l1 := length_putF "found" (.ref l) vs4
          have : vs4.length ≤ (putD f d' en.fs).length := y2.2 hl
          refine ⟨?_, fun z => by cases z⟩
          show (putF "found" (.ref l) vs4).length ≤ (putD f d' en.fs).length + 1
          omega
        · have hg : (putD f d' en.fs).lookup g = some dd := hg
          rw [lookup_putF]
          by_cases e : g = ("found" : Str)
          · subst e
            rw [lookup_putD, if_neg (fun z => hf z.symm), hfnd] at hg; cases hg
          · rw [if_neg e]; exact y4 g dd hg
        · rw [lookup_putF, if_neg hgn]; exact yno g hg hgn
        · cases hl'
          refine ⟨by rw [lookup_putF, if_pos rfl], [], ?_, .nil⟩
          rw [upd_ne (fun e => ol e.symm), upd_ne (fun e => ol e.symm), upd_ne (fun e => pl e.symm), upd_same]
end
def en0I (N : List Str) (ds : List PyData) : En := { sl := .slf :: (ds.map Ent.dat ++ List.replicate (N.length - 1 - ds.length) .un) }
theorem rel0I {K : PySem.W.Frag} {N : List Str} {F H : Hp} {C dx x : Addr} {vs : List V} {ds : List PyData} (s : Same F H) (fx : F x = none) (hx : H x = some (.ins C dx [])) (r : Rps F vs ds) (hN : 1 ≤ N.length) : Rel K ⟨F, H, none, some ⟨C, dx, x, none⟩⟩ (en0I N ds) (L2.start N (.ref x :: vs)) F H := by
  have hob : ObS ⟨C, dx, x, none⟩ ([], []) F H := ⟨[], hx, ⟨Nat.zero_le _, fun _ => Nat.le_refl _⟩, (fun f d h => nomatch h), (fun f _ _ => rfl), (fun l h => nomatch h)⟩
  exact rel0O (o := ⟨C, dx, x, none⟩) (st := ([], [])) s fx (fun l h => nomatch h) hob r hN
section
variable {P : Program} {w : World} {K : PySem.W.Frag} {mg : Str → Option Value} {base : Heap}
theorem fn_okI {x qual : Str} {st : Stmt} {f C : Addr} {fd : FuncData} {N ps : List Str} {k n : Nat} {W : List PyData → (OS → Prop) → Prop} (F : Fun K x qual st f fd) (S : FnScope N ps (defScope st)) (hn : ps.length = n + 1) (hN : 1 ≤ N.length)
    (hb : ∀ (cd : Value) (A : Around) (outer : List Env) (s : Shared) (H : Hp) (E : XK) (hr : Room k (A.deeper (envOfC qual (defScope st) s.heap.objs.size f cd))) (bs : Bs) (o : Ob) (ds : List PyData) (Pd : OS → Prop), bs.o = some o → o.l = none → o.C = C → W ds Pd → ds.length = n →
      HTI (ctx0 P w K mg base N qual (defScope st) f cd A outer s H E S.nd (Room.un200 hr)) bs o (defBody st) (en0I N ds) Pd) :
    FnOk P w K mg base CX0 (k + 1) f fd ps (spI n C W) := by
  refine F.ok S (fun vs H Q E h => ?_) (fun cd A outer s H vs Q E hr h => ?_)
  · obtain ⟨F0, dx, x, ws, ds, Pd, rfl, _, _, _, r, hl, _⟩ := h
    rw [List.length_cons, r.len, hl, hn]
  · obtain ⟨F0, dx, x, ws, ds, Pd, rfl, hx, fx, sm, r, hlen, hw, q⟩ := h
    obtain ⟨t, h1, h2⟩ := hb cd A outer s H E hr ⟨F0, H, none, some ⟨C, dx, x, none⟩⟩ ⟨C, dx, x, none⟩ ds Pd rfl rfl rfl hw hlen _ F0 H (rel0I sm fx hx r hN) { nx := fun _ H' => Q .non H', rt := Q } (fun σ' l st' F' H' ie p => q l st' F' H' ie p)
    exact ⟨t, h1 (), h2⟩
end
/-- a class that is known -/
def KnC (P : Program) (w : World) (K : PySem.W.Frag) (mg : Str → Option Value) (base : Heap) (x : Str) (C : Addr) (k : Nat) (sp : Sp) : Prop :=
  ∃ f fd ps, FnOk P w K mg base CX0 k f fd ps sp ∧ Mk K C f ∧ mg x = some (.ref C) ∧ Binds K fd ps []
def plainE : List Ent → Bool
  | [] => true
  | .un :: r => plainE r
  | .dat _ :: r => plainE r
  | _ => false
theorem plainE_at : ∀ {l : List Ent}, plainE l = true → ∀ (i : Nat) (e : Ent), l[i]? = some e → e = .un ∨ ∃ d, e = .dat d
  | [], _, i, e, h => by simp at h
  | a :: r, hp, i, e, h => by
    cases i with
    | zero =>
      have h : some a = some e := by simpa using h
      cases h
      cases a with
      | un => exact .inl rfl
      | dat d => exact .inr ⟨d, rfl⟩
      | _ => cases hp
    | succ i =>
      have hr : plainE r = true := by cases a <;> first | exact hp | cases hp
      exact plainE_at hr i e (by simpa using h)
section
variable {Z : Ctx} {bs : Bs} {en : En} {st : Stmt} {rest : List Stmt} {e : Expr} {es : List Expr} {pos : Pos} {Φ : DE} {ds : List PyData}
/-- x = C(..), and all behind it, up to a return -/
theorem HT_make {i k n : Nat} {x cx : Str} {px p1 : Pos} {C : Addr} {W : List PyData → (OS → Prop) → Prop} {PS : OS → Prop} (kn : KnC Z.P Z.w Z.K Z.mg Z.base cx C k (spI n C W)) (hr : Room (k + 1) Z.A) (ha : HAv Z bs (e :: es) en ds) (hn : ds.length = n) (w : W ds PS) (hg : bs.g = none) (hpl : plainE en.sl = true) (how : en.ow = .no)
    (hi : i < en.sl.length) (kk : ∀ (b' : Bs) (o : Ob) (l : Addr) (st' : OS), b'.o = some o → o.l = some l → o.C = C → PS st' → HT Z b' rest { sl := en.sl.set i .slf, fs := st'.1, fo := st'.2 } ⟨fun _ => False, Φ.rt⟩)
    (hΦ : ∀ en1 en2 d, Φ.rt en1 d → Φ.rt en2 d) (hbo : bs.o = none)
    (hN : Z.N[i]? = some x := by rfl) (hx : LocS Z.sc x := by first | exact Or.inl rfl | exact Or.inr rfl) (hf : StoS Z x := by first | exact fun _ => Or.inl rfl | exact fun _ => Or.inr rfl)
    (hgl : GlS Z.sc cx := by rfl) (hdb : (cx == ("__debug__" : Str)) = false := by decide) (he : ∀ i, starEach (e :: es) (Z.X i).env = (false, eval e (Z.X i).env) :: starEach es (Z.X i).env := by intro _; rfl) (hst : ∀ i, (backTo p1 (starEach es (Z.X i).env)).any (·.1) = false := by intro _; rfl)
    {pc : Pos} (hs : ∀ j, swapsWith (.Call (.Name cx pc) (e :: es) [] p1) (some (.Name x px)) pos.line (Z.X j).env = pure false := by intro _; rfl) :
    HT Z bs (.Assign [.Name x px] (.Call (.Name cx pc) (e :: es) [] p1) pos :: rest) en Φ := fun σ F H R D q r => by
  obtain ⟨f, fd, ps, ok, hM, hm, hb⟩ := kn
  refine ⟨tSeq (tAsg (tMake C (spI n C W) [] E0 (tAr Z (e :: es))) (gName i)) (tSs Z rest), fun j => pss_cons (ps_set (by rw [Z.hN]; exact Z.nd) (Ctx.nth hN j) (Ctx.loc hx j) ?_ (hs j) (hf j)) (pss_tS Z rest j), ?_⟩
  · refine pe_make (f := f) (fd := fd) (ps := ps) (k := k) (CX := CX0) (by rw [Z.hK]; exact hM) ?_ (by rw [Z.hA]; exact hr) (Ctx.gl hgl j) (Ctx.mgS hm j) (by rw [Z.hK]; exact hb) .nil pass0 (pa_tA Z _ j) hdb (he j) (hst j)
    rw [Z.hP, Z.hw, Z.hK, Z.hm, Z.hb]; exact ok
  refine ha σ F H R _ fun vs d F1 H1 R1 G1 r1 ed => ?_
  subst ed
  intro p dx hp hdx hne
  have noM : ∀ a, ¬ bs.M a := by
    rintro a (z | ⟨o, z, _⟩)
    · rw [hg] at z; cases z
    · rw [hbo] at z; cases z
  have R2 : Rel Z.K bs en σ F1 (upd H1 dx (.own p)) := R1.more how hdx
  have hp2 : upd H1 dx (.own p) p = none := by rw [upd_ne (fun e => hne e.symm)]; exact hp
  have R3 : Rel Z.K bs en σ F1 (upd (upd H1 dx (.own p)) p (.ins C dx [])) := R2.more how hp2
  have fp : F1 p = none := R1.fnone hp
  refine ⟨F1, dx, p, vs, d, PS, by rw [List.append_nil], upd_same, fp, R3.fh, r1, hn, w, fun l st' F4 H4 ie ps4 => ⟨rfl, ?_⟩⟩
  obtain ⟨i1, i2, i3, i4, i5, i6, i7⟩ := ie
  have i5 : upd (upd H1 dx (.own p)) p (.ins C dx []) l = none := i5
  have lp : p ≠ l := fun e => by rw [← e, upd_same] at i5; cases i5
  have f4p : F4 p = none := (i4 p _ upd_same).trans fp
  have R5 : Rel Z.K ⟨F4, H4, none, some ⟨C, dx, p, some l⟩⟩ { sl := en.sl.set i .slf, fs := st'.1, fo := st'.2 } (σ.set i (some (.ref p))) F4 H4 := by
    refine ⟨⟨(fun _ h => nomatch h), fun o h => ?_, .inl rfl⟩, Same.refl _, i2, fun a o h _ => h, fun _ _ _ => rfl, (fun _ h => nomatch h), fun o h => ?_, by simp [R3.ln], fun j e he => ?_, trivial⟩
    · cases h
      refine ⟨f4p, i7.mem (.inl rfl), fun l' e => ?_⟩
      cases e
      exact ⟨i6, i7.mem (.inr rfl), lp⟩
    · cases h
      exact i7.keep (Same.refl _) (fun u q => q) (fun l u _ q => q)
    · have he : (en.sl.set i .slf)[j]? = some e := he
      by_cases q : i = j
      · subst q
        rw [List.getElem?_set_self hi] at he
        cases he
        refine ⟨_, rfl, ?_⟩
        rw [List.getElem?_set_self (by rw [← R3.ln]; exact hi)]
      · rw [List.getElem?_set_ne q] at he
        rw [List.getElem?_set_ne q]
        have z := R3.sl j e he
        rcases plainE_at hpl j e he with e1 | ⟨dd, e1⟩
        · subst e1; trivial
        · subst e1
          obtain ⟨v, z1, z2⟩ := z
          exact ⟨v, z1, z2.up i1⟩
  show tSs Z rest D (σ.set i (some (.ref p))) H4
  refine kk _ _ l st' rfl rfl rfl ps4 _ F4 H4 R5 D (fun _ _ _ _ _ _ hh => hh.elim) fun en2 σ2 v2 d2 F2 H2 R6 rp hrt => ?_
  refine r { sl := List.replicate σ2.length .un } σ2 v2 d2 F2 H2 ⟨R1.bo, (R1.ff.trans i1).trans R6.ff, R6.fh, fun a o h n => ?_, fun a o h => ?_, fun g' hg' => (by rw [hg] at hg'; cases hg'), fun o ho => (by rw [hbo] at ho; cases ho), by simp, fun j e he => ?_, trivial⟩ rp (hΦ _ _ _ hrt)
  · have h3 := R3.hh a o h n
    have ap : a ≠ p := fun e => by
      have := R1.hh a o h n
      rw [e, hp] at this; cases this
    have al : a ≠ l := fun e => by rw [e, i5] at h3; cases h3
    refine R6.hh a o (i3 a o ap h3) ?_
    rintro (z | ⟨o', z, w'⟩)
    · cases z
    · cases z
      rcases w' with w' | w'
      · exact ap w'
      · cases w'; exact al rfl
  · have h3 := R3.hh a o h (noM a)
    have ap : a ≠ p := fun e => by
      have := R1.hh a o h (noM a)
      rw [e, hp] at this; cases this
    exact ((R6.fr a o (i3 a o ap h3)).trans (i4 a o h3)).trans (R1.fr a o h)
  · have he : (List.replicate σ2.length Ent.un)[j]? = some e := he
    have : e = .un := List.eq_of_mem_replicate (List.mem_of_getElem? he)
    subst this
    trivial
end
end WS
set_option Elab.async false
set_option linter.all false
set_option maxRecDepth 100000
set_option maxHeartbeats 4000000
set_option autoImplicit false
namespace WS
open PySem PySem.Spec PyProof.Rows L2
abbrev dI (ns : List Int) : PyData := .list (ns.map .int)
def rowL (n : Nat) (r : Nat → Int) : List PyData := (List.range n).map fun j => .int (r j)
def matL (n : Nat) (M : Sq.Mx) : List (List PyData) := (List.range n).map fun i => rowL n (M i)
def mat (n : Nat) (M : Sq.Mx) : PyData := .list ((matL n M).map .list)
structure Gs (mg : Str → Option Value) : Prop where
  len : mg "len" = none
  range : mg "range" = none
  sum : mg "sum" = none
  enumerate : mg "enumerate" = none
  isinstance : mg "isinstance" = none
  int : mg "int" = none
  bool : mg "bool" = none
  list : mg "list" = none
  max : mg "max" = none
  min : mg "min" = none
  abs : mg "abs" = none
  zip : mg "zip" = none
  sorted : mg "sorted" = none
  repr : mg "repr" = none
  mw : ∃ u, mg "MOST_WIDTH" = some u ∧ RelV (.int 64) u
  mu : ∃ u, mg "MOST_UNKNOWNS" = some u ∧ RelV (.int 6) u
section
variable {P : Program} {w : World} {K : PySem.W.Frag} {mg : Str → Option Value} {base : Heap}
/-! ### is_whole -/
def W_whole : List PyData → (PyData → Prop) → Prop := fun ds P => ∃ i : Int, ds = [.int i] ∧ P (.bool true)
theorem ok_whole {f : Addr} {fd : FuncData} (F : Fun K "is_whole" "is_whole" (topS 8) f fd) (T : Gs mg) : FnOk P w K mg base CX0 1 f fd ["value"] (spF 1 W_whole) := by
  refine fn_ok (N := ["value"]) F ⟨rfl, rfl, rfl, by decide +kernel, rfl, by decide +kernel, by decide +kernel⟩ rfl fun cd A outer s H E hr bs ds Pd hg ho h hl => ?_
  obtain ⟨i, rfl, p⟩ := h
  exact HT_one (HS_ret (P := Pd) (HE_and (HV.he (HV_isi (k := true) T.isinstance (HV_var (i := 0) rfl) T.int PyProof.Rows.boot_int (by rfl)) ⟨true, rfl, HE_and1 (HV.he (HV_not (HV_isi (k := false) T.isinstance (HV_var (i := 0) rfl) T.bool PyProof.Rows.boot_bool (by rfl))) p)⟩)) fun d q => q)
abbrev KWhole (P : Program) (w : World) (K : PySem.W.Frag) (mg : Str → Option Value) (base : Heap) : Prop := Kn P w K mg base "is_whole" 1 (spF 1 W_whole)
/-! ### is_between -/
def W_between : List PyData → (PyData → Prop) → Prop := fun ds P => ∃ v a b : Int, ds = [.int v, .int a, .int b] ∧ P (.bool (decide (a ≤ v) && decide (v ≤ b)))
theorem ok_between {f : Addr} {fd : FuncData} (F : Fun K "is_between" "is_between" (topS 9) f fd) (T : Gs mg) (k1 : KWhole P w K mg base) : FnOk P w K mg base CX0 2 f fd ["value", "low", "high"] (spF 3 W_between) := by
  refine fn_ok (N := ["value", "low", "high"]) F ⟨rfl, rfl, rfl, by decide +kernel, rfl, by decide +kernel, by decide +kernel⟩ rfl fun cd A outer s H E hr bs ds Pd hg ho h hl => ?_
  obtain ⟨v, a, b, rfl, p⟩ := h
  refine HT_cons (HS_if (HC_not (HC_val (HE_call k1 hr (HA_cons (HV_var (i := 0) rfl) HA_nil) rfl ⟨v, rfl, ⟨true, rfl, ?_⟩⟩))))
  refine HT_nil ?_
  refine HT_one (HS_ret (P := Pd) (HE_and ?_) fun d q => q)
  refine HE_or (HV.he (HV_isN (HV_var (i := 1) rfl) HV_non) ⟨false, rfl, ?_⟩)
  refine HE_and1 (HV.he (HV_ge (HV_var (i := 0) rfl) (HV_var (i := 1) rfl)) ⟨_, rfl, ?_⟩)
  by_cases z : a ≤ v
  · rw [decide_eq_true z] at p ⊢
    rw [if_pos rfl]
    refine HE_and1 (HE_or (HV.he (HV_isN (HV_var (i := 2) rfl) HV_non) ⟨false, rfl, ?_⟩))
    exact HE_and1 (HV.he (HV_le (HV_var (i := 0) rfl) (HV_var (i := 2) rfl)) p)
  · rw [decide_eq_false z] at p ⊢
    rw [if_neg (by decide)]
    exact p
abbrev KBetween (P : Program) (w : World) (K : PySem.W.Frag) (mg : Str → Option Value) (base : Heap) : Prop := Kn P w K mg base "is_between" 2 (spF 3 W_between)
/-! ### power_of_two -/
def W_pow : List PyData → (PyData → Prop) → Prop := fun ds P => ∃ n : Nat, ds = [.int (n : Int)] ∧ n ≤ 1000000 ∧ P (.int (2 ^ n))
theorem ok_pow {f : Addr} {fd : FuncData} (F : Fun K "power_of_two" "power_of_two" (topS 10) f fd) : FnOk P w K mg base CX0 1 f fd ["many"] (spF 1 W_pow) := by
  refine fn_ok (N := ["many"]) F ⟨rfl, rfl, rfl, by decide +kernel, rfl, by decide +kernel, by decide +kernel⟩ rfl fun cd A outer s H E hr bs ds Pd hg ho h hl => ?_
  obtain ⟨n, rfl, hn, p⟩ := h
  exact HT_one (HS_retV (HV_shl HV_int (HV_var (i := 0) rfl) hn) p)
abbrev KPow (P : Program) (w : World) (K : PySem.W.Frag) (mg : Str → Option Value) (base : Heap) : Prop := Kn P w K mg base "power_of_two" 1 (spF 1 W_pow)
/-! ### twos -/
def W_twos : List PyData → (PyData → Prop) → Prop := fun ds P => ∃ x : Int, ds = [.int x] ∧ x ≠ 0 ∧ P (.int (Sq.tw x : Int))
theorem tw_step {x : Int} {k t : Nat} (hx : x ≠ 0) (h : k + Sq.tw x = t) (e : x % 2 = 0) : x / 2 ≠ 0 ∧ k + 1 + Sq.tw (x / 2) = t := by
  rw [Sq.tw_even hx e] at h
  exact ⟨by omega, by omega⟩
theorem ok_twos {f : Addr} {fd : FuncData} (F : Fun K "twos" "twos" (topS 11) f fd) : FnOk P w K mg base CX0 1 f fd ["number"] (spF 1 W_twos) := by
  refine fn_ok (N := ["number", "found"]) F ⟨rfl, rfl, rfl, by decide +kernel, rfl, by decide +kernel, by decide +kernel⟩ rfl fun cd A outer s H E hr bs ds Pd hg ho h hl => ?_
  obtain ⟨x, rfl, hx, p⟩ := h
  refine HT_cons (HS_setV (i := 1) HV_int ?_)
  refine HT_cons (HS_while (fun en => ∃ (y : Int) (k : Nat), en = { sl := [.dat (.int y), .dat (.int (k : Int))] } ∧ y ≠ 0 ∧ k + Sq.tw y = Sq.tw x) (fun en => match en.sl with
    | .dat (.int y) :: _ => y.natAbs
    | _ => 0) ⟨x, 0, rfl, hx, Nat.zero_add _⟩ fun en1 ⟨y, k, e1, hy, hk⟩ => ?_)
  subst e1
  refine HC_eqI (HV_mod (HV_var (i := 0) rfl) HV_int (by decide)) HV_int ?_
  by_cases e : y % 2 = 0
  · rw [decide_eq_true e, if_pos rfl]
    obtain ⟨t1, t2⟩ := tw_step hy hk e
    refine HT_one (HS_par (i := 0) (j := 1) (HA_cons (HV_div (HV_var (i := 0) rfl) HV_int (by decide) (by decide)) (HA_cons (HV_add (HV_var (i := 1) rfl) HV_int) HA_nil)) ?_)
    exact ⟨⟨y / 2, k + 1, rfl, t1, t2⟩, by show (y / 2).natAbs < y.natAbs; omega⟩
  · rw [decide_eq_false e, if_neg (by decide)]
    refine HT_one (HS_retV (HV_var (i := 1) rfl) ?_)
    have : Sq.tw y = 0 := Sq.tw_odd (by omega)
    have : k = Sq.tw x := by omega
    rw [this]; exact p
abbrev KTwos (P : Program) (w : World) (K : PySem.W.Frag) (mg : Str → Option Value) (base : Heap) : Prop := Kn P w K mg base "twos" 1 (spF 1 W_twos)
/-! ### widths and words -/
def W_isWidth : List PyData → (PyData → Prop) → Prop := fun ds P => ∃ v : Int, ds = [.int v] ∧ 1 ≤ v ∧ v ≤ 64 ∧ P (.bool true)
theorem ok_isWidth {f : Addr} {fd : FuncData} (F : Fun K "is_width" "is_width" (topS 12) f fd) (T : Gs mg) (k1 : KBetween P w K mg base) : FnOk P w K mg base CX0 3 f fd ["value"] (spF 1 W_isWidth) := by
  refine fn_ok (N := ["value"]) F ⟨rfl, rfl, rfl, by decide +kernel, rfl, by decide +kernel, by decide +kernel⟩ rfl fun cd A outer s H E hr bs ds Pd hg ho h hl => ?_
  obtain ⟨v, rfl, h1, h2, p⟩ := h
  obtain ⟨u, hu, ru⟩ := T.mw
  refine HT_one (HS_ret (HE_call k1 hr (HA_cons (HV_var (i := 0) rfl) (HA_cons HV_int (HA_cons (HV_glob hu ru) HA_nil))) rfl ⟨v, 1, 64, rfl, ?_⟩) fun d q => q)
  rw [decide_eq_true h1, decide_eq_true h2]; exact p
abbrev KIsWidth (P : Program) (w : World) (K : PySem.W.Frag) (mg : Str → Option Value) (base : Heap) : Prop := Kn P w K mg base "is_width" 3 (spF 1 W_isWidth)
def W_ckWidth : List PyData → (PyData → Prop) → Prop := fun ds P => ∃ v : Int, ds = [.int v] ∧ 1 ≤ v ∧ v ≤ 64 ∧ P .none
theorem ok_ckWidth {f : Addr} {fd : FuncData} (F : Fun K "check_width" "check_width" (topS 13) f fd) (k1 : KIsWidth P w K mg base) : FnOk P w K mg base CX0 4 f fd ["width"] (spF 1 W_ckWidth) := by
  refine fn_ok (N := ["width"]) F ⟨rfl, rfl, rfl, by decide +kernel, rfl, by decide +kernel, by decide +kernel⟩ rfl fun cd A outer s H E hr bs ds Pd hg ho h hl => ?_
  obtain ⟨v, rfl, h1, h2, p⟩ := h
  exact HT_one (HS_if (HC_not (HC_val (HE_call k1 hr (HA_cons (HV_var (i := 0) rfl) HA_nil) rfl ⟨v, rfl, h1, h2, ⟨true, rfl, HT_nil p⟩⟩))))
abbrev KCkWidth (P : Program) (w : World) (K : PySem.W.Frag) (mg : Str → Option Value) (base : Heap) : Prop := Kn P w K mg base "check_width" 4 (spF 1 W_ckWidth)
def W_isWord : List PyData → (PyData → Prop) → Prop := fun ds P => ∃ n : Nat, ds = [.int (n : Int), .int 0] ∧ n ≤ 1000 ∧ P (.bool true)
theorem ok_isWord {f : Addr} {fd : FuncData} (F : Fun K "is_word" "is_word" (topS 14) f fd) (k1 : KBetween P w K mg base) (k2 : KPow P w K mg base) : FnOk P w K mg base CX0 3 f fd ["width", "value"] (spF 2 W_isWord) := by
  refine fn_ok (N := ["width", "value"]) F ⟨rfl, rfl, rfl, by decide +kernel, rfl, by decide +kernel, by decide +kernel⟩ rfl fun cd A outer s H E hr bs ds Pd hg ho h hl => ?_
  obtain ⟨n, rfl, h1, p⟩ := h
  refine HT_one (HS_ret (HE_call k1 hr (HA_cons (HV_var (i := 1) rfl) (HA_cons HV_int (HA_cons (HV_sub (HE_call k2 (hr.mono (by decide)) (HA_cons (HV_var (i := 0) rfl) HA_nil) rfl ⟨n, rfl, by omega, rfl⟩) HV_int) HA_nil))) rfl ⟨0, 0, 2 ^ n - 1, rfl, ?_⟩) fun d q => q)
  have := Sq.pos2 n
  rw [decide_eq_true (by omega), decide_eq_true (show (0 : Int) ≤ 2 ^ n - 1 by omega)]; exact p
abbrev KIsWord (P : Program) (w : World) (K : PySem.W.Frag) (mg : Str → Option Value) (base : Heap) : Prop := Kn P w K mg base "is_word" 3 (spF 2 W_isWord)
def W_ckWord : List PyData → (PyData → Prop) → Prop := fun ds P => ∃ n : Nat, ds = [.int (n : Int), .int 0] ∧ n ≤ 1000 ∧ P .none
theorem ok_ckWord {f : Addr} {fd : FuncData} (F : Fun K "check_word" "check_word" (topS 15) f fd) (k1 : KIsWord P w K mg base) : FnOk P w K mg base CX0 4 f fd ["width", "word"] (spF 2 W_ckWord) := by
  refine fn_ok (N := ["width", "word"]) F ⟨rfl, rfl, rfl, by decide +kernel, rfl, by decide +kernel, by decide +kernel⟩ rfl fun cd A outer s H E hr bs ds Pd hg ho h hl => ?_
  obtain ⟨n, rfl, h1, p⟩ := h
  exact HT_one (HS_if (HC_not (HC_val (HE_call k1 hr (HA_cons (HV_var (i := 0) rfl) (HA_cons (HV_var (i := 1) rfl) HA_nil)) rfl ⟨n, rfl, h1, ⟨true, rfl, HT_nil p⟩⟩))))
abbrev KCkWord (P : Program) (w : World) (K : PySem.W.Frag) (mg : Str → Option Value) (base : Heap) : Prop := Kn P w K mg base "check_word" 4 (spF 2 W_ckWord)
end
end WS
set_option Elab.async false
set_option linter.all false
set_option maxRecDepth 100000
set_option maxHeartbeats 4000000
set_option autoImplicit false
namespace WS
open PySem PySem.Spec PyProof.Rows L2
/-! ### flat data -/
def Fl (k : Nat) (d : PyData) : Prop := d.canLay0 = true ∧ d.depth ≤ k
theorem fl_int (i : Int) : Fl 0 (.int i) := ⟨rfl, Nat.le_refl _⟩
theorem fl_all {k : Nat} : ∀ {ds : List PyData}, (∀ d ∈ ds, Fl k d) → PyData.canLayAll0 ds = true ∧ PyData.depthAll ds ≤ k
  | [], _ => ⟨rfl, by simp [PyData.depthAll]⟩
  | d :: ds, h => by
    obtain ⟨a, b⟩ := h d List.mem_cons_self
    obtain ⟨c, e⟩ := fl_all (ds := ds) fun x hx => h x (List.mem_cons_of_mem _ hx)
    exact ⟨by simp [PyData.canLayAll0, a, c], by simp only [PyData.depthAll]; omega⟩
theorem fl_list {k : Nat} {ds : List PyData} (h : ∀ d ∈ ds, Fl k d) : Fl (k + 1) (.list ds) := by
  obtain ⟨a, b⟩ := fl_all h
  exact ⟨by simp [PyData.canLay0, a], by simp only [PyData.depth]; omega⟩
theorem fl_tup {k : Nat} {ds : List PyData} (h : ∀ d ∈ ds, Fl k d) : Fl (k + 1) (.tuple ds) := by
  obtain ⟨a, b⟩ := fl_all h
  exact ⟨by simp [PyData.canLay0, a], by simp only [PyData.depth]; omega⟩
theorem Fl.sh {k : Nat} {d : PyData} (h : Fl k d) (hk : k ≤ 64 := by decide) : SeqAt.shaped d = true := by
  unfold SeqAt.shaped
  rw [h.1, decide_eq_true (Nat.le_trans h.2 hk)]; rfl
theorem Fl.eqv {k : Nat} {d : PyData} (h : Fl k d) : PyData.eqv d d = true := SeqAt.eqv_refl d h.1
theorem fl_row (n : Nat) (r : Nat → Int) : Fl 1 (.list (rowL n r)) := fl_list fun d hd => by
  obtain ⟨i, _, rfl⟩ := List.mem_map.mp hd
  exact fl_int _
theorem fl_dI (ns : List Int) : Fl 1 (dI ns) := fl_list fun d hd => by
  obtain ⟨i, _, rfl⟩ := List.mem_map.mp hd
  exact fl_int _
theorem nil_fl : Fl 1 (.list []) := fl_list fun _ h => nomatch h
theorem nil_sh : SeqAt.shaped (.list []) = true := nil_fl.sh
theorem eqv_nil : PyData.eqv (.list []) (.list []) = true := nil_fl.eqv
/-! ### matrices as data -/
theorem mat_eq (n : Nat) (M : Sq.Mx) : mat n M = .list ((List.range n).map fun i => .list (rowL n (M i))) := by
  unfold mat matL; rw [List.map_map]; rfl
theorem fl_mat (n : Nat) (M : Sq.Mx) : Fl 2 (mat n M) := by
  rw [mat_eq]
  exact fl_list fun d hd => by
    obtain ⟨i, _, rfl⟩ := List.mem_map.mp hd
    exact fl_row _ _
theorem rowL_len (n : Nat) (r : Nat → Int) : (rowL n r).length = n := by simp [rowL]
theorem rowL_at {n j : Nat} (h : j < n) (r : Nat → Int) : atI (rowL n r) (j : Int) = some (.int (r j)) := atI_of (by omega) (by
  rw [Int.toNat_natCast]; unfold rowL; rw [List.getElem?_map, List.getElem?_range h]; rfl)
theorem matL_at {n i : Nat} (h : i < n) (M : Sq.Mx) : atI ((List.range n).map fun i => PyData.list (rowL n (M i))) (i : Int) = some (.list (rowL n (M i))) := atI_of (by omega) (by
  rw [Int.toNat_natCast, List.getElem?_map, List.getElem?_range h]; rfl)
theorem rowL_congr {n : Nat} {r q : Nat → Int} (h : ∀ j, j < n → r j = q j) : rowL n r = rowL n q := List.map_congr_left fun j hj => by rw [h j (List.mem_range.mp hj)]
theorem mat_congr {n : Nat} {M N : Sq.Mx} (h : ∀ i j, i < n → j < n → M i j = N i j) : mat n M = mat n N := by
  rw [mat_eq, mat_eq]
  congr 1
  exact List.map_congr_left fun i hi => by rw [rowL_congr fun j hj => h i j (List.mem_range.mp hi) hj]
theorem zip_rows (n : Nat) (r q : Nat → Int) : zipD (rowL n r) (rowL n q) = (List.range n).map fun k => PyData.tuple [.int (r k), .int (q k)] := by
  unfold zipD rowL
  rw [List.zip_map, List.map_map]
  have : ∀ l : List Nat, l.zip l = l.map fun k => (k, k) := fun l => by
    induction l with
    | nil => rfl
    | cons a l ih => rw [List.zip_cons_cons, ih]; rfl
  rw [this, List.map_map]; rfl
theorem enD_map (n : Nat) (g : Nat → PyData) : enD ((List.range n).map g) = (List.range n).map fun k => PyData.tuple [.int (k : Nat), g k] := by
  unfold enD
  apply List.ext_getElem?
  intro i
  rw [List.getElem?_map, List.getElem?_map, List.getElem?_zipIdx, List.getElem?_map]
  by_cases h : i < n
  · rw [List.getElem?_range h]; simp
  · rw [List.getElem?_eq_none (by simpa using h)]; rfl
/-! ### sizes -/
def Bz (k : Nat) (x : Int) : Prop := x.natAbs < 2 ^ k
theorem Bz.mono {k l : Nat} {x : Int} (h : Bz k x) (hl : k ≤ l) : Bz l x := Nat.lt_of_lt_of_le h (Nat.pow_le_pow_right (by decide) hl)
theorem Bz.mul {k l : Nat} {x y : Int} (h : Bz k x) (h2 : Bz l y) : Bz (k + l) (x * y) := by
  unfold Bz at *
  rw [Int.natAbs_mul, Nat.pow_add]
  exact Nat.mul_lt_mul'' h h2
theorem Bz.add {k l m : Nat} {x y : Int} (h : Bz k x) (h2 : Bz l y) (hk : k ≤ m) (hl : l ≤ m) : Bz (m + 1) (x + y) := by
  have h := h.mono hk
  have h2 := h2.mono hl
  unfold Bz at *
  rw [Nat.pow_succ]
  have := Int.natAbs_add_le x y
  omega
theorem Bz.sub {k l m : Nat} {x y : Int} (h : Bz k x) (h2 : Bz l y) (hk : k ≤ m) (hl : l ≤ m) : Bz (m + 1) (x - y) := by
  have h := h.mono hk
  have h2 := h2.mono hl
  unfold Bz at *
  rw [Nat.pow_succ]
  omega
theorem Bz.of_lt {k : Nat} {x : Int} (h0 : 0 ≤ x) (h : x < 2 ^ k) : Bz k x := by
  unfold Bz
  have : ((x.natAbs : Nat) : Int) = x := by omega
  have e : ((2 ^ k : Nat) : Int) = 2 ^ k := by simp
  omega
theorem Bz.emod {k : Nat} (x : Int) : Bz k (x % 2 ^ k) := Bz.of_lt (Int.emod_nonneg _ (by have := Sq.pos2 k; omega)) (Int.emod_lt_of_pos _ (Sq.pos2 k))
theorem Bz.sm {k : Nat} {x : Int} (h : Bz k x) (hk : k ≤ 100000 := by omega) : Sm x := h.mono hk
theorem bz0 (k : Nat) : Bz k 0 := Nat.pow_pos (by decide)
theorem bz1 {k : Nat} (h : 1 ≤ k) : Bz k 1 := by
  have : Bz 1 1 := by unfold Bz; decide
  exact this.mono h
theorem bz2 {k : Nat} (h : 2 ≤ k) : Bz k 2 := by
  have : Bz 2 2 := by unfold Bz; decide
  exact this.mono h
theorem bz3 {k : Nat} (h : 2 ≤ k) : Bz k 3 := by
  have : Bz 2 3 := by unfold Bz; decide
  exact this.mono h
theorem len2 {i j : Nat} : ∀ (en : En) (ds : List PyData) (en' : En), fCons (fName i) (fCons (fName j) fNil) en ds en' → ds.length = 2 := by
  rintro en ds en' ⟨x, r, e1, rfl, _, y, r2, e2, rfl, _, rfl, _⟩
  rfl
/-- a, b = x, y where a comprehension sees a, b -/
theorem HS_tup2 {Z : Ctx} {bs : Bs} {en : En} {Φ : DE} {i j : Nat} {x y : Str} {a b : Expr} {px py pt pos : Pos} {kt k2 : Nat} {pt2 : Pos} {d1 d2 : PyData} (h : HAv Z bs [a, b] en [d1, d2]) (k : Φ.nx ((en.set i (.dat d1)).set j (.dat d2)))
    (hi : Z.N[i]? = some x := by rfl) (hj : Z.N[j]? = some y := by rfl) (hx : LocS Z.sc x := by first | exact Or.inl rfl | exact Or.inr rfl) (hy : LocS Z.sc y := by first | exact Or.inl rfl | exact Or.inr rfl)
    (hfx : StoS Z x := by first | exact fun _ => Or.inl rfl | exact fun _ => Or.inr rfl) (hfy : StoS Z y := by first | exact fun _ => Or.inl rfl | exact fun _ => Or.inr rfl)
    (hm : ∀ i, (assignEach [.Name x px, .Name y py] (Z.X i).env).map (·.2) = assign (.Name x px) (Z.X i).env :: (assignEach [.Name y py] (Z.X i).env).map (·.2) := by intro _; rfl)
    (hm2 : ∀ i, (assignEach [.Name y py] (Z.X i).env).map (·.2) = assign (.Name y py) (Z.X i).env :: (assignEach [] (Z.X i).env).map (·.2) := by intro _; rfl)
    (hn : ∀ i, (assignEach [.Name x px, .Name y py] (Z.X i).env).length = 2 := by intro _; rfl) (hst : ∀ i, (assignEach [.Name x px, .Name y py] (Z.X i).env).findIdx? (·.1) = none := by intro _; rfl)
    (hw : ∀ t, swappedStores [.Tuple [.Name x px, .Name y py] kt pt] (.Tuple [a, b] k2 pt2) (Z.X t).env = pure none := by intro _; rfl) (hs : ∀ t, swapsWithSole [.Tuple [.Name x px, .Name y py] kt pt] (.Tuple [a, b] k2 pt2) pos.line (Z.X t).env = pure false := by intro _; rfl)
    (h1 : ∀ j, (assignEach [.Tuple [.Name x px, .Name y py] kt pt] (Z.X j).env).map (·.2) = [assign (.Tuple [.Name x px, .Name y py] kt pt) (Z.X j).env] := by intro _; rfl) :
    HS Z bs (.Assign [.Tuple [.Name x px, .Name y py] kt pt] (.Tuple [a, b] k2 pt2) pos) en Φ :=
  HS_asg (HV_tup h (show 2 ≤ 100000 by decide)) (HG_tup (n := 2) (HGs_cons (HG_name hi hx hfx) (HGs_cons (HG_name hj hy hfy) HGs_nil hm2) hm) len2 hn hst) (fun d e => ⟨_, ⟨_, e, _, _, _, rfl, rfl, _, _, _, rfl, rfl, rfl, rfl⟩, k⟩) hs hw h1
section
variable {P : Program} {w : World} {K : PySem.W.Frag} {mg : Str → Option Value} {base : Heap}
/-! ### rows and forms -/
def W_isRow : List PyData → (PyData → Prop) → Prop := fun ds P => ∃ (n : Nat) (r : Nat → Int), ds = [.list (rowL n r), .int (n : Int)] ∧ n ≤ 100 ∧ P (.bool true)
theorem ok_isRow {f : Addr} {fd : FuncData} (F : Fun K "is_row" "is_row" (topS 16) f fd) (T : Gs mg) (k1 : KWhole P w K mg base) : FnOk P w K mg base CX0 2 f fd ["value", "size"] (spF 2 W_isRow) := by
  refine fn_ok (N := ["value", "size", "item"]) F ⟨rfl, rfl, rfl, by decide +kernel, rfl, by decide +kernel, by decide +kernel⟩ rfl fun cd A outer s H E hr bs ds Pd hg ho h hl => ?_
  obtain ⟨n, r, rfl, hn, p⟩ := h
  refine HT_one (HS_ret (P := Pd) (HE_and ?_) fun d q => q)
  refine HV.he (HV_isi (k := true) T.isinstance (HV_var (i := 0) rfl) T.list PyProof.Rows.boot_list (by rfl)) ⟨true, rfl, ?_⟩
  refine HE_and (HV.he (HV_eqI (HV_len T.len (HV_var (i := 0) rfl)) (HV_var (i := 1) rfl)) ⟨true, by rw [rowL_len, decide_eq_true rfl], ?_⟩)
  refine HE_and1 (HV.he (d := .bool true) (HV.to (HV_eqD (d := .list []) (d' := .list []) (HV.to (HV_lcIf (xs := List.range n) (c := fun j => PyData.int (r j)) (h := fun j => PyData.int (r j)) (pr := fun _ => false) (own := [("item", 2)]) (f := fName 2) (HI_list (HV_var (i := 0) rfl)) (blkOk_by (by rfl)) HG_name (fun j hj => ⟨_, rfl, ?_, fun z => nomatch z⟩) (by simp; omega)) (by simp)) (HV_list HA_nil (by decide)) nil_sh nil_sh) (by rw [eqv_nil])) p)
  exact HC_not (HC_val (HE_call k1 (hr.mono (by decide)) (HA_cons (HV_var (i := 2) rfl) HA_nil) rfl ⟨r j, rfl, ⟨true, rfl, rfl⟩⟩))
abbrev KIsRow (P : Program) (w : World) (K : PySem.W.Frag) (mg : Str → Option Value) (base : Heap) : Prop := Kn P w K mg base "is_row" 2 (spF 2 W_isRow)
def W_areRows : List PyData → (PyData → Prop) → Prop := fun ds P => ∃ (n : Nat) (M : Sq.Mx), ds = [mat n M] ∧ 1 ≤ n ∧ n ≤ 6 ∧ P (.bool true)
theorem ok_areRows {f : Addr} {fd : FuncData} (F : Fun K "are_rows" "are_rows" (topS 17) f fd) (T : Gs mg) (k1 : KIsRow P w K mg base) : FnOk P w K mg base CX0 3 f fd ["value"] (spF 1 W_areRows) := by
  refine fn_ok (N := ["value", "row"]) F ⟨rfl, rfl, rfl, by decide +kernel, rfl, by decide +kernel, by decide +kernel⟩ rfl fun cd A outer s H E hr bs ds Pd hg ho h hl => ?_
  obtain ⟨n, M, rfl, h1, h6, p⟩ := h
  obtain ⟨u, hu, ru⟩ := T.mu
  rw [mat_eq] at *
  have hlen : (((List.range n).map fun i => PyData.list (rowL n (M i))).length : Int) = n := by simp
  refine HT_cons (HS_if (HW.hc (HW_or (HC_not (HC_val (HV.he (HV_isi (k := true) T.isinstance (HV_var (i := 0) rfl) T.list PyProof.Rows.boot_list (by rfl)) ⟨true, rfl, ?_⟩))))))
  refine HW_or1 (HC_not (HC_chainLe HV_int (HV.to (HV_len T.len (HV_var (i := 0) rfl)) (by rw [hlen])) (HV_glob hu ru) ?_))
  rw [decide_eq_true (by omega), decide_eq_true (by omega)]
  refine HT_nil ?_
  refine HT_one (HS_retV (d := .bool true) ?_ p)
  refine HV.to (HV_eqD (d := .list []) (d' := .list []) (HV.to (HV_lcIf (xs := List.range n) (c := fun i => PyData.list (rowL n (M i))) (h := fun i => PyData.list (rowL n (M i))) (pr := fun _ => false) (own := [("row", 1)]) (f := fName 1) (HI_list (HV_var (i := 0) rfl)) (blkOk_by (by rfl)) HG_name (fun i hi => ⟨_, rfl, ?_, fun z => nomatch z⟩) (by simp; omega)) (by simp)) (HV_list HA_nil (by decide)) nil_sh nil_sh) (by rw [eqv_nil])
  exact HC_not (HC_val (HE_call k1 (hr.mono (by decide)) (HA_cons (HV_var (i := 1) rfl) (HA_cons (HV.to (HV_len T.len (HV_var (i := 0) rfl)) (by rw [hlen])) HA_nil)) rfl ⟨n, M i, rfl, by omega, ⟨true, rfl, rfl⟩⟩))
abbrev KAreRows (P : Program) (w : World) (K : PySem.W.Frag) (mg : Str → Option Value) (base : Heap) : Prop := Kn P w K mg base "are_rows" 3 (spF 1 W_areRows)
/-! ### turned_over -/
def W_turned : List PyData → (PyData → Prop) → Prop := fun ds P => ∃ (n : Nat) (M : Sq.Mx), ds = [mat n M] ∧ 1 ≤ n ∧ n ≤ 100 ∧ P (mat n fun i j => M j i)
theorem ok_turned {f : Addr} {fd : FuncData} (F : Fun K "turned_over" "turned_over" (topS 18) f fd) (T : Gs mg) : FnOk P w K mg base CX0 1 f fd ["rows"] (spF 1 W_turned) := by
  refine fn_ok (N := ["rows", "at", "row"]) F ⟨rfl, rfl, rfl, by decide +kernel, rfl, by decide +kernel, by decide +kernel⟩ rfl fun cd A outer s H E hr bs ds Pd hg ho h hl => ?_
  obtain ⟨n, M, rfl, h1, hn, p⟩ := h
  rw [mat_eq] at *
  refine HT_one (HS_retV ?_ p)
  refine HV_lc (own := [("at", 1)]) (f := fName 1) (HI_rangeN T.range (HV.to (HV_len T.len (HV_ixL (HV_var (i := 0) rfl) HV_int (matL_at (i := 0) (by omega) M))) (by rw [rowL_len])) (by omega)) (blkOk_by (by rfl)) HG_name (fun j hj => ⟨_, rfl, ?_⟩) (by simp; omega)
  have hj : j < n := List.mem_range.mp hj
  exact HV_lc (xs := List.range n) (c := fun i => PyData.list (rowL n (M i))) (own := [("row", 2)]) (f := fName 2) (HI_list (HV_var (i := 0) rfl)) (blkOk_by (by rfl)) HG_name (fun i hi => ⟨_, rfl, HV_ixL (HV_var (i := 2) rfl) (HV_var (i := 1) rfl) (rowL_at hj (M i))⟩) (by simp; omega)
abbrev KTurned (P : Program) (w : World) (K : PySem.W.Frag) (mg : Str → Option Value) (base : Heap) : Prop := Kn P w K mg base "turned_over" 1 (spF 1 W_turned)
/-! ### forms -/
def Sym (n : Nat) (M : Sq.Mx) : Prop := ∀ i j, i < n → j < n → M i j = M j i
def W_isForm : List PyData → (PyData → Prop) → Prop := fun ds P => ∃ (n : Nat) (M : Sq.Mx), ds = [mat n M] ∧ 1 ≤ n ∧ n ≤ 6 ∧ Sym n M ∧ P (.bool true)
theorem ok_isForm {f : Addr} {fd : FuncData} (F : Fun K "is_form_value" "is_form_value" (topS 19) f fd) (k1 : KAreRows P w K mg base) (k2 : KTurned P w K mg base) : FnOk P w K mg base CX0 4 f fd ["value"] (spF 1 W_isForm) := by
  refine fn_ok (N := ["value"]) F ⟨rfl, rfl, rfl, by decide +kernel, rfl, by decide +kernel, by decide +kernel⟩ rfl fun cd A outer s H E hr bs ds Pd hg ho h hl => ?_
  obtain ⟨n, M, rfl, h1, hn, hs, p⟩ := h
  refine HT_one (HS_ret (P := Pd) (HE_and (HE_call k1 (hr.mono (by decide)) (HA_cons (HV_var (i := 0) rfl) HA_nil) rfl ⟨n, M, rfl, h1, hn, ⟨true, rfl, ?_⟩⟩)) fun d q => q)
  refine HE_and1 (HV.he (d := .bool true) (HV.to (HV_eqD (d := mat n M) (HE_call k2 (hr.mono (by decide)) (HA_cons (HV_var (i := 0) rfl) HA_nil) rfl ⟨n, M, rfl, h1, by omega, mat_congr fun i j hi hj => hs j i hj hi⟩) (HV_var (i := 0) rfl) (fl_mat n M).sh (fl_mat n M).sh) (by rw [(fl_mat n M).eqv])) p)
abbrev KIsForm (P : Program) (w : World) (K : PySem.W.Frag) (mg : Str → Option Value) (base : Heap) : Prop := Kn P w K mg base "is_form_value" 4 (spF 1 W_isForm)
def W_ckForm : List PyData → (PyData → Prop) → Prop := fun ds P => ∃ (n : Nat) (M : Sq.Mx), ds = [mat n M] ∧ 1 ≤ n ∧ n ≤ 6 ∧ Sym n M ∧ P .none
theorem ok_ckForm {f : Addr} {fd : FuncData} (F : Fun K "check_form" "check_form" (topS 20) f fd) (k1 : KIsForm P w K mg base) : FnOk P w K mg base CX0 5 f fd ["form"] (spF 1 W_ckForm) := by
  refine fn_ok (N := ["form"]) F ⟨rfl, rfl, rfl, by decide +kernel, rfl, by decide +kernel, by decide +kernel⟩ rfl fun cd A outer s H E hr bs ds Pd hg ho h hl => ?_
  obtain ⟨n, M, rfl, h1, hn, hs, p⟩ := h
  exact HT_one (HS_if (HC_not (HC_val (HE_call k1 hr (HA_cons (HV_var (i := 0) rfl) HA_nil) rfl ⟨n, M, rfl, h1, hn, hs, ⟨true, rfl, HT_nil p⟩⟩))))
abbrev KCkForm (P : Program) (w : World) (K : PySem.W.Frag) (mg : Str → Option Value) (base : Heap) : Prop := Kn P w K mg base "check_form" 5 (spF 1 W_ckForm)
/-! ### products -/
def pd (n : Nat) (A B : Sq.Mx) : Sq.Mx := fun i j => Sq.sl (fun k => A i k * B k j) (List.range n)
def BzM (k n : Nat) (M : Sq.Mx) : Prop := ∀ i j, i < n → j < n → Bz k (M i j)
theorem bz_sum {k : Nat} : ∀ {l : List Nat} {f : Nat → Int}, (∀ i ∈ l, Bz k (f i)) → Bz (k + l.length) (Sq.sl f l)
  | [], f, _ => bz0 _
  | i :: l, f, h => by
    have h1 := h i List.mem_cons_self
    have h2 := bz_sum (l := l) (f := f) fun j hj => h j (List.mem_cons_of_mem _ hj)
    rw [Sq.sl_cons, List.length_cons]
    exact (h1.add h2 (m := k + l.length) (by omega) (by omega)).mono (by omega)
theorem bz_pd {a b n : Nat} {A B : Sq.Mx} (hA : BzM a n A) (hB : BzM b n B) : BzM (a + b + n) n (pd n A B) := fun i j hi hj => by
  have := bz_sum (l := List.range n) (f := fun k => A i k * B k j) (k := a + b) fun k hk => (hA i k hi (List.mem_range.mp hk)).mul (hB k j (List.mem_range.mp hk) hj)
  rw [List.length_range] at this
  exact this
def W_prod : List PyData → (PyData → Prop) → Prop := fun ds P => ∃ (n : Nat) (A B : Sq.Mx), ds = [mat n A, mat n B] ∧ 1 ≤ n ∧ n ≤ 100 ∧ BzM 100000 n A ∧ BzM 100000 n B ∧ P (mat n (pd n A B))
theorem ok_prod {f : Addr} {fd : FuncData} (F : Fun K "product_of" "product_of" (topS 21) f fd) (T : Gs mg) (k1 : KTurned P w K mg base) : FnOk P w K mg base CX0 2 f fd ["one", "other"] (spF 2 W_prod) := by
  refine fn_ok (N := ["one", "other", "columns", "row", "column", "left", "right"]) F ⟨rfl, rfl, rfl, by decide +kernel, rfl, by decide +kernel, by decide +kernel⟩ rfl fun cd A outer s H E hr bs ds Pd hg ho h hl => ?_
  obtain ⟨n, A, B, rfl, h1, hn, hA, hB, p⟩ := h
  refine HT_cons (HS_setV (i := 2) (d := mat n fun i j => B j i) (HE_call k1 (hr.mono (by decide)) (HA_cons (HV_var (i := 1) rfl) HA_nil) rfl ⟨n, B, rfl, h1, hn, rfl⟩) ?_)
  rw [mat_eq n A, mat_eq n fun i j => B j i]
  refine HT_one (HS_retV ?_ p)
  rw [mat_eq n (pd n A B)]
  refine HV_lc (xs := List.range n) (c := fun i => PyData.list (rowL n (A i))) (own := [("row", 3)]) (f := fName 3) (HI_list (HV_var (i := 0) rfl)) (blkOk_by (by rfl)) HG_name (fun i hi => ⟨_, rfl, ?_⟩) (by simp; omega)
  have hi : i < n := List.mem_range.mp hi
  refine HV_lc (xs := List.range n) (c := fun j => PyData.list (rowL n fun k => B k j)) (own := [("column", 4)]) (f := fName 4) (HI_list (HV_var (i := 2) rfl)) (blkOk_by (by rfl)) HG_name (fun j hj => ⟨_, rfl, ?_⟩) (by simp; omega)
  have hj : j < n := List.mem_range.mp hj
  refine HV.to (HV_sum (ns := (List.range n).map fun k => A i k * B k j) T.sum ?_) rfl
  rw [List.map_map]
  refine HV_lc (xs := List.range n) (c := fun k => PyData.tuple [.int (A i k), .int (B k j)]) (own := [("left", 5), ("right", 6)]) (f := fTup (fCons (fName 5) (fCons (fName 6) fNil))) ?_ (blkOk_by (by rfl)) (HG_tup (n := 2) (HGs_cons HG_name (HGs_cons HG_name HGs_nil)) ?_) (fun k hk => ⟨_, ⟨_, rfl, _, _, _, rfl, rfl, _, _, _, rfl, rfl, rfl, rfl⟩, ?_⟩) (by simp; omega)
  · rw [← zip_rows n (A i) fun k => B k j]
    exact HI_zs T.zip (HV_var (i := 3) rfl) (HV_var (i := 4) rfl) (by rw [rowL_len, rowL_len])
  · exact len2
  · have hk : k < n := List.mem_range.mp hk
    exact HV_mul (HV_var (i := 5) rfl) (HV_var (i := 6) rfl) (hA i k hi hk) (hB k j hk hj)
abbrev KProd (P : Program) (w : World) (K : PySem.W.Frag) (mg : Str → Option Value) (base : Heap) : Prop := Kn P w K mg base "product_of" 2 (spF 2 W_prod)
def W_changed : List PyData → (PyData → Prop) → Prop := fun ds P => ∃ (n : Nat) (R U : Sq.Mx), ds = [mat n R, mat n U] ∧ 1 ≤ n ∧ n ≤ 100 ∧ BzM 40000 n R ∧ BzM 40000 n U ∧ P (mat n (Sq.cb (List.range n) R U))
theorem ok_changed {f : Addr} {fd : FuncData} (F : Fun K "changed_by" "changed_by" (topS 22) f fd) (k1 : KTurned P w K mg base) (k2 : KProd P w K mg base) : FnOk P w K mg base CX0 3 f fd ["form", "change"] (spF 2 W_changed) := by
  refine fn_ok (N := ["form", "change"]) F ⟨rfl, rfl, rfl, by decide +kernel, rfl, by decide +kernel, by decide +kernel⟩ rfl fun cd A outer s H E hr bs ds Pd hg ho h hl => ?_
  obtain ⟨n, R, U, rfl, h1, hn, hR, hU, p⟩ := h
  have hT : BzM 40000 n (fun i j => U j i) := fun i j hi hj => hU j i hj hi
  refine HT_one (HS_ret (HE_call k2 hr (HA_cons (HE_call k2 hr (HA_cons (HE_call k1 (hr.mono (by decide)) (HA_cons (HV_var (i := 1) rfl) HA_nil) rfl ⟨n, U, rfl, h1, hn, rfl⟩) (HA_cons (HV_var (i := 0) rfl) HA_nil)) rfl ⟨n, fun i j => U j i, R, rfl, h1, hn, fun i j hi hj => (hT i j hi hj).mono (by decide), fun i j hi hj => (hR i j hi hj).mono (by decide), rfl⟩) (HA_cons (HV_var (i := 1) rfl) HA_nil)) rfl
    ⟨n, pd n (fun i j => U j i) R, U, rfl, h1, hn, fun i j hi hj => (bz_pd hT hR i j hi hj).mono (by omega), fun i j hi hj => (hU i j hi hj).mono (by decide), p⟩) fun d q => q)
abbrev KChanged (P : Program) (w : World) (K : PySem.W.Frag) (mg : Str → Option Value) (base : Heap) : Prop := Kn P w K mg base "changed_by" 3 (spF 2 W_changed)
/-! ### tables -/
def W_table : List PyData → (PyData → Prop) → Prop := fun ds P => ∃ (n W : Nat) (M : Sq.Mx), ds = [.int (W : Int), mat n M] ∧ 1 ≤ W ∧ W ≤ 4000 ∧ 1 ≤ n ∧ n ≤ 100 ∧ P (mat n (Sq.tab W M))
theorem ok_table {f : Addr} {fd : FuncData} (F : Fun K "table_by" "table_by" (topS 23) f fd) (T : Gs mg) (k1 : KPow P w K mg base) : FnOk P w K mg base CX0 2 f fd ["width", "form"] (spF 2 W_table) := by
  refine fn_ok (N := ["width", "form", "whole", "half", "place", "row", "at", "item"]) F ⟨rfl, rfl, rfl, by decide +kernel, rfl, by decide +kernel, by decide +kernel⟩ rfl fun cd A outer s H E hr bs ds Pd hg ho h hl => ?_
  obtain ⟨n, W, M, rfl, hW, hW2, h1, hn, p⟩ := h
  refine HT_cons (HS_tup2 (i := 2) (j := 3) (d1 := .int (2 ^ W)) (d2 := .int (2 ^ (W - 1))) (HA_cons (HE_call k1 (hr.mono (by decide)) (HA_cons (HV_var (i := 0) rfl) HA_nil) rfl ⟨W, rfl, by omega, rfl⟩) (HA_cons (HE_call k1 (hr.mono (by decide)) (HA_cons (HV.to (HV_sub (HV_var (i := 0) rfl) HV_int) (show PyData.int ((W : Int) - 1) = .int ((W - 1 : Nat) : Int) by congr 1; omega)) HA_nil) rfl ⟨W - 1, rfl, by omega, rfl⟩) HA_nil)) ?_)
  rw [mat_eq n M]
  refine HT_one (HS_retV ?_ p)
  rw [mat_eq n (Sq.tab W M)]
  refine HV_lc (xs := List.range n) (c := fun i => PyData.tuple [.int (i : Nat), .list (rowL n (M i))]) (own := [("place", 4), ("row", 5)]) (f := fTup (fCons (fName 4) (fCons (fName 5) fNil))) ?_ (blkOk_by (by rfl)) (HG_tup (n := 2) (HGs_cons HG_name (HGs_cons HG_name HGs_nil)) ?_) (fun i hi => ⟨_, ⟨_, rfl, _, _, _, rfl, rfl, _, _, _, rfl, rfl, rfl, rfl⟩, ?_⟩) (by simp; omega)
  · rw [← enD_map n fun i => PyData.list (rowL n (M i))]
    exact HI_enum T.enumerate (HV_var (i := 1) rfl)
  · exact len2
  refine HV_lc (xs := List.range n) (c := fun j => PyData.tuple [.int (j : Nat), .int (M i j)]) (own := [("at", 6), ("item", 7)]) (f := fTup (fCons (fName 6) (fCons (fName 7) fNil))) ?_ (blkOk_by (by rfl)) (HG_tup (n := 2) (HGs_cons HG_name (HGs_cons HG_name HGs_nil)) ?_) (fun j hj => ⟨_, ⟨_, rfl, _, _, _, rfl, rfl, _, _, _, rfl, rfl, rfl, rfl⟩, ?_⟩) (by simp; omega)
  · rw [← enD_map n fun j => PyData.int (M i j)]
    exact HI_enum T.enumerate (HV_var (i := 5) rfl)
  · exact len2
  have e : (if decide ((j : Int) = (i : Int)) = true then PyData.int (2 ^ W) else PyData.int (2 ^ (W - 1))) = .int (if i = j then 2 ^ W else 2 ^ (W - 1)) := by
    by_cases z : i = j
    · subst z; rw [if_pos rfl, decide_eq_true rfl, if_pos rfl]
    · rw [if_neg z, decide_eq_false (by omega), if_neg (by decide)]
  refine HV_mod (HV_var (i := 7) rfl) (HV.to (HV_if (HC_eqI (HV_var (i := 6) rfl) (HV_var (i := 4) rfl) rfl) (fun _ => HV_var (i := 2) rfl) (fun _ => HV_var (i := 3) rfl)) e) ?_
  split <;> exact Sq.pos2 _
abbrev KTable (P : Program) (w : World) (K : PySem.W.Frag) (mg : Str → Option Value) (base : Heap) : Prop := Kn P w K mg base "table_by" 2 (spF 2 W_table)
end
end WS
set_option Elab.async false
set_option linter.all false
set_option maxRecDepth 100000
set_option maxHeartbeats 4000000
set_option autoImplicit false
namespace WS
open PySem PySem.Spec PyProof.Rows L2
section
variable {P : Program} {w : World} {K : PySem.W.Frag} {mg : Str → Option Value} {base : Heap}
/-! ### inverse_of -/
def W_inv : List PyData → (PyData → Prop) → Prop := fun ds P => ∃ (o : Int) (W : Nat), ds = [.int o, .int (W : Int)] ∧ o % 2 = 1 ∧ 1 ≤ W ∧ W ≤ 4000 ∧ Bz 20000 o ∧ ∀ r, 0 ≤ r → r < 2 ^ W → Sq.Iv W o r → P (.int r)
theorem ok_inv {f : Addr} {fd : FuncData} (F : Fun K "inverse_of" "inverse_of" (topS 24) f fd) (k1 : KPow P w K mg base) : FnOk P w K mg base CX0 2 f fd ["odd", "width"] (spF 2 W_inv) := by
  refine fn_ok (N := ["odd", "width", "found", "many"]) F ⟨rfl, rfl, rfl, by decide +kernel, rfl, by decide +kernel, by decide +kernel⟩ rfl fun cd A outer s H E hr bs ds Pd hg ho h hl => ?_
  obtain ⟨o, W, rfl, hod, h1, h2, hB, p⟩ := h
  refine HT_cons (HS_tup2 (i := 2) (j := 3) (d1 := .int 1) (d2 := .int 1) (HA_cons HV_int (HA_cons HV_int HA_nil)) ?_)
  refine HT_cons (HS_while (fun en => ∃ (x : Int) (m : Nat), en = { sl := [.dat (.int o), .dat (.int (W : Int)), .dat (.int x), .dat (.int (m : Int))] } ∧ 1 ≤ m ∧ Sq.Iv (min m W) o x ∧ Bz 4001 x) (fun en => match en.sl with
    | _ :: _ :: _ :: .dat (.int m) :: _ => ((W : Int) - m).toNat
    | _ => 0) ⟨1, 1, rfl, Nat.le_refl _, ?_, bz1 (by decide)⟩ fun en1 ⟨x, m, e1, hm, hI, hx⟩ => ?_)
  · rw [show min 1 W = 1 by omega]; exact Sq.Iv.start hod
  subst e1
  refine HC_lt (HV_var (i := 3) rfl) (HV_var (i := 1) rfl) ?_
  by_cases e : (m : Int) < (W : Int)
  · rw [decide_eq_true e, if_pos rfl]
    have b1 : Bz 24001 (o * x) := hB.mul hx
    have b2 : Bz 24002 (2 - o * x) := (bz2 (k := 24001) (by decide)).sub b1 (Nat.le_refl _) (Nat.le_refl _)
    refine HT_one (HS_par (i := 2) (j := 3) (d1 := .int (x * (2 - o * x) % 2 ^ W)) (d2 := .int ((m : Int) * 2)) (HA_cons (HV_mod (HV_mul (HV_var (i := 2) rfl) (HV_sub HV_int (HV_mul (HV_var (i := 0) rfl) (HV_var (i := 2) rfl) hB.sm hx.sm)) hx.sm b2.sm) (HE_call k1 (hr.mono (by decide)) (HA_cons (HV_var (i := 1) rfl) HA_nil) rfl ⟨W, rfl, by omega, rfl⟩) (Sq.pos2 W)) (HA_cons (HV_mulS (HV_var (i := 3) rfl) HV_int (by omega)) HA_nil)) ?_)
    refine ⟨⟨x * (2 - o * x) % 2 ^ W, 2 * m, ?_, by omega, ?_, (Bz.emod (k := W) _).mono (by omega)⟩, ?_⟩
    · have : ((2 * m : Nat) : Int) = (m : Int) * 2 := by omega
      rw [this]; rfl
    · have := hI.step (W := W)
      rw [show min m W = m by omega] at this
      exact this
    · show ((W : Int) - (m : Int) * 2).toNat < ((W : Int) - (m : Int)).toNat
      omega
  · rw [decide_eq_false e, if_neg (by decide)]
    refine HT_one (HS_retV (HV_mod (HV_var (i := 2) rfl) (HE_call k1 (hr.mono (by decide)) (HA_cons (HV_var (i := 1) rfl) HA_nil) rfl ⟨W, rfl, by omega, rfl⟩) (Sq.pos2 W)) ?_)
    rw [show min m W = W by omega] at hI
    exact p _ (Int.emod_nonneg _ (by have := Sq.pos2 W; omega)) (Int.emod_lt_of_pos _ (Sq.pos2 W)) hI.emod
abbrev KInv (P : Program) (w : World) (K : PySem.W.Frag) (mg : Str → Option Value) (base : Heap) : Prop := Kn P w K mg base "inverse_of" 2 (spF 2 W_inv)
/-! ### pieces -/
def encP (p : Nat × Int) : PyData := .tuple [.int (p.1 : Nat), .int p.2]
def encPs (ps : List (Nat × Int)) : PyData := .list (ps.map encP)
def W_size : List PyData → (PyData → Prop) → Prop := fun ds P => ∃ ps : List (Nat × Int), ds = [encPs ps] ∧ ps.length ≤ 100 ∧ P (.int (Sq.psize ps))
theorem ok_size {f : Addr} {fd : FuncData} (F : Fun K "size_of" "size_of" (topS 26) f fd) (T : Gs mg) : FnOk P w K mg base CX0 1 f fd ["pieces"] (spF 1 W_size) := by
  refine fn_ok (N := ["pieces", "scale", "kind"]) F ⟨rfl, rfl, rfl, by decide +kernel, rfl, by decide +kernel, by decide +kernel⟩ rfl fun cd A outer s H E hr bs ds Pd hg ho h hl => ?_
  obtain ⟨ps, rfl, hn, p⟩ := h
  refine HT_one (HS_retV (HV_sum (ns := ps.map fun q : Nat × Int => 2 - q.2 % 2) T.sum ?_) p)
  rw [List.map_map]
  exact HV_lc (xs := ps) (c := encP) (own := [("scale", 1), ("kind", 2)]) (f := fTup (fCons (fName 1) (fCons (fName 2) fNil))) (HI_list (HV_var (i := 0) rfl)) (blkOk_by (by rfl)) (HG_tup (n := 2) (HGs_cons HG_name (HGs_cons HG_name HGs_nil)) len2) (fun q hq => ⟨_, ⟨_, rfl, _, _, _, rfl, rfl, _, _, _, rfl, rfl, rfl, rfl⟩, HV_sub HV_int (HV_mod (HV_var (i := 2) rfl) HV_int (by decide))⟩) (by omega)
abbrev KSize (P : Program) (w : World) (K : PySem.W.Frag) (mg : Str → Option Value) (base : Heap) : Prop := Kn P w K mg base "size_of" 1 (spF 1 W_size)
/-! ### unit_lists -/
/-- a def's promise of a new matrix -/
def spM (n : Nat) (W : List PyData → List (List PyData) → Prop) : Sp := fun vs H Q _ => ∃ F ds m, Same F H ∧ Rps F vs ds ∧ ds.length = n ∧ W ds m ∧ ∀ a rs F' H', Grow none F H F' H' → NewM H F' H' a rs m → Q (.ref a) H'
def W_unit : List PyData → List (List PyData) → Prop := fun ds m => ∃ n : Nat, ds = [.int (n : Int)] ∧ n ≤ 100 ∧ m = matL n Sq.dlt
theorem ok_unit {f : Addr} {fd : FuncData} (F : Fun K "unit_lists" "unit_lists" (topS 28) f fd) (T : Gs mg) : FnOk P w K mg base CX0 1 f fd ["size"] (spM 1 W_unit) := by
  refine F.ok ⟨rfl, rfl, rfl, by decide +kernel, rfl, by decide +kernel, by decide +kernel⟩ (fun vs H Q E h => ?_) (fun cd A outer s H vs Q E hr h => ?_) (N := ["size", "place", "at"])
  · obtain ⟨F0, ds, m, _, r, hl, _⟩ := h
    rw [r.len, hl]; rfl
  · obtain ⟨F0, ds, m, sm, r, hl, ⟨n, rfl, hn, rfl⟩, q⟩ := h
    have key : HNm (ctx0 P w K mg base ["size", "place", "at"] "unit_lists" (defScope (topS 28)) f cd A outer s H E (by decide +kernel) (Room.un200 hr)) ⟨F0, H, none, none⟩ (match defBody (topS 28) with
      | .Return (some e) _ :: _ => e
      | _ => .Constant .none 0 ⟨0, 0, 0, 0⟩) (en0 ["size", "place", "at"] [.int (n : Int)]) (matL n Sq.dlt) := by
      refine HNm_lc (xs := List.range n) (c := fun i => PyData.int (i : Nat)) (h := fun i => rowL n (Sq.dlt i)) (own := [("place", 1)]) (f := fName 1) (HI_rangeN T.range (HV_var (i := 0) rfl) (by omega)) (blkOk_by (by rfl)) HG_name (fun i hi => ⟨_, rfl, ?_⟩) (by simp; omega)
      refine HNl_lc (xs := List.range n) (c := fun j => PyData.int (j : Nat)) (h := fun j => PyData.int (Sq.dlt i j)) (own := [("at", 2)]) (f := fName 2) (HI_rangeN T.range (HV_var (i := 0) rfl) (by omega)) (blkOk_by (by rfl)) HG_name (fun j hj => ⟨_, rfl, HV.to (HV_intB T.int (HV_eqI (HV_var (i := 2) rfl) (HV_var (i := 1) rfl))) ?_⟩) (by simp; omega)
      unfold Sq.dlt
      by_cases z : i = j
      · subst z; rw [decide_eq_true rfl, if_pos rfl, if_pos rfl]
      · rw [decide_eq_false (by omega), if_neg (by decide), if_neg z]
    obtain ⟨t, h1, h2⟩ := key _ F0 H (rel0 sm r) (fun v H' => Q v H') (fun a rs F' H' R G N => q a rs F' H' G.any N)
    exact ⟨tRet t, pss_one (ps_ret (h1 ())), h2⟩
abbrev KUnit (P : Program) (w : World) (K : PySem.W.Frag) (mg : Str → Option Value) (base : Heap) : Prop := Kn P w K mg base "unit_lists" 1 (spM 1 W_unit)
end
/-- a def that gives a new matrix -/
theorem HNm_call {Z : Ctx} {bs : Bs} {en : En} {e : Expr} {es : List Expr} {pos p : Pos} {ds : List PyData} {x : Str} {k n : Nat} {m : List (List PyData)} {W : List PyData → List (List PyData) → Prop} (kn : Kn Z.P Z.w Z.K Z.mg Z.base x k (spM n W)) (hr : Room k Z.A) (ha : HAv Z bs (e :: es) en ds) (hn : ds.length = n) (w : W ds m)
    (hg : GlS Z.sc x := by rfl) (hdb : (x == ("__debug__" : Str)) = false := by decide) (he : ∀ i, starEach (e :: es) (Z.X i).env = (false, eval e (Z.X i).env) :: starEach es (Z.X i).env := by intro _; rfl) (hpl : ∀ i, (backTo pos (starEach es (Z.X i).env)).any (·.1) = false := by intro _; rfl) :
    HNm Z bs (.Call (.Name x p) (e :: es) [] pos) en m := fun σ F H R Q q => by
  obtain ⟨f, fd, ps, ok, hm, hk, hb⟩ := kn
  refine ⟨tCall (spM n W) [] E0 (tAr Z (e :: es)), fun i => ?_, ?_⟩
  · refine pe_call (fd := fd) (ps := ps) (k := k) (f := f) (CX := CX0) ?_ ?_ (Ctx.gl hg i) (Ctx.mgS hm i) ?_ ?_ .nil pass0 (pa_tA Z _ i) hdb (he i) (hpl i)
    · rw [Z.hP, Z.hw, Z.hK, Z.hm, Z.hb]; exact ok
    · rw [Z.hA]; exact hr
    · rw [Z.hK]; exact hk
    · rw [Z.hK]; exact hb
  · refine ha σ F H R _ fun vs d F1 H1 R1 G1 r1 ed => ?_
    subst ed
    refine ⟨F1, d, m, R1.fh, by rw [List.append_nil]; exact r1, hn, w, fun a rs F2 H2 G2 N => ?_⟩
    have G3 : Grow bs.g F1 H1 F2 H2 := G2.any
    have back : ∀ c, H1 c = none → H c = none := fun c hc => by
      cases z : H c with
      | none => rfl
      | some u => rw [G1.h c u z] at hc; cases hc
    exact q a rs F2 H2 (R1.grow G3) (G1.trans G3) ⟨back a N.a0, N.a1, N.a2, N.nd, N.na, N.ln, fun j r row h1 h2 => by
      obtain ⟨z1, z2, z3⟩ := N.row j r row h1 h2
      exact ⟨back r z1, z2, z3⟩⟩
section
variable {P : Program} {w : World} {K : PySem.W.Frag} {mg : Str → Option Value} {base : Heap}
/-! ### root_of -/
def W_root : List PyData → (PyData → Prop) → Prop := fun ds P => ∃ (num : Int) (W : Nat), ds = [.int num, .int (W : Int)] ∧ W ≤ 4000 ∧ ∀ r : Int, r % 2 = 1 → Bz 4010 r → P (.int r)
theorem ok_root {f : Addr} {fd : FuncData} (F : Fun K "root_of" "root_of" (topS 29) f fd) (T : Gs mg) : FnOk P w K mg base CX0 1 f fd ["number", "width"] (spF 2 W_root) := by
  refine fn_ok (N := ["number", "width", "found", "many"]) F ⟨rfl, rfl, rfl, by decide +kernel, rfl, by decide +kernel, by decide +kernel⟩ rfl fun cd A outer s H E hr bs ds Pd hg ho h hl => ?_
  obtain ⟨num, W, rfl, h2, p⟩ := h
  refine HT_cons (HS_setV (i := 2) (d := .int 1) HV_int ?_)
  refine HT_cons (HS_for (vs := [3]) (f := fName 3) (HI_rangeNN (m := 3) T.range HV_int (HV_var (i := 1) rfl) (by decide) (by omega)) HG_name (fun k en => ∃ (x : Int) (u : Ent), en = { sl := [.dat (.int num), .dat (.int (W : Int)), .dat (.int x), u] } ∧ x % 2 = 1 ∧ 0 ≤ x ∧ x < 2 ^ (k + 2)) ⟨1, .un, rfl, rfl, by decide, by decide⟩ (fun k d en1 hd ⟨x, u, e1, hx, h0, hlt⟩ => ?_) (fun en1 ⟨x, u, e1, hx, h0, hlt⟩ => ?_))
  · subst e1
    have hk : k < W - 3 := by
      have := (List.getElem?_eq_some_iff.mp hd).1
      simpa using this
    rw [List.getElem?_map, List.getElem?_range hk] at hd
    have hd : PyData.int ((3 + k : Nat) : Int) = d := Option.some.inj hd
    subst hd
    refine ⟨_, rfl, ?_⟩
    have bx : Bz 4010 x := (Bz.of_lt h0 hlt).mono (by omega)
    refine HT_one (HS_if (HC_neI (HV_mod (HV_sub (HV_mul (HV_var (i := 2) rfl) (HV_var (i := 2) rfl) bx.sm bx.sm) (HV_var (i := 0) rfl)) (HV_shl (n := 4 + k) HV_int (HV.to (HV_add (HV_var (i := 3) rfl) HV_int) (by congr 1; omega)) (by omega)) (Sq.pos2 _)) HV_int ?_))
    cases (!decide ((x * x - num) % 2 ^ (4 + k) = 0)) with
    | true =>
      rw [if_pos rfl]
      refine HT_one (HS_setV (i := 2) (d := .int (x + 2 ^ (2 + k))) (HV_add (HV_var (i := 2) rfl) (HV_shl (n := 2 + k) HV_int (HV.to (HV_sub (HV_var (i := 3) rfl) HV_int) (by congr 1; omega)) (by omega))) ⟨_, _, rfl, ?_, ?_, ?_⟩)
      · have : (2 : Int) ^ (2 + k) = 2 * 2 ^ (k + 1) := by rw [← Sq.pw1]; congr 1; omega
        omega
      · have := Sq.pos2 (2 + k); omega
      · have : (2 : Int) ^ (k + 1 + 2) = 2 * 2 ^ (k + 2) := by rw [← Sq.pw1]
        rw [show 2 + k = k + 2 by omega]; omega
    | false =>
      rw [if_neg (by decide)]
      refine HT_nil ⟨x, _, rfl, hx, h0, ?_⟩
      have : (2 : Int) ^ (k + 1 + 2) = 2 * 2 ^ (k + 2) := by rw [← Sq.pw1]
      have := Sq.pos2 (k + 2); omega
  · subst e1
    refine HT_one (HS_retV (HV_var (i := 2) rfl) (p x hx ((Bz.of_lt h0 hlt).mono ?_)))
    simp; omega
abbrev KRoot (P : Program) (w : World) (K : PySem.W.Frag) (mg : Str → Option Value) (base : Heap) : Prop := Kn P w K mg base "root_of" 1 (spF 2 W_root)
/-! ### root_by_steps -/
def W_rbs : List PyData → (PyData → Prop) → Prop := fun ds P => ∃ (a b c st : Int) (W : Nat), ds = [.int a, .int b, .int c, .int st, .int (W : Int)] ∧ b % 2 = 1 ∧ 1 ≤ W ∧ W ≤ 4000 ∧ Bz 13000 a ∧ Bz 4010 b ∧ Bz 4010 c ∧ 0 ≤ st ∧ st ≤ 1 ∧ (2 : Int) ∣ a + b * st + c * st * st ∧
  ∀ r : Int, Bz (W + 1) r → (2 : Int) ^ W ∣ a + b * r + c * r * r → P (.int r)
theorem ok_rbs {f : Addr} {fd : FuncData} (F : Fun K "root_by_steps" "root_by_steps" (topS 30) f fd) (k1 : KInv P w K mg base) : FnOk P w K mg base CX0 3 f fd ["first", "second", "third", "start", "width"] (spF 5 W_rbs) := by
  refine fn_ok (N := ["first", "second", "third", "start", "width", "found", "many", "value"]) F ⟨rfl, rfl, rfl, by decide +kernel, rfl, by decide +kernel, by decide +kernel⟩ rfl fun cd A outer s H E hr bs ds Pd hg ho h hl => ?_
  obtain ⟨a, b, c, st, W, rfl, hb, h1, h2, ba, bb, bc, hs0, hs1, hdv, p⟩ := h
  refine HT_cons (HS_par (i := 5) (j := 6) (d1 := .int st) (d2 := .int 1) (HA_cons (HV_var (i := 3) rfl) (HA_cons HV_int HA_nil)) ?_)
  refine HT_cons (HS_while (fun en => ∃ (x : Int) (m : Nat) (u : Ent), en = { sl := [.dat (.int a), .dat (.int b), .dat (.int c), .dat (.int st), .dat (.int (W : Int)), .dat (.int x), .dat (.int (m : Int)), u] } ∧ 1 ≤ m ∧ (2 : Int) ^ (min m W) ∣ a + b * x + c * x * x ∧ Bz (W + 1) x) (fun en => match en.sl with
    | _ :: _ :: _ :: _ :: _ :: _ :: .dat (.int m) :: _ => ((W : Int) + 1 - m).toNat
    | _ => 0) ⟨st, 1, .un, rfl, Nat.le_refl _, ?_, ?_⟩ fun en1 ⟨x, m, u, e1, hm, hI, hx⟩ => ?_)
  · rw [show min 1 W = 1 by omega]; exact hdv
  · exact (Bz.of_lt (k := 1) hs0 (by show st < 2; omega)).mono (by omega)
  subst e1
  refine HC_lt (HV_var (i := 6) rfl) (HV_add (HV_var (i := 4) rfl) HV_int) ?_
  by_cases e : (m : Int) < (W : Int) + 1
  · rw [decide_eq_true e, if_pos rfl]
    have hx0 := hx
    have hx : Bz 4001 x := hx.mono (by omega)
    have b1 : Bz 8011 (b * x) := bb.mul hx
    have b2 : Bz 8011 (c * x) := bc.mul hx
    have b3 : Bz 12012 (c * x * x) := b2.mul hx
    have b4 : Bz 13001 (a + b * x) := ba.add b1 (by decide) (by decide)
    have b5 : Bz 13002 (a + b * x + c * x * x) := b4.add b3 (by decide) (by decide)
    have b6 : Bz 4012 (2 * c) := (bz2 (k := 2) (by decide)).mul bc
    have b7 : Bz 8013 (2 * c * x) := b6.mul hx
    have b8 : Bz 8014 (b + 2 * c * x) := bb.add b7 (by decide) (by decide)
    have od : (b + 2 * c * x) % 2 = 1 := by rw [Int.mul_assoc]; omega
    refine HT_cons (HS_setV (i := 7) (d := .int (a + b * x + c * x * x)) (HV_add (HV_add (HV_var (i := 0) rfl) (HV_mul (HV_var (i := 1) rfl) (HV_var (i := 5) rfl) bb.sm hx.sm)) (HV_mul (HV_mul (HV_var (i := 2) rfl) (HV_var (i := 5) rfl) bc.sm hx.sm) (HV_var (i := 5) rfl) b2.sm hx.sm)) ?_)
    refine HT_one (HS_parE (i := 5) (j := 6) (HAe_dat (Pd := fun d => ∃ i, 0 ≤ i ∧ i < 2 ^ W ∧ Sq.Iv W (b + 2 * c * x) i ∧ d = .int ((x - (a + b * x + c * x * x) * i) % 2 ^ W)) ?_ fun d hd => HAe_dat (HV_mulS (HV_var (i := 6) rfl) HV_int (by omega)) fun d2 hd2 => HAe_nil ?_))
    · -- the call in the middle
      refine HE_two (Pa := fun d => ∃ i, 0 ≤ i ∧ i < 2 ^ W ∧ Sq.Iv W (b + 2 * c * x) i ∧ d = .int (x - (a + b * x + c * x * x) * i)) (Pb := fun d => d = .int (2 ^ W)) (fun i ta tb pa pb => pe_op op_mod pa pb) ?_ (HV_shl HV_int (HV_var (i := 4) rfl) (by omega)) fun v1 v2 d1 d2 F1 H1 σ1 Q1 R1 r1 r2 p1 p2 q1 => ?_
      · refine HE_two (Pa := fun d => d = .int x) (Pb := fun d => ∃ i, 0 ≤ i ∧ i < 2 ^ W ∧ Sq.Iv W (b + 2 * c * x) i ∧ d = .int ((a + b * x + c * x * x) * i)) (fun i ta tb pa pb => pe_op op_sub pa pb) (HV_var (i := 5) rfl) ?_ fun v1 v2 d1 d2 F1 H1 σ1 Q1 R1 r1 r2 p1 p2 q1 => ?_
        · refine HE_two (Pa := fun d => d = .int (a + b * x + c * x * x)) (Pb := fun d => ∃ i, 0 ≤ i ∧ i < 2 ^ W ∧ Sq.Iv W (b + 2 * c * x) i ∧ d = .int i) (fun i ta tb pa pb => pe_op op_mulW pa pb) (HV_var (i := 7) rfl) ?_ fun v1 v2 d1 d2 F1 H1 σ1 Q1 R1 r1 r2 p1 p2 q1 => ?_
          · exact HE_call k1 (hr.mono (by decide)) (HA_cons (HV_add (HV_var (i := 1) rfl) (HV_mul (HV_mul HV_int (HV_var (i := 2) rfl) (bz2 (k := 2) (by decide)).sm bc.sm) (HV_var (i := 5) rfl) b6.sm hx.sm)) (HA_cons (HV_var (i := 4) rfl) HA_nil)) rfl ⟨_, W, rfl, od, h1, h2, b8.mono (by decide), fun r r0 r1 ri => ⟨r, r0, r1, ri, rfl⟩⟩
          · subst p1
            obtain ⟨i, i0, i1, ii, rfl⟩ := p2
            cases r1; cases r2
            have bi : Bz 4000 i := (Bz.of_lt i0 i1).mono h2
            exact ⟨_, i, rfl, rfl, wide_mul b5.sm bi.sm (by decide) (by decide) (by decide), q1 _ _ F1 H1 R1 R1.gid (.int _) ⟨i, i0, i1, ii, rfl⟩⟩
        · subst p1
          obtain ⟨i, i0, i1, ii, rfl⟩ := p2
          cases r1; cases r2
          exact ⟨_, _, rfl, rfl, q1 _ _ F1 H1 R1 R1.gid (.int _) ⟨i, i0, i1, ii, rfl⟩⟩
      · subst p2
        obtain ⟨i, i0, i1, ii, rfl⟩ := p1
        cases r1; cases r2
        exact ⟨_, _, rfl, rfl, Sq.pos2 W, q1 _ _ F1 H1 R1 R1.gid (.int _) ⟨i, i0, i1, ii, rfl⟩⟩
    · obtain ⟨i, i0, i1, ii, rfl⟩ := hd
      subst hd2
      refine ⟨_, _, rfl, ⟨(x - (a + b * x + c * x * x) * i) % 2 ^ W, 2 * m, .dat (.int (a + b * x + c * x * x)), ?_, by omega, ?_, (Bz.emod (k := W) _).mono (by omega)⟩, ?_⟩
      · have : ((2 * m : Nat) : Int) = (m : Int) * 2 := by omega
        rw [this]; rfl
      · have := Sq.root_step hI ii
        exact Int.dvd_trans (Sq.pdvd (by omega)) this
      · show ((W : Int) + 1 - (m : Int) * 2).toNat < ((W : Int) + 1 - (m : Int)).toNat
        omega
  · rw [decide_eq_false e, if_neg (by decide)]
    refine HT_one (HS_retV (HV_var (i := 5) rfl) ?_)
    rw [show min m W = W by omega] at hI
    exact p x hx hI
abbrev KRbs (P : Program) (w : World) (K : PySem.W.Frag) (mg : Str → Option Value) (base : Heap) : Prop := Kn P w K mg base "root_by_steps" 3 (spF 5 W_rbs)
end
end WS
set_option Elab.async false
set_option linter.all false
set_option maxRecDepth 100000
set_option maxHeartbeats 4000000
set_option autoImplicit false
namespace WS
open PySem PySem.Spec PyProof.Rows L2
/-- what of the text the class has -/
structure Spl (K : PySem.W.Frag) (C : Addr) : Prop where
  cls : Cls K C
  width : NoAttr K C "width"
  size : NoAttr K C "size"
  rows : NoAttr K C "rows"
  change : NoAttr K C "change"
  left : NoAttr K C "left"
  found : NoAttr K C "found"
def lD (l : List Nat) : PyData := .list (l.map fun i : Nat => PyData.int (i : Nat))
def encF (it : (Nat × Int) × List Nat) : PyData := .tuple [encP it.1, lD it.2]
def fsOf (W n : Nat) (R Cm : Sq.Mx) (left : List Nat) : List (Str × PyData) := [("width", .int (W : Int)), ("size", .int (n : Int)), ("rows", mat n R), ("change", mat n Cm), ("left", lD left)]
def osOf (W n : Nat) (R Cm : Sq.Mx) (left : List Nat) (fd : List ((Nat × Int) × List Nat)) : OS := (fsOf W n R Cm left, fd.map encF)
section
variable {W n : Nat} {R R' Cm Cm' : Sq.Mx} {left left' : List Nat}
theorem put_rows : putD "rows" (mat n R') (fsOf W n R Cm left) = fsOf W n R' Cm left := rfl
theorem put_change : putD "change" (mat n Cm') (fsOf W n R Cm left) = fsOf W n R Cm' left := rfl
theorem put_left : putD "left" (lD left') (fsOf W n R Cm left) = fsOf W n R Cm left' := rfl
end
section
variable {P : Program} {w : World} {K : PySem.W.Frag} {mg : Str → Option Value} {base : Heap} {C : Addr}
/-! ### go -/
def W_go : List PyData → OS → (PyData → OS → Prop) → Prop := fun ds so Po => ∃ (W n : Nat) (R Cm U : Sq.Mx) (left : List Nat) (fo : List PyData), ds = [mat n U] ∧ so = (fsOf W n R Cm left, fo) ∧ 1 ≤ W ∧ W ≤ 1000 ∧ 1 ≤ n ∧ n ≤ 6 ∧ BzM 1000 n R ∧ BzM 1000 n Cm ∧ BzM 8000 n U ∧
  ∀ Cm', BzM 1000 n Cm' → Po .none (fsOf W n (Sq.tab W (Sq.cb (List.range n) R U)) Cm' left, fo)
theorem ok_go {f : Addr} {fd : FuncData} (F : Fun K "go" "Splitting.go" (inClass clS 2) f fd) (T : Gs mg) (S : Spl K C) (k1 : KProd P w K mg base) (k2 : KChanged P w K mg base) (k3 : KTable P w K mg base) : FnOk P w K mg base CX0 4 f fd ["self", "step"] (spO 1 C W_go) := by
  refine fn_okO (N := ["self", "step", "row", "item"]) F ⟨rfl, rfl, rfl, by decide +kernel, rfl, by decide +kernel, by decide +kernel⟩ rfl (by decide) fun cd A outer s H E hr bs o l ds so Pd ho hlo hC h hl => ?_
  subst hC
  obtain ⟨W, n, R, Cm, U, left, fo, rfl, rfl, h1, hW, h2, hn, bR, bC, bU, p⟩ := h
  refine HT_cons (HS_fld (i := 0) (o := o) (P := fun d => d = mat n fun i j => pd n Cm U i j % 2 ^ W) ?_ ho S.cls S.change rfl (by show 5 < 900; decide) fun d hd => ?_)
  · rw [mat_eq n fun i j => pd n Cm U i j % 2 ^ W]
    refine HV_lc (xs := List.range n) (c := fun i => PyData.list (rowL n (pd n Cm U i))) (own := [("row", 2)]) (f := fName 2) (HI_list ?_) (blkOk_by (by rfl)) HG_name (fun i hi => ⟨_, rfl, ?_⟩) (by simp; omega)
    · rw [← mat_eq n (pd n Cm U)]
      exact HE_call k1 (hr.mono (by decide)) (HA_cons (HV_fld (i := 0) (o := o) (d := mat n Cm) ho S.cls S.change rfl rfl) (HA_cons (HV_var (i := 1) rfl) HA_nil)) rfl ⟨n, Cm, U, rfl, h2, by omega, fun i j hi hj => (bC i j hi hj).mono (by decide), fun i j hi hj => (bU i j hi hj).mono (by decide), rfl⟩
    · exact HV_lc (xs := List.range n) (c := fun j => PyData.int (pd n Cm U i j)) (own := [("item", 3)]) (f := fName 3) (HI_list (HV_var (i := 2) rfl)) (blkOk_by (by rfl)) HG_name (fun j hj => ⟨_, rfl, HV_mod (HV_var (i := 3) rfl) (HV_shl HV_int (HV_fld (i := 0) (o := o) (d := .int (W : Int)) ho S.cls S.width rfl rfl) (by omega)) (Sq.pos2 W)⟩) (by simp; omega)
  subst hd
  have bC' : BzM 1000 n (fun i j => pd n Cm U i j % 2 ^ W) := fun i j hi hj => (Bz.emod (k := W) _).mono hW
  refine HT_one (HS_fld (i := 0) (o := o) (P := fun d => d = mat n (Sq.tab W (Sq.cb (List.range n) R U))) ?_ ho S.cls S.rows rfl (by show 5 < 900; decide) fun d hd => ?_)
  · exact HE_call k3 (hr.mono (by decide)) (HA_cons (HV_fld (i := 0) (o := o) (d := .int (W : Int)) ho S.cls S.width rfl rfl) (HA_cons (HE_call k2 hr (HA_cons (HV_fld (i := 0) (o := o) (d := mat n R) ho S.cls S.rows rfl rfl) (HA_cons (HV_var (i := 1) rfl) HA_nil)) rfl ⟨n, R, U, rfl, h2, by omega, fun i j hi hj => (bR i j hi hj).mono (by decide), fun i j hi hj => (bU i j hi hj).mono (by decide), rfl⟩) HA_nil)) rfl ⟨n, W, _, rfl, h1, by omega, h2, by omega, rfl⟩
  · subst hd
    exact p _ bC'
/-! ### keep -/
def W_keep : List PyData → OS → (PyData → OS → Prop) → Prop := fun ds so Po => ∃ (W n : Nat) (R Cm : Sq.Mx) (left pl : List Nat) (fd : List ((Nat × Int) × List Nat)) (pc : Nat × Int), ds = [encP pc, lD pl] ∧ so = osOf W n R Cm left fd ∧ left.length ≤ 100 ∧ fd.length ≤ 100 ∧
  Po .none (osOf W n R Cm (left.filter fun i => decide (i ∉ pl)) (fd ++ [(pc, pl)]))
theorem lD_ints (l : List Nat) : lD l = .list ((l.map fun i : Nat => (i : Int)).map PyData.int) := by unfold lD; rw [List.map_map]; rfl
theorem mem_ints (i : Nat) (l : List Nat) : ((i : Int) ∈ l.map fun i : Nat => (i : Int)) ↔ i ∈ l := by
  rw [List.mem_map]
  constructor
  · rintro ⟨j, hj, e⟩
    have : j = i := by omega
    rw [← this]; exact hj
  · intro h; exact ⟨i, h, rfl⟩
theorem ok_keep {f : Addr} {fd : FuncData} (F : Fun K "keep" "Splitting.keep" (inClass clS 6) f fd) (T : Gs mg) (S : Spl K C) : FnOk P w K mg base CX0 1 f fd ["self", "piece", "places"] (spO 2 C W_keep) := by
  refine fn_okO (N := ["self", "piece", "places", "place"]) F ⟨rfl, rfl, rfl, by decide +kernel, rfl, by decide +kernel, by decide +kernel⟩ rfl (by decide) fun cd A outer s H E hr bs o l ds so Pd ho hlo hC h hl => ?_
  subst hC
  obtain ⟨W, n, R, Cm, left, pl, fdl, pc, rfl, rfl, h1, h2, p⟩ := h
  refine HT_cons (HS_fapp (i := 0) (o := o) (P := fun d => d = encF (pc, pl)) ho hlo S.cls S.found rfl (HV_tup (HA_cons (HV_var (i := 1) rfl) (HA_cons (HV_var (i := 2) rfl) HA_nil)) (show 2 ≤ 100000 by decide)) (by show (fdl.map encF).length < 100000; rw [List.length_map]; omega) fun d hd => ?_)
  subst hd
  refine HT_one (HS_fld (i := 0) (o := o) (P := fun d => d = lD (left.filter fun i => decide (i ∉ pl))) ?_ ho S.cls S.left rfl (by show 5 < 900; decide) fun d hd => ?_)
  · refine HV_lcIf (xs := left) (c := fun i : Nat => PyData.int (i : Nat)) (h := fun i : Nat => PyData.int (i : Nat)) (pr := fun i => decide (i ∉ pl)) (own := [("place", 3)]) (f := fName 3) (HI_list (HV_fld (i := 0) (o := o) (d := lD left) ho S.cls S.left rfl rfl)) (blkOk_by (by rfl)) HG_name (fun i hi => ⟨_, rfl, ?_, fun _ => HV_var (i := 3) rfl⟩) (by omega)
    refine HC_notIn (ns := pl.map fun i : Nat => (i : Int)) (HV_var (i := 3) rfl) (HV.he (d := lD pl) (HV_var (i := 2) rfl) (.inl (lD_ints pl))) ?_
    by_cases z : i ∈ pl
    · rw [decide_eq_true ((mem_ints i pl).mpr z), decide_eq_false (fun h => h z)]; rfl
    · rw [decide_eq_false (fun h => z ((mem_ints i pl).mp h)), decide_eq_true z]; rfl
  · subst hd
    have e : (osOf W n R Cm (left.filter fun i => decide (i ∉ pl)) (fdl ++ [(pc, pl)])) = (fsOf W n R Cm (left.filter fun i => decide (i ∉ pl)), fdl.map encF ++ [encF (pc, pl)]) := by
      unfold osOf; rw [List.map_append]; rfl
    rw [e] at p
    exact p
/-! ### least -/
def enc4 (x : Sq.It4) : PyData := .tuple [.int (x.1 : Nat), .int (x.2.1 : Nat), .int (x.2.2.1 : Nat), .int (x.2.2.2 : Nat)]
theorem lt_enc4 (x y : Sq.It4) : PySem.W.dataLt (enc4 x) (enc4 y) = decide (Sq.lt4 x y) := by
  unfold enc4
  rw [PySem.W.dataLt_tuple]
  have := PySem.W.dataLt_ints [(x.1 : Int), (x.2.1 : Int), (x.2.2.1 : Int), (x.2.2.2 : Int)] [(y.1 : Int), (y.2.1 : Int), (y.2.2.1 : Int), (y.2.2.2 : Int)]
  refine Eq.trans this ?_
  congr 1
  unfold Sq.lt4
  simp only [List.cons_lt_cons_iff, List.lt_irrefl, eq_iff_iff]
  simp
  omega
theorem min_enc4 : ∀ (xs : List Sq.It4) (x : Sq.It4), PySem.W.minD (enc4 x) (xs.map enc4) = enc4 (Sq.mn x xs)
  | [], x => rfl
  | y :: ys, x => by
    have ih := min_enc4 ys (if Sq.lt4 y x then y else x)
    unfold PySem.W.minD Sq.mn at *
    rw [List.map_cons, List.foldl_cons, List.foldl_cons, lt_enc4]
    rw [← ih]
    congr 1
    by_cases z : Sq.lt4 y x
    · rw [decide_eq_true z, if_pos rfl, if_pos z]
    · rw [decide_eq_false z, if_neg (by decide), if_neg z]
theorem alike4 (x y : Sq.It4) : PySem.W.alike (enc4 x) (enc4 y) = true := by
  unfold enc4
  simp [PySem.W.alike, PySem.W.alikeAll]
theorem fl_enc4 (x : Sq.It4) : Fl 1 (enc4 x) := fl_tup fun d hd => by
  simp only [List.mem_cons, List.not_mem_nil, or_false] at hd
  rcases hd with e | e | e | e <;> subst e <;> exact fl_int _
def leastD (R : Sq.Mx) (left : List Nat) : PyData := match Sq.items R left with
  | [] => .none
  | x :: xs => enc4 (Sq.mn x xs)
def W_least : List PyData → OS → (PyData → OS → Prop) → Prop := fun ds so Po => ∃ (W n : Nat) (R Cm : Sq.Mx) (left : List Nat) (fo : List PyData), ds = [] ∧ so = (fsOf W n R Cm left, fo) ∧ left.length ≤ 10 ∧ (∀ i ∈ left, i < n) ∧ Po (leastD R left) so
theorem items_app (R : Sq.Mx) (left : List Nat) (k : Nat) (p : Nat) (h : left[k]? = some p) : (left.take (k + 1)).flatMap (fun p => ((left.filter fun o => decide (p ≤ o)).filter fun a => decide (R p a ≠ 0)).map fun a => (Sq.tw (R p a), (if a = p then 0 else 1), p, a)) = (left.take k).flatMap (fun p => ((left.filter fun o => decide (p ≤ o)).filter fun a => decide (R p a ≠ 0)).map fun a => (Sq.tw (R p a), (if a = p then 0 else 1), p, a)) ++ (((left.filter fun o => decide (p ≤ o)).filter fun a => decide (R p a ≠ 0)).map fun a => (Sq.tw (R p a), (if a = p then 0 else 1), p, a)) := by
  rw [List.take_add_one, h, List.flatMap_append]
  simp
end
end WS
set_option Elab.async false
set_option linter.all false
set_option maxRecDepth 100000
set_option maxHeartbeats 4000000
set_option autoImplicit false
namespace WS
open PySem PySem.Spec PyProof.Rows L2
theorem HV_neI {Z : Ctx} {bs : Bs} {en : En} {a b : Expr} {pos : Pos} {i j : Int} (ha : HV Z bs a en (.int i)) (hb : HV Z bs b en (.int j)) : HV Z bs (.Compare a [.NotEq] [b] pos) en (.bool (!decide (i = j))) := by
  refine HE_two (fun i ta tb pa pb => pe_cmpR op_ne pa pb (nomark b)) ha hb fun x y dx dy F H σ Q R rx ry px py q => ?_
  subst px py
  cases rx; cases ry
  exact ⟨rfl, q _ _ F H R R.gid (.bl _) (by rw [dec_int]; rfl)⟩
abbrev iRow (R : Sq.Mx) (left : List Nat) (p : Nat) (l : List Nat) : List Sq.It4 := (l.filter fun a => decide (R p a ≠ 0)).map fun a => (Sq.tw (R p a), (if a = p then 0 else 1), p, a)
abbrev iAll (R : Sq.Mx) (left : List Nat) (l : List Nat) : List Sq.It4 := l.flatMap fun p => iRow R left p (left.filter fun o => decide (p ≤ o))
theorem iRow_snoc (R : Sq.Mx) (left : List Nat) (p : Nat) (l : List Nat) (k a : Nat) (h : l[k]? = some a) : iRow R left p (l.take (k + 1)) = iRow R left p (l.take k) ++ (if R p a = 0 then [] else [(Sq.tw (R p a), (if a = p then 0 else 1), p, a)]) := by
  unfold iRow
  rw [List.take_add_one, h]
  simp only [Option.toList_some, List.filter_append, List.map_append]
  congr 1
  by_cases z : R p a = 0
  · rw [if_pos z]; simp [z]
  · rw [if_neg z]; simp [z]
theorem iRow_len (R : Sq.Mx) (left : List Nat) (p : Nat) (l : List Nat) : (iRow R left p l).length ≤ l.length := by
  unfold iRow; rw [List.length_map]; exact List.length_filter_le _ _
theorem iAll_len (R : Sq.Mx) (left : List Nat) : ∀ l : List Nat, (iAll R left l).length ≤ l.length * left.length
  | [] => by simp [iAll]
  | p :: l => by
    have := iAll_len R left l
    have h2 := iRow_len R left p (left.filter fun o => decide (p ≤ o))
    have h3 := List.length_filter_le (fun o => decide (p ≤ o)) left
    unfold iAll at *
    rw [List.flatMap_cons, List.length_append, List.length_cons, Nat.add_mul]
    omega
theorem snoc4 (A B : List Sq.It4) (x : Sq.It4) : (A ++ (B ++ [x])).map enc4 = (A ++ B).map enc4 ++ [enc4 x] := by rw [← List.append_assoc, List.map_append]; rfl
section
variable {P : Program} {w : World} {K : PySem.W.Frag} {mg : Str → Option Value} {base : Heap} {C : Addr}
theorem ok_least {f : Addr} {fd : FuncData} (F : Fun K "least" "Splitting.least" (inClass clS 1) f fd) (T : Gs mg) (S : Spl K C) (k1 : KTwos P w K mg base) : FnOk P w K mg base CX0 2 f fd ["self"] (spO 0 C W_least) := by
  refine fn_okO (N := ["self", "items", "place", "at", "other"]) F ⟨rfl, rfl, rfl, by decide +kernel, rfl, by decide +kernel, by decide +kernel⟩ rfl (by decide) fun cd A outer s H E hr bs o l ds so Pd ho hlo hC h hl => ?_
  subst hC
  obtain ⟨W, n, R, Cm, left, fo, rfl, rfl, hll, hlt, p⟩ := h
  refine HT_cons (HS_nil (i := 1) fun a => ?_)
  refine HT_cons (HS_for (ds := left.map fun i : Nat => PyData.int (i : Nat)) (vs := [2]) (f := fName 2) (HI_list (HV_fld (i := 0) (o := o) (d := lD left) ho S.cls S.left rfl rfl)) HG_name (fun k en => ∃ u2 u3 : Ent, noOwn [u2, u3] = true ∧ en = { sl := [.slf, .own, u2, u3, .un], ow := .lst a ((iAll R left (left.take k)).map enc4), fs := fsOf W n R Cm left, fo := fo }) ⟨.un, .un, rfl, rfl⟩ (fun k d en1 hd ⟨u2, u3, hno, e1⟩ => ?_) fun en1 ⟨u2, u3, hno, e1⟩ => ?_)
  · subst e1
    rw [List.getElem?_map] at hd
    cases hp : left[k]? with
    | none => rw [hp] at hd; cases hd
    | some q =>
    rw [hp] at hd
    have hd : PyData.int (q : Nat) = d := Option.some.inj hd
    subst hd
    have hq : q < n := hlt q (List.mem_of_getElem? hp)
    refine ⟨_, rfl, ?_⟩
    have hk : k < left.length := (List.getElem?_eq_some_iff.mp hp).1
    have tk : iAll R left (left.take (k + 1)) = iAll R left (left.take k) ++ iRow R left q (left.filter fun o => decide (q ≤ o)) := by
      unfold iAll
      rw [List.take_add_one, hp, List.flatMap_append]
      simp
    refine HT_one (HS_for (ds := (left.filter fun o => decide (q ≤ o)).map fun i : Nat => PyData.int (i : Nat)) (vs := [3]) (f := fName 3) (HI_list (HV_lcIf (xs := left) (c := fun i : Nat => PyData.int (i : Nat)) (h := fun i : Nat => PyData.int (i : Nat)) (pr := fun o => decide (q ≤ o)) (own := [("other", 4)]) (f := fName 4) (HI_list (HV_fld (i := 0) (o := o) (d := lD left) ho S.cls S.left rfl rfl)) (blkOk_by (by rfl)) HG_name (fun i hi => ⟨_, rfl, ?_, fun _ => HV_var (i := 4) rfl⟩) (by omega))) HG_name (fun j en => ∃ u3 : Ent, noOwn [u3] = true ∧ en = { sl := [.slf, .own, .dat (.int (q : Nat)), u3, .un], ow := .lst a ((iAll R left (left.take k) ++ iRow R left q ((left.filter fun o => decide (q ≤ o)).take j)).map enc4), fs := fsOf W n R Cm left, fo := fo }) ⟨u3, ?_, ?_⟩ (fun j d en1 hd ⟨u3, hno, e1⟩ => ?_) fun en1 ⟨u3, hno, e1⟩ => ?_)
    · refine HC_ge (HV_var (i := 4) rfl) (HV_var (i := 2) rfl) ?_
      by_cases z : q ≤ i
      · rw [decide_eq_true z, decide_eq_true (show (q : Int) ≤ (i : Int) by omega)]
      · rw [decide_eq_false z, decide_eq_false (show ¬ (q : Int) ≤ (i : Int) by omega)]
    · cases u2 <;> cases u3 <;> first | rfl | cases hno
    · show _ = _
      simp [iRow]
      rfl
    · subst e1
      rw [List.getElem?_map] at hd
      cases ha : (left.filter fun o => decide (q ≤ o))[j]? with
      | none => rw [ha] at hd; cases hd
      | some at' =>
      rw [ha] at hd
      have hd : PyData.int (at' : Nat) = d := Option.some.inj hd
      subst hd
      have hat : at' < n := hlt at' (List.mem_filter.mp (List.mem_of_getElem? ha)).1
      have hjl : j < (left.filter fun o => decide (q ≤ o)).length := (List.getElem?_eq_some_iff.mp ha).1
      have tj := iRow_snoc R left q _ j at' ha
      refine ⟨_, rfl, ?_⟩
      refine HT_one (HS_if (HC_neI (HV_ixL (HV_ixL (HV.to (HV_fld (i := 0) (o := o) (d := mat n R) ho S.cls S.rows rfl rfl) (mat_eq n R)) (HV_var (i := 2) rfl) (matL_at hq R)) (HV_var (i := 3) rfl) (rowL_at hat (R q))) HV_int ?_))
      by_cases z : R q at' = 0
      · rw [decide_eq_true z, if_neg (by decide)]
        refine HT_nil ⟨.dat (.int (at' : Nat)), rfl, ?_⟩
        rw [tj, if_pos z, List.append_nil]; rfl
      · rw [decide_eq_false z, if_pos (by decide)]
        refine HT_one (HS_app (i := 1) (P := fun d => d = enc4 (Sq.tw (R q at'), (if at' = q then 0 else 1), q, at')) rfl rfl (HV.to (HV_tup (HA_cons (HE_call k1 (hr.mono (by decide)) (HA_cons (HV_ixL (HV_ixL (HV.to (HV_fld (i := 0) (o := o) (d := mat n R) ho S.cls S.rows rfl rfl) (mat_eq n R)) (HV_var (i := 2) rfl) (matL_at hq R)) (HV_var (i := 3) rfl) (rowL_at hat (R q))) HA_nil) rfl ⟨_, rfl, z, rfl⟩) (HA_cons (HV_intB T.int (HV_neI (HV_var (i := 3) rfl) (HV_var (i := 2) rfl))) (HA_cons (HV_var (i := 2) rfl) (HA_cons (HV_var (i := 3) rfl) HA_nil)))) (show 4 ≤ 100000 by decide)) ?_) ?_ fun d hd => ?_)
        · unfold enc4
          by_cases y : at' = q
          · rw [if_pos y, decide_eq_true (by omega)]; rfl
          · rw [if_neg y, decide_eq_false (by omega)]; rfl
        · rw [List.length_map, List.length_append]
          have h1 := iAll_len R left (left.take k)
          have h2 := iRow_len R left q ((left.filter fun o => decide (q ≤ o)).take j)
          have h3 := List.length_filter_le (fun o => decide (q ≤ o)) left
          rw [List.length_take] at h1 h2
          have : min k left.length * left.length ≤ 10 * 10 := Nat.mul_le_mul (by omega) hll
          omega
        · subst hd
          refine ⟨.dat (.int (at' : Nat)), rfl, ?_⟩
          rw [tj, if_neg z, snoc4]; rfl
    · subst e1
      rw [List.length_map, List.take_length, ← tk]
      exact ⟨_, u3, hno, rfl⟩
  · subst e1
    rw [List.length_map, List.take_length]
    refine HT_frzL rfl ?_
    have hall : Fl 2 (.list ((iAll R left left).map enc4)) := fl_list fun d hd => by
      obtain ⟨x, _, rfl⟩ := List.mem_map.mp hd
      exact fl_enc4 x
    refine HT_one (HS_ret (P := fun d => d = leastD R left) ?_ fun d hd => by subst hd; exact p)
    refine HE_if (HC_neD (d := .list ((iAll R left left).map enc4)) (d' := .list []) (HV_var (i := 1) rfl) (HV_list HA_nil (by decide)) hall.sh nil_sh ?_)
    unfold leastD
    rw [show Sq.items R left = iAll R left left from rfl]
    cases hi : iAll R left left with
    | nil =>
      rw [show PyData.eqv (.list (([] : List Sq.It4).map enc4)) (.list []) = true from eqv_nil, if_neg (by decide)]
      exact HV_non
    | cons x xs =>
      rw [show PyData.eqv (.list ((x :: xs).map enc4)) (.list []) = false by simp [PyData.eqv, PyData.eqvAll], if_pos (by decide)]
      refine HV.to (HV_minD (x := enc4 x) (xs := xs.map enc4) T.min (HV_var (i := 1) rfl) ⟨?_, ?_⟩ ?_) (min_enc4 xs x)
      · rintro a ha b hb
        have ha : a ∈ (x :: xs).map enc4 := ha
        have hb : b ∈ (x :: xs).map enc4 := hb
        obtain ⟨a', _, rfl⟩ := List.mem_map.mp ha
        obtain ⟨b', _, rfl⟩ := List.mem_map.mp hb
        exact alike4 a' b'
      · rintro a ha
        have ha : a ∈ (x :: xs).map enc4 := ha
        obtain ⟨a', _, rfl⟩ := List.mem_map.mp ha
        exact fun e => nomatch e
      · have h1 : PyData.depthAll (enc4 x :: xs.map enc4) ≤ 1 := (fl_all (k := 1) (ds := enc4 x :: xs.map enc4) fun d hd => by
          have hd : d ∈ (x :: xs).map enc4 := hd
          obtain ⟨a', _, rfl⟩ := List.mem_map.mp hd
          exact fl_enc4 a').2
        have := Room.un200 hr
        show (A.deeper _).units + 1 + _ < cLine
        omega
end
end WS
set_option Elab.async false
set_option linter.all false
set_option maxRecDepth 100000
set_option maxHeartbeats 4000000
set_option autoImplicit false
namespace WS
open PySem PySem.Spec PyProof.Rows L2
section
variable {Z : Ctx} {bs : Bs} {en : En} {st : Stmt} {rest : List Stmt} {a b e : Expr} {pos : Pos} {Φ Ψ : DE} {P : PyData → Prop} {p q : Int → Prop}
theorem HS_imp (h : HS Z bs st en Ψ) (h1 : ∀ en', Ψ.nx en' → Φ.nx en') (h2 : ∀ en' d, Ψ.rt en' d → Φ.rt en' d) : HS Z bs st en Φ := fun σ F H R D q r =>
  h σ F H R D (fun en' σ' F' H' R' s p => q en' σ' F' H' R' s (h1 _ p)) fun en' σ' v d F' H' R' rp p => r en' σ' v d F' H' R' rp (h2 _ _ p)
/-- behind the statement only I is known -/
theorem HT_mid (I : En → Prop) (h : HS Z bs st en ⟨I, Φ.rt⟩) (k : ∀ en', I en' → HT Z bs rest en' Φ) : HT Z bs (st :: rest) en Φ := HT_cons (HS_imp h k fun _ _ p => p)
theorem HVi {i : Int} (h : HV Z bs e en (.int i)) : HE Z bs e en (IsI fun x => x = i) := h.he ⟨i, rfl, rfl⟩
theorem HE_mulP (ha : HE Z bs a en (IsI p)) (hb : HE Z bs b en (IsI q)) (h : ∀ i j, p i → q j → Sm i ∧ Sm j ∧ P (.int (i * j))) : HE Z bs (.BinOp a .Mult b pos) en P := by
  refine HE_two (fun i ta tb pa pb => pe_op op_mulW pa pb) ha hb fun x y dx dy F H σ Q R rx ry px py q => ?_
  obtain ⟨i, rfl, pi⟩ := px
  obtain ⟨j, rfl, pj⟩ := py
  obtain ⟨h1, h2, h3⟩ := h i j pi pj
  cases rx; cases ry
  exact ⟨i, j, rfl, rfl, wide_mul h1 h2 (by decide) (by decide) (by decide), q _ _ F H R R.gid (.int _) h3⟩
theorem HE_modP (ha : HE Z bs a en (IsI p)) (hb : HE Z bs b en (IsI q)) (h : ∀ i j, p i → q j → 0 < j ∧ P (.int (i % j))) : HE Z bs (.BinOp a .Mod b pos) en P := by
  refine HE_two (fun i ta tb pa pb => pe_op op_mod pa pb) ha hb fun x y dx dy F H σ Q R rx ry px py q => ?_
  obtain ⟨i, rfl, pi⟩ := px
  obtain ⟨j, rfl, pj⟩ := py
  obtain ⟨h1, h3⟩ := h i j pi pj
  cases rx; cases ry
  exact ⟨i, j, rfl, rfl, h1, q _ _ F H R R.gid (.int _) h3⟩
theorem HE_subP (ha : HE Z bs a en (IsI p)) (hb : HE Z bs b en (IsI q)) (h : ∀ i j, p i → q j → P (.int (i - j))) : HE Z bs (.BinOp a .Sub b pos) en P := by
  refine HE_two (fun i ta tb pa pb => pe_op op_sub pa pb) ha hb fun x y dx dy F H σ Q R rx ry px py q => ?_
  obtain ⟨i, rfl, pi⟩ := px
  obtain ⟨j, rfl, pj⟩ := py
  cases rx; cases ry
  exact ⟨i, j, rfl, rfl, q _ _ F H R R.gid (.int _) (h i j pi pj)⟩
theorem HE_addP (ha : HE Z bs a en (IsI p)) (hb : HE Z bs b en (IsI q)) (h : ∀ i j, p i → q j → P (.int (i + j))) : HE Z bs (.BinOp a .Add b pos) en P := by
  refine HE_two (fun i ta tb pa pb => pe_op op_add pa pb) ha hb fun x y dx dy F H σ Q R rx ry px py q => ?_
  obtain ⟨i, rfl, pi⟩ := px
  obtain ⟨j, rfl, pj⟩ := py
  cases rx; cases ry
  exact ⟨i, j, rfl, rfl, q _ _ F H R R.gid (.int _) (h i j pi pj)⟩
end
/-! ### matrices of one's own -/
theorem matL_get {n p : Nat} (hp : p < n) (U : Sq.Mx) : (matL n U)[p]? = some (rowL n (U p)) := by unfold matL; rw [List.getElem?_map, List.getElem?_range hp]; rfl
theorem rowL_set {n q : Nat} (hq : q < n) (r : Nat → Int) (v : Int) : (rowL n r).set q (.int v) = rowL n fun i => if i = q then v else r i := by
  apply List.ext_getElem?
  intro j
  unfold rowL
  by_cases h : j = q
  · subst h
    rw [List.getElem?_set_self (by simpa using hq), List.getElem?_map, List.getElem?_range hq]
    show _ = some (PyData.int (if j = j then v else r j))
    rw [if_pos rfl]
  · rw [List.getElem?_set_ne (fun z => h z.symm), List.getElem?_map, List.getElem?_map]
    by_cases hj : j < n
    · rw [List.getElem?_range hj]
      show some (PyData.int (r j)) = some (PyData.int (if j = q then v else r j))
      rw [if_neg h]
    · rw [List.getElem?_eq_none (by simpa using hj)]; rfl
theorem matL_congr {n : Nat} {U V : Sq.Mx} (h : ∀ a i, a < n → i < n → U a i = V a i) : matL n U = matL n V := List.map_congr_left fun a ha => rowL_congr fun i hi => h a i (List.mem_range.mp ha) hi
theorem matL_set {n p q : Nat} (hp : p < n) (hq : q < n) (U : Sq.Mx) (v : Int) {V : Sq.Mx} (h : ∀ a i, a < n → i < n → V a i = if a = p ∧ i = q then v else U a i) : (matL n U).set p ((rowL n (U p)).set q (.int v)) = matL n V := by
  apply List.ext_getElem?
  intro j
  by_cases hj : j = p
  · subst hj
    rw [List.getElem?_set_self (by unfold matL; simpa using hp), matL_get hp, rowL_set hq]
    congr 1
    refine rowL_congr fun i hi => ?_
    rw [h j i hp hi]
    by_cases e : i = q
    · rw [if_pos e, if_pos ⟨rfl, e⟩]
    · rw [if_neg e, if_neg (fun z => e z.2)]
  · rw [List.getElem?_set_ne (fun z => hj z.symm)]
    by_cases hjn : j < n
    · rw [matL_get hjn, matL_get hjn]
      congr 1
      refine rowL_congr fun i hi => ?_
      rw [h j i hjn hi, if_neg (fun z => hj z.1)]
    · rw [List.getElem?_eq_none (by unfold matL; simpa using hjn), List.getElem?_eq_none (by unfold matL; simpa using hjn)]
/-- the store into a cell -/
theorem cell_ok {Z : Ctx} {b : Bs} {en : En} {i n p q : Nat} {ie je : Expr} {a : Addr} {rs : List Addr} {U V : Sq.Mx} {v : Int} (hw : en.ow = .mat a rs (matL n U)) (hs : en.sl[i]? = some .own) (h1 : HV Z b ie en (.int (p : Int))) (h2 : HV Z b je en (.int (q : Int))) (hp : p < n) (hq : q < n)
    (h : ∀ a i, a < n → i < n → V a i = if a = p ∧ i = q then v else U a i) : xCell Z i ie je b en (.int v) (en.own (.mat a rs (matL n V))) :=
  ⟨a, rs, matL n U, p, q, rowL n (U p), hw, hs, h1, h2, matL_get hp U, by rw [rowL_len]; exact hq, by rw [matL_set hp hq U v h]⟩
/-! ### what the invariant says of sizes -/
section
variable {W n : Nat} {M0 R : Sq.Mx} {left : List Nat} {fd : List ((Nat × Int) × List Nat)}
theorem inv_bz (I : Sq.Inv W n M0 R left fd) (hW : W ≤ 1000) : BzM 1000 n R := fun i j hi hj => by
  obtain ⟨h0, h1⟩ := I.nonneg hi hj
  by_cases e : i = j
  · rw [if_pos e] at h1; exact (Bz.of_lt h0 h1).mono hW
  · rw [if_neg e] at h1; exact (Bz.of_lt h0 h1).mono (by omega)
theorem fd_len : ∀ {fd : List ((Nat × Int) × List Nat)}, (∀ it ∈ fd, Sq.BkOk W n R it) → fd.length ≤ (fd.flatMap (·.2)).length
  | [], _ => Nat.le_refl _
  | it :: fd, h => by
    have ih := fd_len (fd := fd) fun i hi => h i (List.mem_cons_of_mem _ hi)
    rw [List.flatMap_cons, List.length_append, List.length_cons]
    have : 1 ≤ it.2.length := by
      cases h it List.mem_cons_self with
      | sq _ _ _ _ => exact Nat.le_refl _
      | pr _ _ _ _ _ _ _ _ => show 1 ≤ 2; decide
    omega
theorem inv_len (I : Sq.Inv W n M0 R left fd) : fd.length ≤ n ∧ left.length ≤ n := by
  have h1 := fd_len (fun it h => I.i0.bk it h)
  have h2 := I.pm.length_eq
  rw [List.length_append, List.length_range] at h2
  omega
theorem Bz.div {k : Nat} {x : Int} (h : Bz k x) (s : Nat) : Bz k (x / 2 ^ s) := by
  unfold Bz at *
  have hp := Sq.pos2 s
  have : (x / 2 ^ s).natAbs ≤ x.natAbs := by
    rcases Int.le_total 0 x with h0 | h0
    · have h1 : 0 ≤ x / 2 ^ s := Int.ediv_nonneg h0 (by omega)
      have h2 : x / 2 ^ s ≤ x := Int.ediv_le_self _ h0
      omega
    · have h1 : x / 2 ^ s ≤ 0 := by
        have := Int.ediv_le_ediv hp h0
        simpa using this
      have h2 : x ≤ x / 2 ^ s := by
        have e := Int.emod_add_mul_ediv x (2 ^ s)
        have r0 := Int.emod_nonneg x (show (2 : Int) ^ s ≠ 0 by omega)
        have : 2 ^ s * (x / 2 ^ s) ≤ 1 * (x / 2 ^ s) := Int.mul_le_mul_of_nonpos_right (by omega) h1
        have h3 : x % 2 ^ s < 2 ^ s := Int.emod_lt_of_pos _ hp
        -- x = r + S q with q ≤ 0
        rcases Int.lt_or_le (x / 2 ^ s) x with z | z
        · exfalso
          have hq : x / 2 ^ s ≤ x - 1 := by omega
          have : 2 ^ s * (x / 2 ^ s) ≤ 2 ^ s * (x - 1) := Int.mul_le_mul_of_nonneg_left hq (by omega)
          have h4 : 2 ^ s * (x - 1) = 2 ^ s * x - 2 ^ s := by rw [Int.mul_sub, Int.mul_one]
          have h5 : 2 ^ s * x ≤ 1 * x := Int.mul_le_mul_of_nonpos_right (by omega) h0
          omega
        · exact z
      omega
  omega
end
end WS
set_option Elab.async false
set_option linter.all false
set_option maxRecDepth 100000
set_option maxHeartbeats 4000000
set_option autoImplicit false
namespace WS
open PySem PySem.Spec PyProof.Rows L2
abbrev KMeth (P : Program) (w : World) (K : PySem.W.Frag) (mg : Str → Option Value) (base : Heap) (C : Addr) (m : Str) (k n : Nat) (W : List PyData → OS → (PyData → OS → Prop) → Prop) : Prop := KnM P w K mg base C m k (spO n C W)
section
variable {P : Program} {w : World} {K : PySem.W.Frag} {mg : Str → Option Value} {base : Heap} {C : Addr}
/-- what a step leaves -/
def Post (W n : Nat) (M0 : Sq.Mx) (left : List Nat) (Po : PyData → OS → Prop) : Prop := ∀ (R' Cm' : Sq.Mx) (left' : List Nat) (fd' : List ((Nat × Int) × List Nat)), Sq.Inv W n M0 R' left' fd' → BzM 1000 n Cm' → left'.length < left.length → Po .none (osOf W n R' Cm' left' fd')
def W_sq : List PyData → OS → (PyData → OS → Prop) → Prop := fun ds so Po => ∃ (W n : Nat) (M0 R Cm : Sq.Mx) (left : List Nat) (fd : List ((Nat × Int) × List Nat)) (s p : Nat) (odd : Int), ds = [.int (s : Nat), .int (p : Nat)] ∧ so = osOf W n R Cm left fd ∧
  1 ≤ W ∧ W ≤ 1000 ∧ n ≤ 6 ∧ Sq.Inv W n M0 R left fd ∧ BzM 1000 n Cm ∧ p ∈ left ∧ R p p = 2 ^ s * odd ∧ odd % 2 = 1 ∧ (∀ i ∈ left, ∀ j ∈ left, (2 : Int) ^ s ∣ R i j) ∧ Post W n M0 left Po
theorem ok_sq {f : Addr} {fd : FuncData} (F : Fun K "take_square" "Splitting.take_square" (inClass clS 3) f fd) (T : Gs mg) (S : Spl K C) (k1 : KInv P w K mg base) (k2 : KUnit P w K mg base) (k3 : KRoot P w K mg base) (k4 : KMeth P w K mg base C "go" 4 1 W_go) (k5 : KMeth P w K mg base C "keep" 1 2 W_keep) : FnOk P w K mg base CX0 5 f fd ["self", "scale", "place"] (spO 2 C W_sq) := by
  refine fn_okO (N := ["self", "scale", "place", "odd", "kind", "back", "step", "at", "ratio"]) F ⟨rfl, rfl, rfl, by decide +kernel, rfl, by decide +kernel, by decide +kernel⟩ rfl (by decide) fun cd A outer s0 H E hr bs o l ds so Pd ho hlo hC h hl => ?_
  subst hC
  obtain ⟨W, n, M0, R, Cm, left, fdl, s, p, odd, rfl, rfl, h1, hW, hn, I, bC, hp, hR, hodd, hdv, post⟩ := h
  have hpn : p < n := I.lt hp
  have h1n : 1 ≤ n := by omega
  have bR := inv_bz I hW
  obtain ⟨lf, ll⟩ := inv_len I
  have hRs : R p p / 2 ^ s = odd := by rw [hR, Sq.pdiv]
  have bo : Bz 1000 odd := by rw [← hRs]; exact (bR p p hpn hpn).div s
  have hsW : s < W := by
    obtain ⟨r1, r2⟩ := I.nonneg hpn hpn
    rw [if_pos rfl, hR] at r2
    rw [hR] at r1
    have o1 : 1 ≤ odd := by
      rcases (show odd < 1 ∨ 1 ≤ odd by omega) with q | q
      · exfalso
        have hs2 := Sq.pos2 s
        have : (2 : Int) ^ s * odd ≤ 2 ^ s * (-1) := Int.mul_le_mul_of_nonneg_left (by omega) (by omega)
        omega
      · exact q
    exact Sq.pow_lt_exp o1 r2
  -- odd, kind
  refine HT_cons (HS_setV (i := 3) (d := .int odd) (HV.to (HV_shr (HV_ixL (HV_ixL (HV.to (HV_fld (i := 0) (o := o) (d := mat n R) ho S.cls S.rows rfl rfl) (mat_eq n R)) (HV_var (i := 2) rfl) (matL_at hpn R)) (HV_var (i := 2) rfl) (rowL_at hpn (R p))) (HV_var (i := 1) rfl)) (by rw [hRs])) ?_)
  refine HT_cons (HS_setV (i := 4) (d := .int (odd % 2 ^ min (W - s) 3)) (HV_mod (HV_var (i := 3) rfl) (HV_shl (n := min (W - s) 3) HV_int (HV.to (HV_min2 T.min (HV_sub (HV_fld (i := 0) (o := o) (d := .int (W : Int)) ho S.cls S.width rfl rfl) (HV_var (i := 1) rfl)) HV_int) (by congr 1; omega)) (by omega)) (Sq.pos2 _)) ?_)
  refine HT_cons (HS_parE (i := 5) (j := 6) (HAe_dat (Pd := fun d => ∃ r, 0 ≤ r ∧ r < 2 ^ W ∧ Sq.Iv W odd r ∧ d = .int r) (HE_call k1 (hr.mono (by decide)) (HA_cons (HV_var (i := 3) rfl) (HA_cons (HV_fld (i := 0) (o := o) (d := .int (W : Int)) ho S.cls S.width rfl rfl) HA_nil)) rfl ⟨odd, W, rfl, hodd, h1, by omega, bo.mono (by decide), fun r r0 r1 ri => ⟨r, r0, r1, ri, rfl⟩⟩) fun d hd => ?_))
  obtain ⟨back, b0, b1, hb, rfl⟩ := hd
  have bb : Bz 1000 back := (Bz.of_lt b0 b1).mono hW
  refine HAe_mat (m := matL n Sq.dlt) (HNm_call k2 (hr.mono (by decide)) (HA_cons (HV_fld (i := 0) (o := o) (d := .int (n : Int)) ho S.cls S.size rfl rfl) HA_nil) rfl ⟨n, rfl, by omega, rfl⟩) fun a rs => HAe_nil ⟨rfl, _, _, rfl, ?_⟩
  -- the step's row
  refine HT_mid (fun en => ∃ (u : Ent) (a : Addr) (rs : List Addr), noOwn [u] = true ∧ en = { sl := [.slf, .dat (.int (s : Nat)), .dat (.int (p : Nat)), .dat (.int odd), .dat (.int (odd % 2 ^ min (W - s) 3)), .dat (.int back), .own, u, .un], ow := .mat a rs (matL n (Sq.sqU R left p s back)), fs := fsOf W n R Cm left, fo := fdl.map encF }) ?_ ?_
  · refine HS_for (ds := left.map fun i : Nat => PyData.int (i : Nat)) (vs := [7]) (f := fName 7) (HI_list (HV_fld (i := 0) (o := o) (d := lD left) ho S.cls S.left rfl rfl)) HG_name (fun k en => ∃ (u : Ent) (a : Addr) (rs : List Addr), noOwn [u] = true ∧ en = { sl := [.slf, .dat (.int (s : Nat)), .dat (.int (p : Nat)), .dat (.int odd), .dat (.int (odd % 2 ^ min (W - s) 3)), .dat (.int back), .own, u, .un], ow := .mat a rs (matL n (Sq.sqU R (left.take k) p s back)), fs := fsOf W n R Cm left, fo := fdl.map encF }) ⟨.un, a, rs, rfl, ?_⟩ (fun k d en1 hd ⟨u, a, rs, hno, e1⟩ => ?_) fun en1 ⟨u, a, rs, hno, e1⟩ => ?_
    · have : matL n (Sq.sqU R (left.take 0) p s back) = matL n Sq.dlt := matL_congr fun a i _ _ => Sq.sqU_1 (.inr (.inl (by simp)))
      rw [this]; rfl
    · subst e1
      rw [List.getElem?_map] at hd
      cases hq : left[k]? with
      | none => rw [hq] at hd; cases hd
      | some q =>
      rw [hq] at hd
      have hd : PyData.int (q : Nat) = d := Option.some.inj hd
      subst hd
      have hql : q ∈ left := List.mem_of_getElem? hq
      have hqn : q < n := I.lt hql
      have tk : ∀ x, x ∈ left.take (k + 1) ↔ x ∈ left.take k ∨ x = q := fun x => by
        rw [List.take_add_one, hq]; simp
      refine ⟨_, rfl, ?_⟩
      refine HT_one (HS_if (HC_neI (HV_var (i := 7) rfl) (HV_var (i := 2) rfl) ?_))
      by_cases z : q = p
      · rw [decide_eq_true (by omega), if_neg (by decide)]
        refine HT_nil ⟨.dat (.int (q : Nat)), a, rs, rfl, ?_⟩
        have : matL n (Sq.sqU R (left.take (k + 1)) p s back) = matL n (Sq.sqU R (left.take k) p s back) := matL_congr fun a i _ _ => by
          unfold Sq.sqU
          by_cases c : a = p ∧ i ∈ left.take k ∧ i ≠ p
          · rw [if_pos c, if_pos ⟨c.1, (tk i).mpr (.inl c.2.1), c.2.2⟩]
          · rw [if_neg c, if_neg (fun y => c ⟨y.1, by
              rcases (tk i).mp y.2.1 with h | h
              · exact h
              · exact absurd (h.trans z) y.2.2, y.2.2⟩)]
        rw [this]; rfl
      · rw [decide_eq_false (by omega), if_pos (by decide)]
        refine HT_one (HS_asgX (P := fun d => d = .int (0 - R p q / 2 ^ s * back)) (HV_sub HV_int (HV_mul (HV_shr (HV_ixL (HV_ixL (HV.to (HV_fld (i := 0) (o := o) (d := mat n R) ho S.cls S.rows rfl rfl) (mat_eq n R)) (HV_var (i := 2) rfl) (matL_at hpn R)) (HV_var (i := 7) rfl) (rowL_at hqn (R p))) (HV_var (i := 1) rfl)) (HV_var (i := 5) rfl) ((bR p q hpn hqn).div s).sm bb.sm)) (HGX_cell (i := 6)) fun d hd => ?_)
        subst hd
        refine ⟨_, cell_ok (V := Sq.sqU R (left.take (k + 1)) p s back) rfl rfl (HV_var (i := 2) rfl) (HV_var (i := 7) rfl) hpn hqn (fun a i _ _ => ?_), .dat (.int (q : Nat)), a, rs, rfl, rfl⟩
        unfold Sq.sqU
        by_cases c : a = p ∧ i = q
        · obtain ⟨c1, c2⟩ := c
          subst c1 c2
          rw [if_pos ⟨rfl, (tk i).mpr (.inr rfl), z⟩, if_pos ⟨rfl, rfl⟩]
        · rw [if_neg c]
          by_cases c2 : a = p ∧ i ∈ left.take k ∧ i ≠ p
          · rw [if_pos c2, if_pos ⟨c2.1, (tk i).mpr (.inl c2.2.1), c2.2.2⟩]
          · rw [if_neg c2, if_neg (fun y => by
              rcases (tk i).mp y.2.1 with h | h
              · exact c2 ⟨y.1, h, y.2.2⟩
              · exact c ⟨y.1, h⟩)]
    · subst e1
      rw [List.length_map, List.take_length]
      exact ⟨u, a, rs, hno, rfl⟩
  rintro en1 ⟨u, a, rs, hno, rfl⟩
  have bU : BzM 8000 n (Sq.sqU R left p s back) := fun a i ha hi => by
    unfold Sq.sqU
    split
    · exact ((bz0 2000).sub (((bR p i hpn hi).div s).mul bb) (Nat.le_refl _) (Nat.le_refl _)).mono (by decide)
    · unfold Sq.dlt; split
      · exact bz1 (by decide)
      · exact bz0 _
  -- the first step
  refine HT_frzM rfl ?_
  refine HT_cons (HS_meth (i := 0) (ds := [mat n (Sq.sqU R left p s back)]) ho hlo S.cls k4 hr rfl rfl (HA_cons (HV_var (i := 6) rfl) HA_nil) rfl ⟨W, n, R, Cm, Sq.sqU R left p s back, left, fdl.map encF, rfl, rfl, h1, hW, h1n, hn, bR, bC, bU, fun Cm1 bC1 => ?_⟩)
  have no2 : ∀ r : List Ent, noOwn (u :: r) = noOwn r := fun r => by cases u <;> first | rfl | cases hno
  refine HT_cons (HS_setM (i := 6) (m := matL n Sq.dlt) (HNm_call k2 (hr.mono (by decide)) (HA_cons (HV_fld (i := 0) (o := o) (d := .int (n : Int)) ho S.cls S.size rfl rfl) HA_nil) rfl ⟨n, rfl, by omega, rfl⟩) (fun a rs => ?_) (no := ?_))
  rotate_left
  · show noOwn ([_, _, _, _, _, _, _, frzE _ u, _]) = true
    cases u <;> first | rfl | cases hno
  have odk : (odd % 2 ^ min (W - s) 3) % 2 = 1 := by
    rw [Int.emod_emod_of_dvd _ (show (2 : Int) ∣ 2 ^ min (W - s) 3 from ⟨2 ^ (min (W - s) 3 - 1), by rw [← Sq.pw1]; congr 1; omega⟩)]; exact hodd
  have bk : Bz 3 (odd % 2 ^ min (W - s) 3) := (Bz.emod _).mono (by omega)
  -- ratio
  refine HT_cons (HS_set (i := 8) (P := fun d => ∃ x : Int, d = .int x ∧ Bz 1003 x) (HE_modP (p := fun _ => True) (q := fun x => x = 2 ^ (W + 3)) (HE_mulP (p := fun x => x = odd) (q := fun x => Bz 1003 x) (P := IsI fun _ => True) (HVi (HV_var (i := 3) rfl)) (HE_call k1 (hr.mono (by decide)) (HA_cons (HV_var (i := 4) rfl) (HA_cons (HV_add (HV_fld (i := 0) (o := o) (d := .int (W : Int)) ho S.cls S.width rfl rfl) HV_int) HA_nil)) rfl ⟨_, W + 3, rfl, odk, by omega, by omega, bk.mono (by decide), fun r r0 r1 ri => ⟨r, rfl, (Bz.of_lt r0 r1).mono (by omega)⟩⟩) fun i j hi hj => ⟨by subst hi; exact bo.sm, hj.sm, ⟨_, rfl, trivial⟩⟩) (HVi (HV_shl (n := W + 3) HV_int (HV_add (HV_fld (i := 0) (o := o) (d := .int (W : Int)) ho S.cls S.width rfl rfl) HV_int) (by omega))) fun i j hi hj => ⟨by subst hj; exact Sq.pos2 _, by subst hj; exact ⟨_, rfl, (Bz.emod _).mono (by omega)⟩⟩) fun d hd => ?_)
  obtain ⟨ratio, rfl, br⟩ := hd
  refine HT_mid (fun en => ∃ (c : Int) (u : Ent) (a : Addr) (rs : List Addr) (t : Nat), c % 2 = 1 ∧ Bz 1000 c ∧ en = { sl := [.slf, .dat (.int (s : Nat)), .dat (.int (p : Nat)), .dat (.int odd), .dat (.int (odd % 2 ^ min (W - s) 3)), .dat (.int back), .own, u, .dat (.int ratio)], ow := .mat a rs (matL n (Sq.sqV p c)), fs := fsOf W n (Sq.tab W (Sq.cb (List.range n) R (Sq.sqU R left p s back))) Cm1 left, fo := fdl.map encF, ct := t }) ?_ ?_
  · refine HS_if (HC_eqI (HV_mod (HV_var (i := 8) rfl) HV_int (by decide)) HV_int ?_)
    cases decide (ratio % 8 = 1) with
    | false =>
      rw [if_neg (by decide)]
      refine HT_nil ⟨1, frzE (.mat a rs (matL n (Sq.sqU R left p s back))) u, a, rs, 0, rfl, bz1 (by decide), ?_⟩
      have : matL n (Sq.sqV p 1) = matL n Sq.dlt := matL_congr fun a i _ _ => by
        unfold Sq.sqV
        by_cases c : a = p ∧ i = p
        · rw [if_pos c, c.1, c.2, Sq.dlt_self]
        · rw [if_neg c]
      rw [this]
      cases u <;> first | rfl | cases hno
    | true =>
      rw [if_pos rfl]
      refine HT_one (HS_asgD (k := 0) (P := IsI fun c => c % 2 = 1 ∧ Bz 1000 c) (HD_call (P' := fun ds => ∃ r : Int, ds = [.int r, .int (W : Int)] ∧ r % 2 = 1 ∧ Bz 4010 r) k1 (hr.mono (by decide)) (HDA_cons (k := 0) (Pa := IsI fun r => r % 2 = 1 ∧ Bz 4010 r) (HD_of (HE_call k3 (hr.mono (by decide)) (HA_cons (HV_var (i := 8) rfl) (HA_cons (HV_fld (i := 0) (o := o) (d := .int (W : Int)) ho S.cls S.width rfl rfl) HA_nil)) rfl ⟨ratio, W, rfl, by omega, fun r r1 r2 => ⟨r, rfl, r1, r2⟩⟩) 0) fun d hd => HDA_cons (k := 0) (Pa := fun d => d = .int (W : Int)) (HD_of (HV_fld (i := 0) (o := o) (d := .int (W : Int)) ho S.cls S.width rfl rfl) 0) fun d2 hd2 => HDA_nil ?_) fun ds hds => ?_) (HGX_cell (i := 6)) fun d hd => ?_)
      · obtain ⟨r, rfl, r1, r2⟩ := hd
        subst hd2
        exact ⟨r, rfl, r1, r2⟩
      · obtain ⟨r, rfl, r1, r2⟩ := hds
        refine ⟨rfl, r, W, rfl, r1, h1, by omega, r2.mono (by decide), fun c c0 c1 ci => ⟨c, rfl, ci.odd h1, (Bz.of_lt c0 c1).mono hW⟩⟩
      · obtain ⟨c, rfl, c1, c2⟩ := hd
        refine ⟨_, cell_ok (V := Sq.sqV p c) rfl rfl (HV_var (i := 2) rfl) (HV_var (i := 2) rfl) hpn hpn (fun a i _ _ => rfl), c, frzE (.mat a rs (matL n (Sq.sqU R left p s back))) u, a, rs, 0, c1, c2, ?_⟩
        cases u <;> first | rfl | cases hno
  rintro en1 ⟨c, u2, a2, rs2, t, hc, bc, rfl⟩
  have bV : BzM 8000 n (Sq.sqV p c) := fun a i ha hi => by
    unfold Sq.sqV
    split
    · exact bc.mono (by decide)
    · unfold Sq.dlt; split
      · exact bz1 (by decide)
      · exact bz0 _
  have b1R : BzM 1000 n (Sq.tab W (Sq.cb (List.range n) R (Sq.sqU R left p s back))) := fun i j hi hj => by
    unfold Sq.tab
    by_cases e : i = j
    · rw [if_pos e]; exact (Bz.emod _).mono hW
    · rw [if_neg e]; exact (Bz.emod _).mono (by omega)
  refine HT_frzM rfl ?_
  refine HT_cons (HS_meth (i := 0) (ds := [mat n (Sq.sqV p c)]) ho hlo S.cls k4 hr rfl rfl (HA_cons (HV_var (i := 6) rfl) HA_nil) rfl ⟨W, n, _, Cm1, Sq.sqV p c, left, fdl.map encF, rfl, rfl, h1, hW, h1n, hn, b1R, bC1, bV, fun Cm2 bC2 => ?_⟩)
  refine HT_one (HS_meth (i := 0) (ds := [encP (s, odd % 2 ^ min (W - s) 3), lD [p]]) ho hlo S.cls k5 (hr.mono (by decide)) rfl rfl (HA_cons (HV_tup (HA_cons (HV_var (i := 1) rfl) (HA_cons (HV_var (i := 4) rfl) HA_nil)) (show 2 ≤ 100000 by decide)) (HA_cons (HV_list (HA_cons (HV_var (i := 2) rfl) HA_nil) (show 1 ≤ 100000 by decide)) HA_nil)) rfl ⟨W, n, _, Cm2, left, [p], fdl, (s, odd % 2 ^ min (W - s) 3), rfl, rfl, by omega, by omega, ?_⟩)
  have step := Sq.sq_step I h1 hp hR hodd hdv hb hc
  refine post _ Cm2 _ _ step bC2 ?_
  have := (Sq.perm_drop1 (List.nodup_append.mp I.nd).2.1 hp).length_eq
  rw [List.length_cons] at this
  omega
end
end WS
set_option Elab.async false
set_option linter.all false
set_option maxRecDepth 100000
set_option maxHeartbeats 4000000
set_option autoImplicit false
namespace WS
open PySem PySem.Spec PyProof.Rows L2
theorem prU_three {p q : Nat} (hpq : p ≠ q) (root lead by' : Int) (a i : Nat) : Sq.prU p q root lead by' a i = if a = q ∧ i = q then by' else if a = p ∧ i = q then lead else if a = q ∧ i = p then root else Sq.dlt a i := by
  unfold Sq.prU
  by_cases c1 : a = q ∧ i = p
  · rw [if_pos c1, if_neg (fun z => hpq (c1.2.symm.trans z.2)), if_neg (fun z => hpq (z.1.symm.trans c1.1)), if_pos c1]
  · rw [if_neg c1]
    by_cases c2 : a = p ∧ i = q
    · rw [if_pos c2, if_neg (fun z => hpq (c2.1.symm.trans z.1)), if_pos c2]
    · rw [if_neg c2]
      by_cases c3 : a = q ∧ i = q
      · rw [if_pos c3, if_pos c3]
      · rw [if_neg c3, if_neg c3, if_neg c2, if_neg c1]
section
variable {P : Program} {w : World} {K : PySem.W.Frag} {mg : Str → Option Value} {base : Heap} {C : Addr}
/-! ### pair_step -/
def W_pstep : List PyData → OS → (PyData → OS → Prop) → Prop := fun ds so Po => ∃ (W n : Nat) (R Cm : Sq.Mx) (left : List Nat) (fo : List PyData) (s p q : Nat) (f u t : Int), ds = [.int (s : Nat), .int (p : Nat), .int (q : Nat)] ∧ so = (fsOf W n R Cm left, fo) ∧
  1 ≤ W ∧ W ≤ 1000 ∧ n ≤ 6 ∧ p < n ∧ q < n ∧ p ≠ q ∧ R p p / 2 ^ (s + 1) = f ∧ R p q / 2 ^ s = u ∧ R q q / 2 ^ (s + 1) = t ∧ u % 2 = 1 ∧ BzM 1000 n R ∧
  ∀ kk root lead by' : Int, kk = f * t % 2 → Sq.PairOk (2 ^ W) f u t kk root lead by' → Bz 8000 root → Bz 8000 lead → Bz 8000 by' → Po (.tuple [.int (2 * kk), mat n (Sq.prU p q root lead by')]) so
theorem ok_pstep {f : Addr} {fd : FuncData} (F : Fun K "pair_step" "Splitting.pair_step" (inClass clS 4) f fd) (T : Gs mg) (S : Spl K C) (k1 : KInv P w K mg base) (k2 : KUnit P w K mg base) (k3 : KRbs P w K mg base) : FnOk P w K mg base CX0 4 f fd ["self", "scale", "place", "at"] (spO 3 C W_pstep) := by
  refine fn_okO (N := ["self", "scale", "place", "at", "first", "second", "third", "kind", "start", "root", "back", "lack", "step", "lead", "by", "more", "rest"]) F ⟨rfl, rfl, rfl, by decide +kernel, rfl, by decide +kernel, by decide +kernel⟩ rfl (by decide) fun cd A outer s0 H E hr bs o l ds so Pd ho hlo hC h hl => ?_
  subst hC
  obtain ⟨W, n, R, Cm, left, fo, s, p, q, f', u, t, rfl, rfl, h1, hW, hn, hpn, hqn, hpq, ef, eu, et, hu, bR, post⟩ := h
  have bf : Bz 1000 f' := by rw [← ef]; exact (bR p p hpn hpn).div _
  have bu : Bz 1000 u := by rw [← eu]; exact (bR p q hpn hqn).div _
  have bt : Bz 1000 t := by rw [← et]; exact (bR q q hqn hqn).div _
  refine HT_cons (HS_par (i := 4) (j := 5) (d1 := .int f') (d2 := .int u) (HA_cons (HV.to (HV_shr (n := s + 1) (HV_ixL (HV_ixL (HV.to (HV_fld (i := 0) (o := o) (d := mat n R) ho S.cls S.rows rfl rfl) (mat_eq n R)) (HV_var (i := 2) rfl) (matL_at hpn R)) (HV_var (i := 2) rfl) (rowL_at hpn (R p))) (HV.to (HV_add (i := (s : Int)) (j := 1) (HV_var (i := 1) rfl) HV_int) (show PyData.int ((s : Int) + 1) = .int ((s + 1 : Nat) : Int) from rfl))) (by rw [ef])) (HA_cons (HV.to (HV_shr (HV_ixL (HV_ixL (HV.to (HV_fld (i := 0) (o := o) (d := mat n R) ho S.cls S.rows rfl rfl) (mat_eq n R)) (HV_var (i := 2) rfl) (matL_at hpn R)) (HV_var (i := 3) rfl) (rowL_at hqn (R p))) (HV_var (i := 1) rfl)) (by rw [eu])) HA_nil)) ?_)
  refine HT_cons (HS_setV (i := 6) (d := .int t) (HV.to (HV_shr (n := s + 1) (HV_ixL (HV_ixL (HV.to (HV_fld (i := 0) (o := o) (d := mat n R) ho S.cls S.rows rfl rfl) (mat_eq n R)) (HV_var (i := 3) rfl) (matL_at hqn R)) (HV_var (i := 3) rfl) (rowL_at hqn (R q))) (HV.to (HV_add (i := (s : Int)) (j := 1) (HV_var (i := 1) rfl) HV_int) (show PyData.int ((s : Int) + 1) = .int ((s + 1 : Nat) : Int) from rfl))) (by rw [et])) ?_)
  refine HT_cons (HS_setV (i := 7) (d := .int (f' * t % 2 * 2)) (HV_mulS (HV_mod (HV_mul (HV_var (i := 4) rfl) (HV_var (i := 6) rfl) bf.sm bt.sm) HV_int (by decide)) HV_int (by omega)) ?_)
  obtain ⟨kk, hk⟩ : ∃ kk, kk = f' * t % 2 := ⟨_, rfl⟩
  rw [← hk]
  have kc : kk = 0 ∨ kk = 1 := by omega
  have fmod : kk = 0 → f' % 2 = 0 ∨ t % 2 = 0 := fun z => by
    rcases Int.emod_two_eq f' with a | a
    · exact .inl a
    · rcases Int.emod_two_eq t with b | b
      · exact .inr b
      · rw [z, Int.mul_emod, a, b] at hk; cases hk
  have fmod1 : kk = 1 → f' % 2 = 1 ∧ t % 2 = 1 := fun z => by
    rcases Int.emod_two_eq f' with a | a
    · rw [z, Int.mul_emod, a] at hk; simp at hk
    · rcases Int.emod_two_eq t with b | b
      · rw [z, Int.mul_emod, b] at hk; simp at hk
      · exact ⟨a, b⟩
  -- start
  refine HT_cons (HS_setV (i := 8) (d := .int (if kk = 0 then f' % 2 else 0)) (HV.to (HV_if (k := decide (kk = 0)) (d1 := .int (f' % 2)) (d2 := .int 0) (HC_eqI (HV_var (i := 7) rfl) HV_int (by
    by_cases z : kk = 0
    · rw [decide_eq_true z, decide_eq_true (by omega)]
    · rw [decide_eq_false z, decide_eq_false (by omega)])) (fun _ => HV_mod (HV_var (i := 4) rfl) HV_int (by decide)) (fun _ => HV_int)) (by
    by_cases z : kk = 0
    · rw [if_pos z, decide_eq_true z, if_pos rfl]
    · rw [if_neg z, decide_eq_false z, if_neg (by decide)])) ?_)
  -- root
  have hdv : (2 : Int) ∣ (f' - kk) + u * (if kk = 0 then f' % 2 else 0) + t * (if kk = 0 then f' % 2 else 0) * (if kk = 0 then f' % 2 else 0) := by
    apply Int.dvd_of_emod_eq_zero
    rcases kc with z | z
    · rw [if_pos z, z]
      rcases Int.emod_two_eq f' with a | a
      · rw [a]; omega
      · rcases fmod z with b | b
        · omega
        · rw [a]; omega
    · rw [if_neg (by omega)]
      obtain ⟨a, b⟩ := fmod1 z
      omega
  refine HT_cons (HS_set (i := 9) (P := IsI fun r => Bz (W + 1) r ∧ (2 : Int) ^ W ∣ (f' - kk) + u * r + t * r * r) (HE_call k3 hr (HA_cons (HV_sub (HV_var (i := 4) rfl) (HV.to (HV_div (HV_var (i := 7) rfl) HV_int (by decide) (by decide)) (show PyData.int (kk * 2 / 2) = .int kk by congr 1; omega))) (HA_cons (HV_var (i := 5) rfl) (HA_cons (HV_var (i := 6) rfl) (HA_cons (HV_var (i := 8) rfl) (HA_cons (HV_fld (i := 0) (o := o) (d := .int (W : Int)) ho S.cls S.width rfl rfl) HA_nil))))) rfl
    ⟨f' - kk, u, t, _, W, rfl, hu, h1, by omega, (bf.sub (bz1 (k := 1000) (by decide)) (Nat.le_refl _) (Nat.le_refl _) |> fun _ => ((bf.sub (show Bz 1000 kk by rcases kc with z | z <;> subst z; exact bz0 _; exact bz1 (by decide)) (Nat.le_refl _) (Nat.le_refl _)).mono (by decide))), bu.mono (by decide), bt.mono (by decide), by split <;> omega, by split <;> omega, hdv, fun r r1 r2 => ⟨r, rfl, r1, r2⟩⟩) fun d hd => ?_)
  obtain ⟨root, rfl, br0, hroot⟩ := hd
  have br : Bz 1001 root := br0.mono (by omega)
  have b2t : Bz 1002 (2 * t) := (bz2 (k := 2) (by decide)).mul bt
  have b2r : Bz 2003 (2 * t * root) := b2t.mul br
  have bden : Bz 2004 (u + 2 * t * root) := bu.add b2r (by decide) (by decide)
  have oden : (u + 2 * t * root) % 2 = 1 := by rw [Int.mul_assoc]; omega
  refine HT_cons (HS_set (i := 10) (P := IsI fun r => Bz 1000 r ∧ r % 2 = 1 ∧ (2 : Int) ^ W ∣ (u + 2 * t * root) * r - 1) (HE_call k1 (hr.mono (by decide)) (HA_cons (HV_add (HV_var (i := 5) rfl) (HV_mul (HV_mul HV_int (HV_var (i := 6) rfl) (bz2 (k := 2) (by decide)).sm bt.sm) (HV_var (i := 9) rfl) b2t.sm br.sm)) (HA_cons (HV_fld (i := 0) (o := o) (d := .int (W : Int)) ho S.cls S.width rfl rfl) HA_nil)) rfl ⟨_, W, rfl, oden, h1, by omega, bden.mono (by decide), fun r r0 r1 ri => ⟨r, rfl, (Bz.of_lt r0 r1).mono hW, ri.odd h1, ri⟩⟩) fun d hd => ?_)
  obtain ⟨be, rfl, bb, ob, hbe⟩ := hd
  have bl1 : Bz 2000 (t * be) := bt.mul bb
  have bl : Bz 3000 (t * be * be) := bl1.mul bb
  refine HT_cons (HS_setV (i := 11) (d := .int (t * be * be)) (HV_mul (HV_mul (HV_var (i := 6) rfl) (HV_var (i := 10) rfl) bt.sm bb.sm) (HV_var (i := 10) rfl) bl1.sm bb.sm) ?_)
  have blr : Bz 4001 (t * be * be * root) := bl.mul br
  -- lead, by
  refine HT_mid (fun en => ∃ (lead by' : Int) (u15 u16 : Ent) (c : Nat), noOwn [u15, u16] = true ∧ Sq.PairOk (2 ^ W) f' u t kk root lead by' ∧ Bz 8000 lead ∧ Bz 8000 by' ∧ en = { sl := [.slf, .dat (.int (s : Nat)), .dat (.int (p : Nat)), .dat (.int (q : Nat)), .dat (.int f'), .dat (.int u), .dat (.int t), .dat (.int (kk * 2)), .dat (.int (if kk = 0 then f' % 2 else 0)), .dat (.int root), .dat (.int be), .dat (.int (t * be * be)), .un, .dat (.int lead), .dat (.int by'), u15, u16], fs := fsOf W n R Cm left, fo := fo, ct := c }) ?_ ?_
  · refine HS_if (HC_eqI (HV_var (i := 7) rfl) HV_int ?_)
    rcases kc with z | z
    · rw [decide_eq_true (by omega), if_pos rfl]
      refine HT_one (HS_par (i := 13) (j := 14) (d1 := .int (0 - t * be * be)) (d2 := .int (be - t * be * be * root)) (HA_cons (HV_sub HV_int (HV_var (i := 11) rfl)) (HA_cons (HV_sub (HV_var (i := 10) rfl) (HV_mul (HV_var (i := 11) rfl) (HV_var (i := 9) rfl) bl.sm br.sm)) HA_nil)) ⟨_, _, .un, .un, 0, rfl, ?_, ?_, ?_, rfl⟩)
      · rw [z]
        exact Sq.pair0 ob (by rw [z, Int.sub_zero] at hroot; exact hroot) hbe
      · exact ((bz0 3000).sub bl (Nat.le_refl _) (Nat.le_refl _)).mono (by decide)
      · exact (bb.sub blr (by decide) (Nat.le_refl _)).mono (by decide)
    · rw [decide_eq_false (by omega), if_neg (by decide)]
      obtain ⟨a1, a2⟩ := fmod1 z
      have ol : (t * be * be) % 2 = 1 := by rw [Int.mul_emod, Int.mul_emod t, a2, ob]; rfl
      have b1l : Bz 3001 (1 - t * be * be) := (bz1 (k := 3000) (by decide)).sub bl (Nat.le_refl _) (Nat.le_refl _)
      refine HT_cons (HS_set (i := 15) (P := IsI fun r => Bz (W + 1) r ∧ (2 : Int) ^ W ∣ (1 - t * be * be) + 3 * r + 3 * r * r) (HE_call k3 hr (HA_cons (HV_sub HV_int (HV_var (i := 11) rfl)) (HA_cons HV_int (HA_cons HV_int (HA_cons HV_int (HA_cons (HV_fld (i := 0) (o := o) (d := .int (W : Int)) ho S.cls S.width rfl rfl) HA_nil))))) rfl
        ⟨1 - t * be * be, 3, 3, 0, W, rfl, by decide, h1, by omega, b1l.mono (by decide), bz3 (by decide), bz3 (by decide), by decide, by decide, Int.dvd_of_emod_eq_zero (by omega), fun r r1 r2 => ⟨r, rfl, r1, r2⟩⟩) fun d hd => ?_)
      obtain ⟨m, rfl, bm0, hm⟩ := hd
      have bm : Bz 1001 m := bm0.mono (by omega)
      have b2m : Bz 1003 (2 * m) := (bz2 (k := 2) (by decide)).mul bm
      refine HT_cons (HS_set (i := 16) (P := IsI fun r => Bz 1000 r ∧ r % 2 = 1 ∧ (2 : Int) ^ W ∣ (1 + 2 * m) * r - 1) (HE_call k1 (hr.mono (by decide)) (HA_cons (HV_add HV_int (HV_mulS HV_int (HV_var (i := 15) rfl) (by decide))) (HA_cons (HV_fld (i := 0) (o := o) (d := .int (W : Int)) ho S.cls S.width rfl rfl) HA_nil)) rfl ⟨1 + 2 * m, W, rfl, by omega, h1, by omega, ((bz1 (k := 1003) (by decide)).add b2m (Nat.le_refl _) (Nat.le_refl _)).mono (by decide), fun r r0 r1 ri => ⟨r, rfl, (Bz.of_lt r0 r1).mono hW, ri.odd h1, ri⟩⟩) fun d hd => ?_)
      obtain ⟨rho, rfl, bp, op, hp⟩ := hd
      have bmr : Bz 2002 (m * root) := bm.mul br
      have bsum : Bz 2003 (be + m * root) := bb.add bmr (by decide) (Nat.le_refl _)
      refine HT_one (HS_par (i := 13) (j := 14) (d1 := .int (m * rho)) (d2 := .int ((be + m * root) * rho)) (HA_cons (HV_mul (HV_var (i := 15) rfl) (HV_var (i := 16) rfl) bm.sm bp.sm) (HA_cons (HV_mul (HV_add (HV_var (i := 10) rfl) (HV_mul (HV_var (i := 15) rfl) (HV_var (i := 9) rfl) bm.sm br.sm)) (HV_var (i := 16) rfl) bsum.sm bp.sm) HA_nil)) ⟨_, _, _, _, 0, ?_, ?_, ?_, ?_, rfl⟩)
      · rfl
      · rw [z]
        exact Sq.pair1 ob op (by rw [z] at hroot; exact hroot) hbe hm hp
      · exact (bm.mul bp).mono (by decide)
      · exact (bsum.mul bp).mono (by decide)
  rintro en1 ⟨lead, by', u15, u16, c, hno, ok, blead, bby, rfl⟩
  refine HT_cons (HS_setM (i := 12) (m := matL n Sq.dlt) (HNm_call k2 (hr.mono (by decide)) (HA_cons (HV_fld (i := 0) (o := o) (d := .int (n : Int)) ho S.cls S.size rfl rfl) HA_nil) rfl ⟨n, rfl, by omega, rfl⟩) (fun a rs => ?_) (no := ?_))
  rotate_left
  · cases u15 <;> cases u16 <;> first | rfl | cases hno
  -- the three cells
  refine HT_cons (HS_asgX (P := fun d => d = .tuple [.int root, .int lead, .int by']) (HV_tup (HA_cons (HV_var (i := 9) rfl) (HA_cons (HV_var (i := 13) rfl) (HA_cons (HV_var (i := 14) rfl) HA_nil))) (show 3 ≤ 100000 by decide)) (HGX_tup (n := 3) (HGXs_cons (HGX_cell (i := 12)) (HGXs_cons (HGX_cell (i := 12)) (HGXs_cons (HGX_cell (i := 12)) HGXs_nil))) (by rintro b en ds en' ⟨x, r, e1, rfl, _, y, r2, e2, rfl, _, z, r3, e3, rfl, _, rfl, _⟩; rfl)) fun d hd => ?_)
  subst hd
  refine ⟨_, ⟨_, rfl, _, _, _, rfl, cell_ok (V := fun a i => if a = q ∧ i = p then root else Sq.dlt a i) rfl rfl (HV_var (i := 3) rfl) (HV_var (i := 2) rfl) hqn hpn (fun a i _ _ => rfl), _, _, _, rfl, cell_ok (V := fun a i => if a = p ∧ i = q then lead else if a = q ∧ i = p then root else Sq.dlt a i) rfl rfl (HV_var (i := 2) rfl) (HV_var (i := 3) rfl) hpn hqn (fun a i _ _ => rfl), _, _, _, rfl, cell_ok (V := Sq.prU p q root lead by') rfl rfl (HV_var (i := 3) rfl) (HV_var (i := 3) rfl) hqn hqn (fun a i _ _ => ?_), rfl, rfl⟩, ?_⟩
  · exact prU_three hpq root lead by' a i
  refine HT_frzM rfl ?_
  refine HT_one (HS_retV (d := .tuple [.int (2 * kk), mat n (Sq.prU p q root lead by')]) (HV.to (HV_tup (HA_cons (HV_var (i := 7) rfl) (HA_cons (HV_var (i := 12) rfl) HA_nil)) (show 2 ≤ 100000 by decide)) (by rw [show kk * 2 = 2 * kk by omega]; rfl)) ?_)
  exact post kk root lead by' hk ok (br.mono (by decide)) blead bby
end
end WS
set_option Elab.async false
set_option linter.all false
set_option maxRecDepth 100000
set_option maxHeartbeats 4000000
set_option autoImplicit false
namespace WS
open PySem PySem.Spec PyProof.Rows L2
theorem xlen2 {f g : Bs → En → PyData → En → Prop} : ∀ (b : Bs) (en : En) (ds : List PyData) (en' : En), xCons f (xCons g xNil) b en ds en' → ds.length = 2 := by
  rintro b en ds en' ⟨x, r, e1, rfl, _, y, r2, e2, rfl, _, rfl, _⟩
  rfl
/-- the rows p, q of the second change, built up -/
def prVk (N : Sq.Mx) (l : List Nat) (p q s : Nat) (k B : Int) : Sq.Mx := Sq.prV N l p q s k B
theorem prV_nil (N : Sq.Mx) (p q s : Nat) (k B : Int) (a i : Nat) : Sq.prV N [] p q s k B a i = Sq.dlt a i := by
  unfold Sq.prV
  rw [if_neg (fun z => nomatch z.2.1), if_neg (fun z => nomatch z.2.1)]
theorem prV_skip (N : Sq.Mx) (l l' : List Nat) (p q s : Nat) (k B : Int) (x : Nat) (h : ∀ y, y ∈ l' ↔ y ∈ l ∨ y = x) (hx : x = p ∨ x = q) (a i : Nat) : Sq.prV N l' p q s k B a i = Sq.prV N l p q s k B a i := by
  have e : ∀ z : Nat, (a = z ∧ i ∈ l' ∧ i ≠ p ∧ i ≠ q) ↔ (a = z ∧ i ∈ l ∧ i ≠ p ∧ i ≠ q) := fun z => by
    rw [h i]
    constructor
    · rintro ⟨h1, h2, h3, h4⟩
      refine ⟨h1, ?_, h3, h4⟩
      rcases h2 with h2 | h2
      · exact h2
      · rcases hx with hx | hx
        · exact absurd (h2.trans hx) h3
        · exact absurd (h2.trans hx) h4
    · rintro ⟨h1, h2, h3, h4⟩
      exact ⟨h1, .inl h2, h3, h4⟩
  unfold Sq.prV
  simp only [e]
theorem prV_put (N : Sq.Mx) (l l' : List Nat) {p q : Nat} (hpq : p ≠ q) (s : Nat) (k B : Int) (x : Nat) (h : ∀ y, y ∈ l' ↔ y ∈ l ∨ y = x) (h1 : x ≠ p) (h2 : x ≠ q) (a i : Nat) : Sq.prV N l' p q s k B a i = if a = q ∧ i = x then (N p x / 2 ^ s - k * (N q x / 2 ^ s)) * B else if a = p ∧ i = x then (N q x / 2 ^ s - k * (N p x / 2 ^ s)) * B else Sq.prV N l p q s k B a i := by
  unfold Sq.prV
  by_cases e : i = x
  · subst e
    have m : i ∈ l' := (h i).mpr (.inr rfl)
    by_cases ap : a = p
    · rw [if_pos ⟨ap, m, h1, h2⟩, if_neg (fun z => hpq (ap.symm.trans z.1)), if_pos ⟨ap, rfl⟩]
    · by_cases aq : a = q
      · rw [if_neg (fun z => ap z.1), if_pos ⟨aq, m, h1, h2⟩, if_pos ⟨aq, rfl⟩]
      · rw [if_neg (fun z => ap z.1), if_neg (fun z => aq z.1), if_neg (fun z => aq z.1), if_neg (fun z => ap z.1), if_neg (fun z => ap z.1), if_neg (fun z => aq z.1)]
  · have m : i ∈ l' ↔ i ∈ l := by rw [h i]; exact ⟨fun z => z.resolve_right e, .inl⟩
    rw [if_neg (fun z : a = q ∧ i = x => e z.2), if_neg (fun z : a = p ∧ i = x => e z.2)]
    simp only [m]
section
variable {P : Program} {w : World} {K : PySem.W.Frag} {mg : Str → Option Value} {base : Heap} {C : Addr}
def W_pair : List PyData → OS → (PyData → OS → Prop) → Prop := fun ds so Po => ∃ (W n : Nat) (M0 R Cm : Sq.Mx) (left : List Nat) (fd : List ((Nat × Int) × List Nat)) (s p q : Nat) (u : Int), ds = [.int (s : Nat), .int (p : Nat), .int (q : Nat)] ∧ so = osOf W n R Cm left fd ∧
  1 ≤ W ∧ W ≤ 1000 ∧ n ≤ 6 ∧ Sq.Inv W n M0 R left fd ∧ BzM 1000 n Cm ∧ p ∈ left ∧ q ∈ left ∧ p ≠ q ∧ R p q = 2 ^ s * u ∧ u % 2 = 1 ∧ (∀ i ∈ left, ∀ j ∈ left, (2 : Int) ^ s ∣ R i j) ∧ (∀ i ∈ left, (2 : Int) ^ (s + 1) ∣ R i i) ∧ Post W n M0 left Po
theorem ok_pair {f : Addr} {fd : FuncData} (F : Fun K "take_pair" "Splitting.take_pair" (inClass clS 5) f fd) (T : Gs mg) (S : Spl K C) (k1 : KInv P w K mg base) (k2 : KUnit P w K mg base) (k3 : KMeth P w K mg base C "pair_step" 4 3 W_pstep) (k4 : KMeth P w K mg base C "go" 4 1 W_go) (k5 : KMeth P w K mg base C "keep" 1 2 W_keep) : FnOk P w K mg base CX0 5 f fd ["self", "scale", "place", "at"] (spO 3 C W_pair) := by
  refine fn_okO (N := ["self", "scale", "place", "at", "kind", "step", "back", "other", "one", "two"]) F ⟨rfl, rfl, rfl, by decide +kernel, rfl, by decide +kernel, by decide +kernel⟩ rfl (by decide) fun cd A outer s0 H E hr bs o l ds so Pd ho hlo hC h hl => ?_
  subst hC
  obtain ⟨W, n, M0, R, Cm, left, fdl, s, p, q, u, rfl, rfl, h1, hW, hn, I, bC, hp, hq, hpq, hR, hu, hdv, hdd, post⟩ := h
  have hpn : p < n := I.lt hp
  have hqn : q < n := I.lt hq
  have h1n : 1 ≤ n := by omega
  have bR := inv_bz I hW
  obtain ⟨lf, ll⟩ := inv_len I
  refine HT_cons (HS_asgD (k := 0) (P := fun d => ∃ kk root lead by' : Int, d = .tuple [.int (2 * kk), mat n (Sq.prU p q root lead by')] ∧ kk = R p p / 2 ^ (s + 1) * (R q q / 2 ^ (s + 1)) % 2 ∧ Sq.PairOk (2 ^ W) (R p p / 2 ^ (s + 1)) u (R q q / 2 ^ (s + 1)) kk root lead by' ∧ Bz 8000 root ∧ Bz 8000 lead ∧ Bz 8000 by') (HD_meth (i := 0) (ds := [.int (s : Nat), .int (p : Nat), .int (q : Nat)]) ho hlo S.cls k3 hr rfl rfl (HA_cons (HV_var (i := 1) rfl) (HA_cons (HV_var (i := 2) rfl) (HA_cons (HV_var (i := 3) rfl) HA_nil))) rfl ⟨W, n, R, Cm, left, fdl.map encF, s, p, q, _, u, _, rfl, rfl, h1, hW, hn, hpn, hqn, hpq, rfl, by rw [hR, Sq.pdiv], rfl, hu, bR, fun kk root lead by' hk ok b1 b2 b3 => ⟨rfl, kk, root, lead, by', rfl, hk, ok, b1, b2, b3⟩⟩) (HGX_tup (n := 2) (HGXs_cons (HG_name (i := 4)).x (HGXs_cons (HG_name (i := 5)).x HGXs_nil)) xlen2) fun d hd => ?_)
  obtain ⟨kk, root, lead, by', rfl, hk, ok, b1, b2, b3⟩ := hd
  refine ⟨_, ⟨_, rfl, _, _, _, rfl, rfl, _, _, _, rfl, rfl, rfl, rfl⟩, ?_⟩
  have bU : BzM 8000 n (Sq.prU p q root lead by') := fun a i ha hi => by
    unfold Sq.prU
    split
    · exact b1
    · split
      · exact b2
      · split
        · exact b3
        · unfold Sq.dlt; split
          · exact bz1 (by decide)
          · exact bz0 _
  refine HT_cons (HS_meth (i := 0) (ds := [mat n (Sq.prU p q root lead by')]) ho hlo S.cls k4 hr rfl rfl (HA_cons (HV_var (i := 5) rfl) HA_nil) rfl ⟨W, n, R, Cm, Sq.prU p q root lead by', left, fdl.map encF, rfl, rfl, h1, hW, h1n, hn, bR, bC, bU, fun Cm1 bC1 => ?_⟩)
  have bN : BzM 1000 n (Sq.tab W (Sq.cb (List.range n) R (Sq.prU p q root lead by'))) := fun i j hi hj => by
    unfold Sq.tab
    by_cases e : i = j
    · rw [if_pos e]; exact (Bz.emod _).mono hW
    · rw [if_neg e]; exact (Bz.emod _).mono (by omega)
  have kc : kk = 0 ∨ kk = 1 := by omega
  have bk : Bz 2 (2 * kk) := by rcases kc with z | z <;> subst z <;> (unfold Bz; decide)
  obtain ⟨N, hN⟩ : ∃ N, N = Sq.tab W (Sq.cb (List.range n) R (Sq.prU p q root lead by')) := ⟨_, rfl⟩
  rw [← hN] at bN ⊢
  refine HT_cons (HS_parE (i := 6) (j := 5) (HAe_dat (Pd := fun d => ∃ r, Bz 1000 r ∧ Sq.Iv W (2 * kk * (2 * kk) - 1) r ∧ d = .int r) (HE_call k1 (hr.mono (by decide)) (HA_cons (HV_sub (HV_mulS (HV_var (i := 4) rfl) (HV_var (i := 4) rfl) (by omega)) HV_int) (HA_cons (HV_fld (i := 0) (o := o) (d := .int (W : Int)) ho S.cls S.width rfl rfl) HA_nil)) rfl ⟨2 * kk * (2 * kk) - 1, W, rfl, by rcases kc with z | z <;> subst z <;> rfl, h1, by omega, by rcases kc with z | z <;> subst z; exact (show Bz 1 _ by unfold Bz; decide).mono (by decide); exact (show Bz 2 _ by unfold Bz; decide).mono (by decide), fun r r0 r1 ri => ⟨r, (Bz.of_lt r0 r1).mono hW, ri, rfl⟩⟩) fun d hd => ?_))
  obtain ⟨B, bB, hB, rfl⟩ := hd
  refine HAe_mat (m := matL n Sq.dlt) (HNm_call k2 (hr.mono (by decide)) (HA_cons (HV_fld (i := 0) (o := o) (d := .int (n : Int)) ho S.cls S.size rfl rfl) HA_nil) rfl ⟨n, rfl, by omega, rfl⟩) fun a rs => HAe_nil ⟨rfl, _, _, rfl, ?_⟩
  refine HT_mid (fun en => ∃ (u7 u8 u9 : Ent) (a : Addr) (rs : List Addr) (c : Nat), noOwn [u7, u8, u9] = true ∧ en = { sl := [.slf, .dat (.int (s : Nat)), .dat (.int (p : Nat)), .dat (.int (q : Nat)), .dat (.int (2 * kk)), .own, .dat (.int B), u7, u8, u9], ow := .mat a rs (matL n (Sq.prV N left p q s (2 * kk) B)), fs := fsOf W n N Cm1 left, fo := fdl.map encF, ct := c }) ?_ ?_
  · refine HS_for (ds := left.map fun i : Nat => PyData.int (i : Nat)) (vs := [7]) (f := fName 7) (HI_list (HV_fld (i := 0) (o := o) (d := lD left) ho S.cls S.left rfl rfl)) HG_name (fun k en => ∃ (u7 u8 u9 : Ent) (a : Addr) (rs : List Addr) (c : Nat), noOwn [u7, u8, u9] = true ∧ en = { sl := [.slf, .dat (.int (s : Nat)), .dat (.int (p : Nat)), .dat (.int (q : Nat)), .dat (.int (2 * kk)), .own, .dat (.int B), u7, u8, u9], ow := .mat a rs (matL n (Sq.prV N (left.take k) p q s (2 * kk) B)), fs := fsOf W n N Cm1 left, fo := fdl.map encF, ct := c }) ⟨.un, .un, .un, a, rs, 0, rfl, ?_⟩ (fun k d en1 hd ⟨u7, u8, u9, a, rs, c, hno, e1⟩ => ?_) fun en1 ⟨u7, u8, u9, a, rs, c, hno, e1⟩ => ?_
    · have : matL n (Sq.prV N (left.take 0) p q s (2 * kk) B) = matL n Sq.dlt := matL_congr fun a i _ _ => by rw [List.take_zero]; exact prV_nil N p q s _ _ a i
      rw [this]; rfl
    · subst e1
      rw [List.getElem?_map] at hd
      cases hx : left[k]? with
      | none => rw [hx] at hd; cases hd
      | some x =>
      rw [hx] at hd
      have hd : PyData.int (x : Nat) = d := Option.some.inj hd
      subst hd
      have hxn : x < n := I.lt (List.mem_of_getElem? hx)
      have tk : ∀ y, y ∈ left.take (k + 1) ↔ y ∈ left.take k ∨ y = x := fun y => by
        rw [List.take_add_one, hx]; simp
      refine ⟨_, rfl, ?_⟩
      refine HT_one (HS_if (HC_notIn (ns := [(p : Int), (q : Int)]) (HV_var (i := 7) rfl) (HV.he (d := .tuple [.int (p : Nat), .int (q : Nat)]) (HV_tup (HA_cons (HV_var (i := 2) rfl) (HA_cons (HV_var (i := 3) rfl) HA_nil)) (show 2 ≤ 100000 by decide)) (.inr rfl)) ?_))
      by_cases z : x = p ∨ x = q
      · rw [decide_eq_true (show (x : Int) ∈ [(p : Int), (q : Int)] by
          rcases z with z | z <;> rw [z] <;> simp), if_neg (by decide)]
        refine HT_nil ⟨.dat (.int (x : Nat)), u8, u9, a, rs, c, ?_, ?_⟩
        · cases u7 <;> first | exact hno | cases hno
        · have : matL n (Sq.prV N (left.take (k + 1)) p q s (2 * kk) B) = matL n (Sq.prV N (left.take k) p q s (2 * kk) B) := matL_congr fun a i _ _ => prV_skip N _ _ p q s _ _ x tk z a i
          rw [this]; rfl
      · rw [not_or] at z
        rw [decide_eq_false (show ¬ (x : Int) ∈ [(p : Int), (q : Int)] by
          simp only [List.mem_cons, List.not_mem_nil, or_false]; omega), if_pos (by decide)]
        have bx1 : Bz 1000 (N p x / 2 ^ s) := (bN p x hpn hxn).div s
        have bx2 : Bz 1000 (N q x / 2 ^ s) := (bN q x hqn hxn).div s
        refine HT_cons (HS_par (i := 8) (j := 9) (d1 := .int (N p x / 2 ^ s)) (d2 := .int (N q x / 2 ^ s)) (HA_cons (HV_shr (HV_ixL (HV_ixL (HV.to (HV_fld (i := 0) (o := o) (d := mat n N) ho S.cls S.rows rfl rfl) (mat_eq n N)) (HV_var (i := 2) rfl) (matL_at hpn N)) (HV_var (i := 7) rfl) (rowL_at hxn (N p))) (HV_var (i := 1) rfl)) (HA_cons (HV_shr (HV_ixL (HV_ixL (HV.to (HV_fld (i := 0) (o := o) (d := mat n N) ho S.cls S.rows rfl rfl) (mat_eq n N)) (HV_var (i := 3) rfl) (matL_at hqn N)) (HV_var (i := 7) rfl) (rowL_at hxn (N q))) (HV_var (i := 1) rfl)) HA_nil)) ?_)
        refine HT_cons (HS_asgX (P := fun d => d = .int ((N q x / 2 ^ s - 2 * kk * (N p x / 2 ^ s)) * B)) (HV_mul (HV_sub (HV_var (i := 9) rfl) (HV_mul (HV_var (i := 4) rfl) (HV_var (i := 8) rfl) bk.sm bx1.sm)) (HV_var (i := 6) rfl) (bx2.sub (bk.mul bx1) (m := 1002) (by decide) (by decide)).sm bB.sm) (HGX_cell (i := 5)) fun d hd => ?_)
        subst hd
        refine ⟨_, cell_ok (V := fun a i => if a = p ∧ i = x then (N q x / 2 ^ s - 2 * kk * (N p x / 2 ^ s)) * B else Sq.prV N (left.take k) p q s (2 * kk) B a i) rfl rfl (HV_var (i := 2) rfl) (HV_var (i := 7) rfl) hpn hxn (fun a i _ _ => rfl), ?_⟩
        refine HT_one (HS_asgX (P := fun d => d = .int ((N p x / 2 ^ s - 2 * kk * (N q x / 2 ^ s)) * B)) (HV_mul (HV_sub (HV_var (i := 8) rfl) (HV_mul (HV_var (i := 4) rfl) (HV_var (i := 9) rfl) bk.sm bx2.sm)) (HV_var (i := 6) rfl) (bx1.sub (bk.mul bx2) (m := 1002) (by decide) (by decide)).sm bB.sm) (HGX_cell (i := 5)) fun d hd => ?_)
        subst hd
        exact ⟨_, cell_ok (V := Sq.prV N (left.take (k + 1)) p q s (2 * kk) B) rfl rfl (HV_var (i := 3) rfl) (HV_var (i := 7) rfl) hqn hxn (fun a i _ _ => prV_put N _ _ hpq s _ _ x tk z.1 z.2 a i), .dat (.int (x : Nat)), _, _, a, rs, c, rfl, rfl⟩
    · subst e1
      rw [List.length_map, List.take_length]
      exact ⟨u7, u8, u9, a, rs, c, hno, rfl⟩
  rintro en1 ⟨u7, u8, u9, a, rs, c, hno, rfl⟩
  have bV : BzM 8000 n (Sq.prV N left p q s (2 * kk) B) := fun a i ha hi => by
    have bx1 : Bz 1000 (N p i / 2 ^ s) := (bN p i hpn hi).div s
    have bx2 : Bz 1000 (N q i / 2 ^ s) := (bN q i hqn hi).div s
    unfold Sq.prV
    split
    · exact ((bx2.sub (bk.mul bx1) (m := 1002) (by decide) (by decide)).mul bB).mono (by decide)
    · split
      · exact ((bx1.sub (bk.mul bx2) (m := 1002) (by decide) (by decide)).mul bB).mono (by decide)
      · unfold Sq.dlt; split
        · exact bz1 (by decide)
        · exact bz0 _
  refine HT_frzM rfl ?_
  refine HT_cons (HS_meth (i := 0) (ds := [mat n (Sq.prV N left p q s (2 * kk) B)]) ho hlo S.cls k4 hr rfl rfl (HA_cons (HV_var (i := 5) rfl) HA_nil) rfl ⟨W, n, N, Cm1, Sq.prV N left p q s (2 * kk) B, left, fdl.map encF, rfl, rfl, h1, hW, h1n, hn, bN, bC1, bV, fun Cm2 bC2 => ?_⟩)
  refine HT_one (HS_meth (i := 0) (ds := [encP (s, 2 * kk), lD [p, q]]) ho hlo S.cls k5 (hr.mono (by decide)) rfl rfl (HA_cons (HV_tup (HA_cons (HV_var (i := 1) rfl) (HA_cons (HV_var (i := 4) rfl) HA_nil)) (show 2 ≤ 100000 by decide)) (HA_cons (HV_list (HA_cons (HV_var (i := 2) rfl) (HA_cons (HV_var (i := 3) rfl) HA_nil)) (show 2 ≤ 100000 by decide)) HA_nil)) rfl ⟨W, n, _, Cm2, left, [p, q], fdl, (s, 2 * kk), rfl, rfl, by omega, by omega, ?_⟩)
  have step := Sq.pr_step I h1 hp hq hpq hR hu hdv hdd hk ok hB
  rw [show Sq.tab W (Sq.cb (Sq.ns n) R (Sq.prU p q root lead by')) = N from hN.symm] at step
  refine post _ Cm2 _ _ step bC2 ?_
  have := (Sq.perm_drop2 (List.nodup_append.mp I.nd).2.1 hp hq hpq).length_eq
  rw [List.length_cons, List.length_cons] at this
  omega
end
end WS
set_option Elab.async false
set_option linter.all false
set_option maxRecDepth 100000
set_option maxHeartbeats 4000000
set_option autoImplicit false
namespace WS
open PySem PySem.Spec PyProof.Rows L2
/-- sorted(self.found) -/
theorem HV_sortedF {Z : Ctx} {bs : Bs} {en : En} {pos p p2 px : Pos} {β : Type} {enc : β → PyData} {cs : List β} {i : Nat} {x : Str} {o : Ob} {l : Addr} (hm : Z.mg "sorted" = none) (ho : bs.o = some o) (hlo : o.l = some l) (hc : Cls Z.K o.C) (hn : NoAttr Z.K o.C "found") (hs : en.sl[i]? = some .slf) (hfo : en.fo = cs.map enc)
    (hal : PySem.W.AllAlike (cs.map enc)) (hk : PySem.W.Sortable (cs.map enc)) (hl : cs.length ≤ 100000) (hu : ∀ b ∈ cs, Z.A.units + 2 + (enc b).depth < cLine)
    (hN : Z.N[i]? = some x := by rfl) (hv : Vis Z.sc x := by first | exact Or.inl rfl | exact Or.inr (Or.inl rfl) | exact Or.inr (Or.inr rfl)) (hd : (x == ("__debug__" : Str)) = false := by decide) (hcd : (x == ("__classdict__" : Str)) = false := by decide)
    (hb : ∀ i, attributeBase (.Name x px) "found" (Z.X i).env (eval (.Name x px) (Z.X i).env) = eval (.Name x px) (Z.X i).env := by intro _; rfl)
    (hg : GlS Z.sc "sorted" := by rfl) (he : ∀ i, starEach [.Attribute (.Name x px) "found" p2] (Z.X i).env = (false, eval (.Attribute (.Name x px) "found" p2) (Z.X i).env) :: starEach [] (Z.X i).env := by intro _; rfl) :
    HV Z bs (.Call (.Name "sorted" p) [.Attribute (.Name x px) "found" p2] [] pos) en (.list ((cs.mergeSort (PySem.W.dataLe false enc)).map enc)) := fun σ F H R Q q => by
  refine ⟨tCB (rSortD F Z.K enc cs) (tCons (tFld Z.K (tVar i) "found") tNil), fun j => ?_, ?_⟩
  · have z0 := pe_fld (f := "found") (pos := p2) (pe_var (X := Z.X j) (pos := px) (Ctx.nth hN j) (Ctx.vis hv j) hd hcd) (hb j)
    rw [Z.hK j] at z0
    have hu' : ∀ b ∈ cs, (Z.X j).A.units + 2 + (enc b).depth < cLine := by rw [Z.hA j]; exact hu
    exact pe_callB (fun pins s σ H vs us Q I r h => cr_sortD (F := F) hal hk hl hu' pins s σ H vs us Q I r (by rw [Z.hK j]; exact h)) (Ctx.gl hg j) (Ctx.mgN hm j) PyProof.Rows.boot_sorted (pa_cons z0 pa_nil (he j)) (by decide) (by decide) (he j) (by rfl)
  · obtain ⟨o', e1, e2⟩ := R.sl i _ hs
    rw [ho] at e1; cases e1
    obtain ⟨vs, h1, h2, h4, hno, h5⟩ := R.ob o ho
    obtain ⟨z1, xs, z2, z3⟩ := h5 l hlo
    refine ⟨_, e2, o.p, o.C, o.dx, vs, .ref l, rfl, h1, hc, hn, z1, l, xs, rfl, R.fh, SqL.of z2, by rw [← hfo]; exact z3, fun p ys hp hy => ?_⟩
    exact q _ _ _ _ (R.alloc hp) (R.galloc hp) (.lst upd_same (hy.up (R.same_alloc hp))) rfl
section
variable {P : Program} {w : World} {K : PySem.W.Frag} {mg : Str → Option Value} {base : Heap} {C : Addr}
/-! ### walk -/
def W_walk : List PyData → OS → (PyData → OS → Prop) → Prop := fun ds so Po => ∃ (W n : Nat) (M0 R Cm : Sq.Mx) (left : List Nat) (fd : List ((Nat × Int) × List Nat)), ds = [] ∧ so = osOf W n R Cm left fd ∧ 1 ≤ W ∧ W ≤ 1000 ∧ n ≤ 6 ∧ Sq.Inv W n M0 R left fd ∧ BzM 1000 n Cm ∧
  ∀ (R' Cm' : Sq.Mx) (left' : List Nat) (fd' : List ((Nat × Int) × List Nat)), Sq.Inv W n M0 R' left' fd' → BzM 1000 n Cm' → Sq.items R' left' = [] → Po .none (osOf W n R' Cm' left' fd')
theorem ok_walk {f : Addr} {fd : FuncData} (F : Fun K "walk" "Splitting.walk" (inClass clS 7) f fd) (T : Gs mg) (S : Spl K C) (k1 : KMeth P w K mg base C "least" 2 0 W_least) (k2 : KMeth P w K mg base C "take_square" 5 2 W_sq) (k3 : KMeth P w K mg base C "take_pair" 5 3 W_pair) : FnOk P w K mg base CX0 6 f fd ["self"] (spO 0 C W_walk) := by
  refine fn_okO (N := ["self", "_", "item"]) F ⟨rfl, rfl, rfl, by decide +kernel, rfl, by decide +kernel, by decide +kernel⟩ rfl (by decide) fun cd A outer s0 H E hr bs o l ds so Pd ho hlo hC h hl => ?_
  subst hC
  obtain ⟨W, n, M0, R, Cm, left, fdl, rfl, rfl, h1, hW, hn, I, bC, post⟩ := h
  refine HT_one (HS_for (ds := (List.range n).map fun i : Nat => PyData.int (i : Nat)) (vs := [1]) (f := fName 1) (HI_rangeN T.range (HV_fld (i := 0) (o := o) (d := .int (n : Int)) ho S.cls S.size rfl rfl) (by omega)) HG_name (fun k en => ∃ (R' Cm' : Sq.Mx) (left' : List Nat) (fd' : List ((Nat × Int) × List Nat)) (u1 u2 : Ent) (c : Nat), Sq.Inv W n M0 R' left' fd' ∧ BzM 1000 n Cm' ∧ (Sq.items R' left' = [] ∨ left'.length + k ≤ n) ∧ en = { sl := [.slf, u1, u2], fs := fsOf W n R' Cm' left', fo := fd'.map encF, ct := c }) ⟨R, Cm, left, fdl, .un, .un, 0, I, bC, .inr (inv_len I).2, rfl⟩ (fun k d en1 hd ⟨R', Cm', left', fd', u1, u2, c, I', bC', hm, e1⟩ => ?_) fun en1 ⟨R', Cm', left', fd', u1, u2, c, I', bC', hm, e1⟩ => ?_)
  · subst e1
    refine ⟨_, rfl, ?_⟩
    obtain ⟨lf, ll⟩ := inv_len I'
    refine HT_cons (HS_setD (i := 2) (k := 0) (P := fun d => (d = .none ∧ Sq.items R' left' = []) ∨ ∃ it, d = enc4 it ∧ Sq.Least R' left' it ∧ left'.length + k ≤ n) (HD_meth0 (i := 0) ho hlo S.cls k1 (hr.mono (by decide)) rfl rfl ⟨W, n, R', Cm', left', fd'.map encF, rfl, rfl, by omega, fun i hi => I'.lt hi, rfl, ?_⟩) fun d2 hd2 => ?_)
    · unfold leastD
      cases hi : Sq.items R' left' with
      | nil => exact .inl ⟨rfl, rfl⟩
      | cons x xs =>
        refine .inr ⟨_, rfl, Sq.least_of I'.sym hi, ?_⟩
        rcases hm with z | z
        · rw [hi] at z; cases z
        · exact z
    rcases hd2 with ⟨e2, hi⟩ | ⟨it, e2, hle, hm2⟩
    · subst e2
      refine HT_one (HS_if (HC_notN (HV_var (i := 2) rfl) HV_non ?_))
      rw [show (!isNone .none) = false from rfl, if_neg (by decide)]
      exact HT_nil ⟨R', Cm', left', fd', .dat d, .dat .none, _, I', bC', .inl hi, rfl⟩
    · subst e2
      refine HT_one (HS_if (HC_notN (d := enc4 it) (HV_var (i := 2) rfl) HV_non ?_))
      rw [show (!isNone (enc4 it)) = true from rfl, if_pos rfl]
      cases hle with
      | @sq s p u hp hR hu hd =>
        refine HT_one (HS_if (HC_eqI (HV_ixT (HV_var (i := 2) rfl) HV_int at1) HV_int ?_))
        rw [show decide ((((0 : Nat) : Int)) = 0) = true from rfl, if_pos rfl]
        refine HT_one (HS_meth (i := 0) (ds := [.int (s : Nat), .int (p : Nat)]) ho hlo S.cls k2 hr rfl rfl (HA_cons (HV_ixT (HV_var (i := 2) rfl) HV_int at0) (HA_cons (HV_ixT (HV_var (i := 2) rfl) HV_int at2) HA_nil)) rfl ⟨W, n, M0, R', Cm', left', fd', s, p, u, rfl, rfl, h1, hW, hn, I', bC', hp, hR, hu, hd, fun R2 C2 l2 f2 I2 b2 lt => ?_⟩)
        exact ⟨R2, C2, l2, f2, _, _, _, I2, b2, .inr (by omega), rfl⟩
      | @pr s p q u hp hq hpq hR hu hd hdd =>
        refine HT_one (HS_if (HC_eqI (HV_ixT (HV_var (i := 2) rfl) HV_int at1) HV_int ?_))
        rw [show decide ((((1 : Nat) : Int)) = 0) = false from rfl, if_neg (by decide)]
        refine HT_one (HS_meth (i := 0) (ds := [.int (s : Nat), .int (p : Nat), .int (q : Nat)]) ho hlo S.cls k3 hr rfl rfl (HA_cons (HV_ixT (HV_var (i := 2) rfl) HV_int at0) (HA_cons (HV_ixT (HV_var (i := 2) rfl) HV_int at2) (HA_cons (HV_ixT (HV_var (i := 2) rfl) HV_int at3) HA_nil))) rfl ⟨W, n, M0, R', Cm', left', fd', s, p, q, u, rfl, rfl, h1, hW, hn, I', bC', hp, hq, hpq, hR, hu, hd, hdd, fun R2 C2 l2 f2 I2 b2 lt => ?_⟩)
        exact ⟨R2, C2, l2, f2, _, _, _, I2, b2, .inr (by omega), rfl⟩
  · subst e1
    refine post R' Cm' left' fd' I' bC' ?_
    rcases hm with z | z
    · exact z
    · have : left' = [] := by
        rw [List.length_map, List.length_range] at z
        exact List.eq_nil_of_length_eq_zero (by omega)
      rw [this]; rfl
end
end WS
set_option Elab.async false
set_option linter.all false
set_option maxRecDepth 100000
set_option maxHeartbeats 4000000
set_option autoImplicit false
namespace WS
open PySem PySem.Spec PyProof.Rows L2
theorem alikeF (x y : (Nat × Int) × List Nat) : PySem.W.alike (encF x) (encF y) = true := by
  unfold encF encP
  rw [lD_ints, lD_ints]
  simp only [PySem.W.alike, PySem.W.alikeAll, PySem.W.alike_ints, Bool.and_true, Bool.and_self]
theorem fl_lD (l : List Nat) : Fl 1 (lD l) := fl_list fun d hd => by
  obtain ⟨i, _, rfl⟩ := List.mem_map.mp hd
  exact fl_int _
theorem fl_encP (p : Nat × Int) : Fl 1 (encP p) := fl_tup fun d hd => by
  simp only [List.mem_cons, List.not_mem_nil, or_false] at hd
  rcases hd with e | e <;> subst e <;> exact fl_int _
theorem fl_encF (it : (Nat × Int) × List Nat) : Fl 2 (encF it) := fl_tup fun d hd => by
  simp only [List.mem_cons, List.not_mem_nil, or_false] at hd
  rcases hd with e | e <;> subst e
  · exact fl_encP _
  · exact fl_lD _
theorem lD_app (l m : List Nat) : (l.map fun i : Nat => PyData.int (i : Nat)) ++ (m.map fun i : Nat => PyData.int (i : Nat)) = (l ++ m).map fun i : Nat => PyData.int (i : Nat) := by rw [List.map_append]
theorem map_getD {α : Type} (g : Nat → α) (O : List Nat) : O.map g = (List.range O.length).map fun j => g (O.getD j 0) := by
  apply List.ext_getElem?
  intro j
  rw [List.getElem?_map, List.getElem?_map]
  by_cases h : j < O.length
  · rw [List.getElem?_range h, List.getElem?_eq_getElem h]
    simp [List.getD, List.getElem?_eq_getElem h]
  · rw [List.getElem?_eq_none (by omega), List.getElem?_eq_none (by simpa using h)]; rfl
/-- list(range(n)) -/
theorem HV_listR1 {Z : Ctx} {bs : Bs} {en : En} {a : Expr} {p pos p2 pos2 : Pos} {n : Nat} (hml : Z.mg "list" = none) (hmr : Z.mg "range" = none) (ha : HV Z bs a en (.int (n : Int))) (hn : n ≤ 6)
    (hgl : GlS Z.sc "list" := by rfl) (hgr : GlS Z.sc "range" := by rfl)
    (hs : ∀ i, starEach [a] (Z.X i).env = (false, eval a (Z.X i).env) :: starEach [] (Z.X i).env := by intro _; rfl) (hpl : ∀ i, (backTo pos2 (starEach [] (Z.X i).env)).any (·.1) = false := by intro _; rfl) :
    HV Z bs (.Call (.Name "list" p) [.Call (.Name "range" p2) [a] [] pos2] [] pos) en (lD (List.range n)) := fun σ F H R Q q => by
  refine ⟨fun σ H Q => tAr Z [a] σ H fun vs H1 => vs = [.int (n : Int)] ∧ ∀ q, H1 q = none → Q (.ref q) (upd H1 q (.lst ((List.range n).map fun i => V.int (i : Nat)))), fun i0 => ⟨fun pins s σ H Q I h => ?_⟩, ?_⟩
  · have na : ∀ e, e = Expr.Call (.Name "range" p2) [a] [] pos2 → starEach [e] (Z.X i0).env = (false, eval e (Z.X i0).env) :: starEach [] (Z.X i0).env := fun e h => by subst h; rfl
    refine Call_ (ld_blt I (Ctx.gl hgl i0) (Ctx.mgN hml i0) PyProof.Rows.boot_list (PyProof.Rows.callWith_type1 (args_cons ?_ (na _ rfl)) (na _ rfl)))
    refine Call_ (ld_blt I (Ctx.gl hgr i0) (Ctx.mgN hmr i0) boot_range (PyProof.Rows.callWith_type1 (thn ((pa_tA Z [a] i0).run pos2 pins s σ H _ I h) fun us s1 ⟨vs, H1, I1, r1, q1⟩ => ?_) (hs i0) (hpl i0)))
    obtain ⟨e1, q1⟩ := q1
    subst e1
    cases r1 with
    | cons r rr =>
      cases rr
      obtain ⟨t, rfl⟩ := r
      refine call_range_1 (args_nil ?_)
      have I2 : Inv (Z.X i0) pins σ H1 { s1 with heap := s1.heap.push { cls := .type "range", data := .fields #[.int 0 s1.toks, .int (n : Int) t, .int 1 (s1.toks + 1)] }, toks := s1.toks + 1 + 1 } := I1.kept fun b o e => Heap.get?_push_of_some _ e
      have hsm : Builtin.Range.small 0 (n : Int) 1 = true ∧ Builtin.Range.rangeSize 0 (n : Int) 1 = n := by
        rcases (show n = 0 ∨ n = 1 ∨ n = 2 ∨ n = 3 ∨ n = 4 ∨ n = 5 ∨ n = 6 by omega) with z | z | z | z | z | z | z <;> subst z <;> exact ⟨by decide +kernel, by decide +kernel⟩
      refine call_list_range (n := n) (I2.ok.hd (Z.hc i0)) (IsRange.new ..) hsm.1 hsm.2 (by omega) fun h' tk acc c' hk e' hi => ?_
      have hsz : acc.toList.length = n := by rw [Array.length_toList]; exact hi.1
      have hv : Vals ((List.range n).map fun i => V.int (i : Nat)) acc.toList := by
        rw [← hsz]
        refine vals_of_get acc.toList _ fun m u hm => ?_
        obtain ⟨t, e⟩ := hi.2 m u (by rw [← hm, Array.getElem?_toList])
        exact ⟨t, by rw [e]; congr 1; omega⟩
      refine ⟨.ref _, upd H1 _ (.lst ((List.range n).map fun i => V.int (i : Nat))), I2.laid hk (Nat.le_refl _) (show ObjOk (Z.X i0).prog (Z.X i0).w _ _ _ (.lst ((List.range n).map fun i => V.int (i : Nat))) from ⟨?_, acc.toList, c', hv, ?_⟩), rfl, q1 _ (I2.hok.fresh (Nat.le_refl _))⟩
      · rw [hv.length, hsz]; exact lenOk (by omega)
      · rw [Array.toArray_toList]; exact e'
  · refine (HA_cons ha HA_nil hs) σ F H R _ fun vs ds2 F2 H2 R2 s2 r2 e2 => ?_
    subst e2
    cases r2 with
    | cons r1 r2 =>
      cases r2; cases r1
      refine ⟨rfl, fun p hp => q _ _ _ _ (R2.alloc hp) (s2.trans (R2.galloc hp)) (.lst upd_same ?_) rfl⟩
      have := Rps.of_ints (F := upd F2 p (.lst ((List.range n).map fun i => V.int (i : Nat)))) (ns := (List.range n).map fun i : Nat => (i : Int))
      rw [List.map_map, List.map_map] at this
      exact this
section
variable {P : Program} {w : World} {K : PySem.W.Frag} {mg : Str → Option Value} {base : Heap} {C : Addr}
/-! ### told -/
def W_told : List PyData → OS → (PyData → OS → Prop) → Prop := fun ds so Po => ∃ (W n : Nat) (R Cm : Sq.Mx) (left : List Nat) (fd : List ((Nat × Int) × List Nat)), ds = [] ∧ so = osOf W n R Cm left fd ∧ 1 ≤ W ∧ W ≤ 1000 ∧ 1 ≤ n ∧ n ≤ 6 ∧ fd.length ≤ 6 ∧ (fd.flatMap (·.2) ++ left).Perm (List.range n) ∧ BzM 1000 n Cm ∧
  ∀ (fd' : List ((Nat × Int) × List Nat)) (Cm' : Sq.Mx), fd'.Perm fd → Po (.tuple [encPs (fd'.map (·.1)), mat n Cm']) so
theorem ok_told {f : Addr} {fd : FuncData} (F : Fun K "told" "Splitting.told" (inClass clS 8) f fd) (T : Gs mg) (S : Spl K C) (k1 : KUnit P w K mg base) (k2 : KProd P w K mg base) : FnOk P w K mg base CX0 3 f fd ["self"] (spO 0 C W_told) := by
  refine fn_okO (N := ["self", "order", "units", "piece", "places", "change", "row", "place", "item", "at"]) F ⟨rfl, rfl, rfl, by decide +kernel, rfl, by decide +kernel, by decide +kernel⟩ rfl (by decide) fun cd A outer s0 H E hr bs o l ds so Pd ho hlo hC h hl => ?_
  subst hC
  obtain ⟨W, n, R, Cm, left, fdl, rfl, rfl, h1, hW, h1n, hn, hfl, pm, bC, post⟩ := h
  have hA : PySem.W.AllAlike (fdl.map encF) := .of alikeF
  have hS : PySem.W.Sortable (fdl.map encF) := .tuples fun b => ⟨_, _, rfl⟩
  have hu : ∀ b ∈ fdl, (A.deeper (envOfC "Splitting.told" (defScope (inClass clS 8)) s0.heap.objs.size f cd)).units + 2 + (encF b).depth < cLine := fun b _ => by
    have := Room.un200 hr
    have := (fl_encF b).2
    omega
  obtain ⟨so', hso⟩ : ∃ so', so' = fdl.mergeSort (PySem.W.dataLe false encF) := ⟨_, rfl⟩
  have hp : so'.Perm fdl := by rw [hso]; exact List.mergeSort_perm _ _
  have hsl : so'.length ≤ 6 := by rw [hp.length_eq]; exact hfl
  refine HT_cons (HS_tup2 (i := 1) (j := 2) (d1 := .list []) (d2 := mat n Sq.dlt) (HA_cons (HV_list HA_nil (by decide)) (HA_cons (HNm.he (HNm_call k1 (hr.mono (by decide)) (HA_cons (HV_fld (i := 0) (o := o) (d := .int (n : Int)) ho S.cls S.size rfl rfl) HA_nil) rfl ⟨n, rfl, by omega, rfl⟩)) HA_nil)) ?_)
  have plen : ∀ k, ((so'.take k).flatMap (·.2)).length ≤ n := fun k => by
    have e1 := pm.length_eq
    rw [List.length_append, List.length_range] at e1
    have e2 : (so'.flatMap (·.2)).length = (fdl.flatMap (·.2)).length := (hp.flatMap_right (·.2)).length_eq
    have e3 : (so'.flatMap (·.2)).length = ((so'.take k).flatMap (·.2)).length + ((so'.drop k).flatMap (·.2)).length := by
      rw [← List.length_append, ← List.flatMap_append, List.take_append_drop]
    omega
  have llen : left.length ≤ n := by
    have e1 := pm.length_eq
    rw [List.length_append, List.length_range] at e1
    omega
  refine HT_cons (HS_for (ds := so'.map encF) (vs := [3] ++ ([4] ++ [])) (f := fTup (fCons (fName 3) (fCons (fName 4) fNil))) (HI_list (HV.to (HV_sortedF (i := 0) (cs := fdl) T.sorted ho hlo S.cls S.found rfl rfl hA hS (by omega) hu) (by rw [hso]))) (HG_tup (n := 2) (HGs_cons HG_name (HGs_cons HG_name HGs_nil)) len2) (fun k en => ∃ u3 u4 : Ent, en = { sl := [.slf, .dat (lD ((so'.take k).flatMap (·.2))), .dat (mat n Sq.dlt), u3, u4, .un, .un, .un, .un, .un], fs := fsOf W n R Cm left, fo := fdl.map encF }) ⟨.un, .un, rfl⟩ (fun k d en1 hd ⟨u3, u4, e1⟩ => ?_) fun en1 ⟨u3, u4, e1⟩ => ?_)
  · subst e1
    rw [List.getElem?_map] at hd
    cases hx : so'[k]? with
    | none => rw [hx] at hd; cases hd
    | some it =>
    rw [hx] at hd
    have hd : encF it = d := Option.some.inj hd
    subst hd
    refine ⟨_, ⟨_, rfl, _, _, _, rfl, rfl, _, _, _, rfl, rfl, rfl, rfl⟩, ?_⟩
    have tk : (so'.take (k + 1)).flatMap (·.2) = (so'.take k).flatMap (·.2) ++ it.2 := by
      rw [List.take_add_one, hx, List.flatMap_append]; simp
    have hlen : ((so'.take k).flatMap (·.2)).length + it.2.length ≤ n := by
      have := plen (k + 1)
      rw [tk, List.length_append] at this
      exact this
    refine HT_one (HS_setV (i := 1) (d := lD ((so'.take (k + 1)).flatMap (·.2))) (HV.to (HV_cat (HV_var (i := 1) rfl) (HV_var (i := 4) rfl) (by rw [List.length_map, List.length_map]; omega)) (by rw [lD_app, ← tk]; rfl)) ⟨_, _, rfl⟩)
  subst e1
  rw [List.length_map, List.take_length]
  obtain ⟨O, hO⟩ : ∃ O, O = so'.flatMap (·.2) ++ left := ⟨_, rfl⟩
  have pO : O.Perm (List.range n) := by rw [hO]; exact ((hp.flatMap_right (·.2)).append_right left).trans pm
  have lO : O.length = n := by rw [pO.length_eq, List.length_range]
  have mO : ∀ x ∈ O, x < n := fun x hx => List.mem_range.mp (pO.mem_iff.mp hx)
  refine HT_cons (HS_setV (i := 1) (d := lD O) (HV.to (HV_cat (HV_var (i := 1) rfl) (HV_fld (i := 0) (o := o) (d := lD left) ho S.cls S.left rfl rfl) (by rw [List.length_map, List.length_map]; have := plen so'.length; rw [List.take_length] at this; omega)) (by rw [lD_app, ← hO]; rfl)) ?_)
  have bV : BzM 100000 n (fun i j => Sq.dlt i (O.getD j 0)) := fun i j _ _ => by
    show Bz 100000 (Sq.dlt i (O.getD j 0))
    unfold Sq.dlt; split
    · exact bz1 (by decide)
    · exact bz0 _
  refine HT_cons (HS_setV (i := 5) (d := mat n (pd n Cm fun i j => Sq.dlt i (O.getD j 0))) (HE_call k2 hr (HA_cons (HV_fld (i := 0) (o := o) (d := mat n Cm) ho S.cls S.change rfl rfl) (HA_cons (d := mat n fun i j => Sq.dlt i (O.getD j 0)) ?_ HA_nil)) rfl ⟨n, Cm, _, rfl, h1n, by omega, fun i j hi hj => (bC i j hi hj).mono (by decide), bV, rfl⟩) ?_)
  · rw [mat_eq n fun i j => Sq.dlt i (O.getD j 0)]
    refine HV_lc (xs := List.range n) (c := fun i => PyData.int (i : Nat)) (own := [("place", 7)]) (f := fName 7) (HI_rangeN T.range (HV_fld (i := 0) (o := o) (d := .int (n : Int)) ho S.cls S.size rfl rfl) (by omega)) (blkOk_by (by rfl)) HG_name (fun i hi => ⟨_, rfl, ?_⟩) (by simp; omega)
    have hi : i < n := List.mem_range.mp hi
    have e : PyData.list (rowL n fun j => Sq.dlt i (O.getD j 0)) = .list (O.map fun x => .int (Sq.dlt i x)) := by
      rw [map_getD (fun x => PyData.int (Sq.dlt i x)) O, lO]; rfl
    rw [e]
    exact HV_lc (xs := O) (c := fun x : Nat => PyData.int (x : Nat)) (own := [("at", 9)]) (f := fName 9) (HI_list (HV_var (i := 1) rfl)) (blkOk_by (by rfl)) HG_name (fun x hx => ⟨_, rfl, HV_ixL (HV_ixL (HV.to (HV_var (i := 2) (d := mat n Sq.dlt) rfl) (mat_eq n Sq.dlt)) (HV_var (i := 7) rfl) (matL_at hi Sq.dlt)) (HV_var (i := 9) rfl) (rowL_at (mO x hx) (Sq.dlt i))⟩) (by omega)
  obtain ⟨V, hV⟩ : ∃ V, V = pd n Cm fun i j => Sq.dlt i (O.getD j 0) := ⟨_, rfl⟩
  rw [← hV]
  refine HT_cons (HS_setLc (i := 5) (xs := List.range n) (c := fun i => PyData.list (rowL n (V i))) (h := fun i => PyData.list (rowL n fun j => V i j % 2 ^ W)) (pr := fun _ => true) (own := [("row", 6)]) (f := fName 6) (HI_list (HV.to (HV_var (i := 5) (d := mat n V) rfl) (mat_eq n V))) (blkOk_by (by rfl)) HG_name (fun j => pts_nil) (fun i hi => ⟨_, rfl, tt_yes rfl, fun _ => HV_lc (xs := List.range n) (c := fun j => PyData.int (V i j)) (own := [("item", 8)]) (f := fName 8) (HI_list (HV_var (i := 6) rfl)) (blkOk_by (by rfl)) HG_name (fun j hj => ⟨_, rfl, HV_mod (HV_var (i := 8) rfl) (HV_shl HV_int (HV_fld (i := 0) (o := o) (d := .int (W : Int)) ho S.cls S.width rfl rfl) (by omega)) (Sq.pos2 W)⟩) (by simp; omega)⟩) (by simp; omega) ?_)
  rw [show ((List.range n).filter fun _ => true) = List.range n from List.filter_eq_self.mpr fun _ _ => rfl, ← mat_eq n fun i j => V i j % 2 ^ W]
  refine HT_one (HS_retV (d := .tuple [encPs (so'.map (·.1)), mat n fun i j => V i j % 2 ^ W]) (HV_tup (HA_cons ?_ (HA_cons (HV_var (i := 5) rfl) HA_nil)) (show 2 ≤ 100000 by decide)) (post so' _ hp))
  have e : encPs (so'.map (·.1)) = .list (so'.map fun it => encP it.1) := by unfold encPs; rw [List.map_map]; rfl
  rw [e]
  exact HV_lc (xs := so') (c := encF) (own := [("piece", 3), ("places", 4)]) (f := fTup (fCons (fName 3) (fCons (fName 4) fNil))) (HI_list (HV.to (HV_sortedF (i := 0) (cs := fdl) T.sorted ho hlo S.cls S.found rfl rfl hA hS (by omega) hu) (by rw [hso]))) (blkOk_by (by rfl)) (HG_tup (n := 2) (HGs_cons HG_name (HGs_cons HG_name HGs_nil)) len2) (fun it hit => ⟨_, ⟨_, rfl, _, _, _, rfl, rfl, _, _, _, rfl, rfl, rfl, rfl⟩, HV_var (i := 3) rfl⟩) (by omega)
/-! ### __init__ -/
def W_init : List PyData → (OS → Prop) → Prop := fun ds Po => ∃ (W n : Nat) (M : Sq.Mx), ds = [.int (W : Int), mat n M] ∧ 1 ≤ W ∧ W ≤ 1000 ∧ 1 ≤ n ∧ n ≤ 6 ∧ Po (osOf W n (Sq.tab W M) Sq.dlt (List.range n) [])
theorem ok_init {f : Addr} {fd : FuncData} (F : Fun K "__init__" "Splitting.__init__" (inClass clS 0) f fd) (T : Gs mg) (S : Spl K C) (k1 : KUnit P w K mg base) (k2 : KTable P w K mg base) : FnOk P w K mg base CX0 3 f fd ["self", "width", "form"] (spI 2 C W_init) := by
  refine fn_okI (N := ["self", "width", "form"]) F ⟨rfl, rfl, rfl, by decide +kernel, rfl, by decide +kernel, by decide +kernel⟩ rfl (by decide) fun cd A outer s0 H E hr bs o ds Pd ho hlo hC h hl => ?_
  subst hC
  obtain ⟨W, n, M, rfl, h1, hW, h1n, hn, post⟩ := h
  have hlen : ∀ (d : PyData), d = PyData.int (((List.range n).map fun i => PyData.list (rowL n (M i))).length : Nat) → d = .int (n : Int) := fun d e => by rw [e]; simp
  refine HTI_cons (HS_asgX (P := fun d => d = .tuple [.int (W : Int), .int (n : Int)]) (HV_tup (HA_cons (HV_var (i := 1) rfl) (HA_cons (HV.to (HV_len T.len (HV.to (HV_var (i := 2) (d := mat n M) rfl) (mat_eq n M))) (hlen _ rfl)) HA_nil)) (show 2 ≤ 100000 by decide)) (HGX_tup (n := 2) (HGXs_cons (HGX_fld (i := 0)) (HGXs_cons (HGX_fld (i := 0)) HGXs_nil)) xlen2) fun d hd => ?_)
  subst hd
  refine ⟨_, ⟨_, rfl, _, _, _, rfl, ⟨o, ho, S.cls, S.width, rfl, by show 0 < 900; decide, rfl⟩, _, _, _, rfl, ⟨o, ho, S.cls, S.size, rfl, by show 1 < 900; decide, rfl⟩, rfl, rfl⟩, ?_⟩
  refine HTI_cons (HS_asgX (P := fun d => d = .tuple [mat n (Sq.tab W M), mat n Sq.dlt]) (HV_tup (HA_cons (HE_call k2 hr (HA_cons (HV_var (i := 1) rfl) (HA_cons (HV_var (i := 2) rfl) HA_nil)) rfl ⟨n, W, M, rfl, h1, by omega, h1n, by omega, rfl⟩) (HA_cons (HNm.he (HNm_call k1 (hr.mono (by decide)) (HA_cons (HV.to (HV_len T.len (HV.to (HV_var (i := 2) (d := mat n M) rfl) (mat_eq n M))) (hlen _ rfl)) HA_nil) rfl ⟨n, rfl, by omega, rfl⟩)) HA_nil)) (show 2 ≤ 100000 by decide)) (HGX_tup (n := 2) (HGXs_cons (HGX_fld (i := 0)) (HGXs_cons (HGX_fld (i := 0)) HGXs_nil)) xlen2) fun d hd => ?_)
  subst hd
  refine ⟨_, ⟨_, rfl, _, _, _, rfl, ⟨o, ho, S.cls, S.rows, rfl, by show 2 < 900; decide, rfl⟩, _, _, _, rfl, ⟨o, ho, S.cls, S.change, rfl, by show 3 < 900; decide, rfl⟩, rfl, rfl⟩, ?_⟩
  exact HTI_last (i := 0) (d := lD (List.range n)) ho hlo S.cls S.left S.found rfl (by show 4 < 900; decide) rfl (HV_listR1 T.list T.range (HV.to (HV_len T.len (HV.to (HV_var (i := 2) (d := mat n M) rfl) (mat_eq n M))) (hlen _ rfl)) hn) post rfl
end
end WS
set_option Elab.async false
set_option linter.all false
set_option maxRecDepth 100000
set_option maxHeartbeats 4000000
set_option autoImplicit false
namespace WS
open PySem PySem.Spec PyProof.Rows L2
theorem plain_small {n W : Nat} {M : Sq.Mx} (hW : 8 ≤ W) (hp : Sq.Plain n M) {i j : Nat} (hi : i < n) (hj : j < n) : Sq.tab W M i j = M i j := by
  have key : ∀ (s : Nat) (k : Int), s ≤ 4 → 0 ≤ k → k < 8 → 0 ≤ 2 ^ s * k ∧ 2 ^ s * k < 128 := fun s k h1 h2 h3 => by
    rcases (show s = 0 ∨ s = 1 ∨ s = 2 ∨ s = 3 ∨ s = 4 by omega) with z | z | z | z | z <;> subst z
    · show 0 ≤ 1 * k ∧ 1 * k < 128; omega
    · show 0 ≤ 2 * k ∧ 2 * k < 128; omega
    · show 0 ≤ 4 * k ∧ 4 * k < 128; omega
    · show 0 ≤ 8 * k ∧ 8 * k < 128; omega
    · show 0 ≤ 16 * k ∧ 16 * k < 128; omega
  have fin : 0 ≤ M i j ∧ M i j < 128 → Sq.tab W M i j = M i j := fun h => by
    unfold Sq.tab
    have h7 : (128 : Int) ≤ 2 ^ (W - 1) := Int.le_of_dvd (Sq.pos2 _) (Sq.pdvd (a := 7) (by omega))
    have h8 : (128 : Int) ≤ 2 ^ W := Int.le_of_dvd (Sq.pos2 _) (Sq.pdvd (a := 7) (by omega))
    split <;> exact Int.emod_eq_of_lt h.1 (by omega)
  apply fin
  cases hp i hi with
  | ze a => rw [a j hj]; decide
  | @one s k a b c d e f =>
    by_cases z : j = i
    · subst z; rw [e]; exact key s k a (by omega) d
    · rw [f j hj z]; decide
  | @two q s k a b c d e f g m =>
    by_cases z : j = i
    · subst z; rw [f]; exact key s k c (by omega) (by omega)
    · by_cases z2 : j = q
      · subst z2; rw [e]
        have := key s 1 c (by decide) (by decide)
        rw [Int.mul_one] at this; exact this
      · rw [(m j hj z z2).1]; decide
theorem init_inv {n W : Nat} {M : Sq.Mx} (h1 : 1 ≤ W) (hs : Sym n M) : Sq.Inv W n M (Sq.tab W M) (List.range n) [] where
  i0 := ⟨fun i j hi hj => by
    unfold Sq.tab; rw [hs i j hi hj]
    by_cases e : i = j
    · subst e; rfl
    · rw [if_neg e, if_neg (fun z => e z.symm)], fun i j _ _ => Sq.tab_tab W M i j, fun w hw => Sq.nz_tab hw h1 fun i hi j hj => hs i j (List.mem_range.mp hi) (List.mem_range.mp hj), fun _ h => nomatch h⟩
  pm := List.Perm.refl _
  bd := fun _ h => nomatch h
  pl := fun hp h8 => ⟨fun i hi j hj => plain_small h8 hp (List.mem_range.mp hi) hj, fun _ h => nomatch h⟩
section
variable {Z : Ctx} {bs : Bs} {en : En} {a b e : Expr} {pos : Pos} {P : PyData → Prop}
theorem HE_ix0 {Pa : PyData → Prop} (ha : HE Z bs a en fun d => ∃ x r, d = .tuple (x :: r) ∧ P x) (hb : HV Z bs b en (.int 0)) (hs : PlainIx b := by intro _ _; rfl) : HE Z bs (.Subscript a b pos) en P := by
  refine HE_two (fun i ta tb pa pb => pe_ix (ixT i) pa pb hs) ha hb fun x y dx dy F H σ Q R rx ry px py q => ?_
  obtain ⟨d, r, rfl, pd⟩ := px
  subst py
  cases ry
  cases rx with
  | tup h1 h2 =>
    obtain ⟨v, e1, e2⟩ := atI_rp h2 (at0 (x := d) (xs := r))
    exact ⟨_, _, _, v, rfl, rfl, SqT.of (R.fh _ _ h1), e1, q _ _ F H R R.gid e2 pd⟩
theorem HE_bitsP {p : Int → Prop} {apos : Pos} (ha : HE Z bs e en (IsI p)) (h : ∀ i, p i → P (.int (Builtin.Int.intBits i : Nat))) (hbase : ∀ i, attributeBase e "bit_length" (Z.X i).env (eval e (Z.X i).env) = eval e (Z.X i).env := by intro _; rfl) (hline : (apos.endLine == pos.line) = true := by rfl) : HE Z bs (.Call (.Attribute e "bit_length" apos) [] [] pos) en P := fun σ F H R Q q =>
  ⟨_, fun i => pe_bits (pe_tE Z e i) (hbase i) hline, ha σ F H R _ fun v d F' H' R' s r ed => by
    obtain ⟨i, rfl, pi⟩ := ed
    cases r
    exact ⟨_, rfl, q _ _ F' H' R' s (.int _) (h i pi)⟩⟩
end
section
variable {P : Program} {w : World} {K : PySem.W.Frag} {mg : Str → Option Value} {base : Heap} {C : Addr}
/-! ### way_of -/
def W_way : List PyData → (PyData → Prop) → Prop := fun ds P => ∃ (W n : Nat) (M : Sq.Mx), ds = [.int (W : Int), mat n M] ∧ 1 ≤ W ∧ W ≤ 1000 ∧ 1 ≤ n ∧ n ≤ 6 ∧ Sym n M ∧ ∀ (ps : List (Nat × Int)) (Cm : Sq.Mx), Sq.Tell W n M ps → ps.length ≤ 6 → P (.tuple [encPs ps, mat n Cm])
theorem ok_way {f : Addr} {fd : FuncData} (F : Fun K "way_of" "way_of" (topS 32) f fd) (T : Gs mg) (S : Spl K C) (k1 : KnC P w K mg base "Splitting" C 3 (spI 2 C W_init)) (k2 : KMeth P w K mg base C "walk" 6 0 W_walk) (k3 : KMeth P w K mg base C "told" 3 0 W_told) : FnOk P w K mg base CX0 7 f fd ["width", "form"] (spF 2 W_way) := by
  refine fn_ok (N := ["width", "form", "splitting"]) F ⟨rfl, rfl, rfl, by decide +kernel, rfl, by decide +kernel, by decide +kernel⟩ rfl fun cd A outer s H E hr bs ds Pd hg ho h hl => ?_
  obtain ⟨W, n, M, rfl, h1, hW, h1n, hn, hs, p⟩ := h
  refine HT_make (i := 2) (PS := fun st => st = osOf W n (Sq.tab W M) Sq.dlt (List.range n) []) k1 (hr.mono (by decide)) (HA_cons (HV_var (i := 0) rfl) (HA_cons (HV_var (i := 1) rfl) HA_nil)) rfl ⟨W, n, M, rfl, h1, hW, h1n, hn, rfl⟩ hg rfl rfl (by show 2 < 3; decide) (fun b' o l st' ho' hlo hC hst => ?_) (fun _ _ _ h => h) ho
  subst hst hC
  have b1 : BzM 1000 n Sq.dlt := fun i j _ _ => by
    unfold Sq.dlt; split
    · exact bz1 (by decide)
    · exact bz0 _
  refine HT_cons (HS_meth0 (i := 2) ho' hlo S.cls k2 hr rfl rfl ⟨W, n, M, _, Sq.dlt, List.range n, [], rfl, rfl, h1, hW, hn, init_inv h1 hs, b1, fun R' Cm' left' fd' I' bC' hi => ?_⟩)
  obtain ⟨lf, ll⟩ := inv_len I'
  refine HT_one (HS_retD (k := 0) (P := Pd) (HD_meth0 (i := 2) ho' hlo S.cls k3 (hr.mono (by decide)) rfl rfl ⟨W, n, R', Cm', left', fd', rfl, rfl, h1, hW, h1n, hn, by omega, I'.pm, bC', fun fd2 Cm2 hp2 => ⟨rfl, p _ Cm2 (I'.tell hs (Sq.none_left I'.sym hi) hp2) ?_⟩⟩) fun d hd => hd)
  rw [List.length_map, hp2.length_eq]; omega
abbrev KWay (P : Program) (w : World) (K : PySem.W.Frag) (mg : Str → Option Value) (base : Heap) : Prop := Kn P w K mg base "way_of" 7 (spF 2 W_way)
end
end WS
set_option Elab.async false
set_option linter.all false
set_option maxRecDepth 100000
set_option maxHeartbeats 4000000
set_option autoImplicit false
namespace WS
open PySem PySem.Spec PyProof.Rows L2
theorem lc2_first {Z : Ctx} {tg : Expr} {i j : Nat} (h : HG Z tg [i] (fName i)) : HG Z tg [i, j] (fName i) := by
  obtain ⟨g, h1, h2⟩ := h
  refine ⟨g, h1, fun b en σ F H v d en' R r e Q q => h2 b en σ F H v d en' R r e Q fun σ' R' k l => q σ' R' (fun m hm => k m fun z => hm ?_) l⟩
  rw [List.mem_singleton] at z
  rw [z]; exact List.mem_cons_self
section
variable {P : Program} {w : World} {K : PySem.W.Frag} {mg : Str → Option Value} {base : Heap} {C : Addr}
/-! ### every_pieces -/
def W_every : List PyData → (PyData → Prop) → Prop := fun ds P => ∃ (n : Nat) (M : Sq.Mx), ds = [mat n M] ∧ 1 ≤ n ∧ n ≤ 6 ∧ Sym n M ∧ BzM 140 n M ∧ ∀ (ps : List (Nat × Int)) (W : Nat), 16 ≤ W → W ≤ 1000 → Sq.Tell W n M ps → ps.length ≤ 6 → P (encPs ps)
theorem ok_every {f : Addr} {fd : FuncData} (F : Fun K "every_pieces" "every_pieces" (topS 33) f fd) (T : Gs mg) (k1 : KWay P w K mg base) : FnOk P w K mg base CX0 8 f fd ["form"] (spF 1 W_every) := by
  refine fn_ok (N := ["form", "wide", "row", "item"]) F ⟨rfl, rfl, rfl, by decide +kernel, rfl, by decide +kernel, by decide +kernel⟩ rfl fun cd A outer s H E hr bs ds Pd hg ho h hl => ?_
  obtain ⟨n, M, rfl, h1, hn, hs, hB, p⟩ := h
  have habs : ∀ x : Int, Bz 140 x → Bz 140 (if x < 0 then -x else x) := fun x hx => by
    unfold Bz at *
    split <;> omega
  have hnn : ∀ x : Int, 0 ≤ (if x < 0 then -x else x) := fun x => by split <;> omega
  refine HT_cons (HS_set (i := 1) (P := fun d => ∃ b : Nat, b ≤ 140 ∧ d = .int (b : Nat)) (HE_bitsP (p := fun x => Bz 140 x) (HE_maxL (ns := (List.range n).flatMap fun i => ((List.range n).map (M i)).map fun x => if x < 0 then -x else x) T.max ?_ ?_ fun m hm _ => ⟨m, rfl, ?_⟩) fun i hi => ⟨_, intBits_le_iff.mpr hi, rfl⟩) fun d hd => ?_)
  · have e : ((List.range n).flatMap fun i => ((List.range n).map (M i)).map fun x => if x < 0 then -x else x).map PyData.int = (List.range n).flatMap fun i => ((List.range n).map (M i)).map fun x => PyData.int (if x < 0 then -x else x) := by
      rw [List.map_flatMap]
      congr 1
      funext i
      rw [List.map_map]; rfl
    rw [e]
    refine HV_lc2 (xs := List.range n) (ys := fun i => (List.range n).map (M i)) (c := fun i => PyData.list (rowL n (M i))) (d := PyData.int) (h := fun _ x => PyData.int (if x < 0 then -x else x)) (own := [("row", 2), ("item", 3)]) (f := fName 2) (f1 := fName 3) (vs1 := [3]) (HI_list (HV.to (HV_var (i := 0) (d := mat n M) rfl) (mat_eq n M))) (blkOk_by (by rfl)) (lc2_first HG_name) (HG_name (i := 3)) (by decide) (fun i hi => ⟨_, rfl, rfl, ?_, ?_⟩) ?_
    · refine HI_list (HV.to (HV_var (i := 2) rfl) ?_)
      unfold rowL
      rw [List.map_map]; rfl
    · intro x hx
      exact ⟨_, rfl, HV_abs T.abs (HV_var (i := 3) rfl)⟩
    · rw [List.length_flatMap]
      have : ((List.range n).map fun i => (((List.range n).map (M i)).map fun x => PyData.int (if x < 0 then -x else x)).length) = List.replicate n n := by
        apply List.ext_getElem?
        intro j
        rw [List.getElem?_map, List.getElem?_replicate]
        by_cases h : j < n
        · rw [List.getElem?_range h, if_pos h]; simp
        · rw [List.getElem?_eq_none (by simpa using h), if_neg h]; rfl
      rw [this, List.sum_replicate_nat]
      have : n * n ≤ 6 * 6 := Nat.mul_le_mul hn hn
      omega
  · rw [List.length_flatMap]
    have : n ≠ 0 := by omega
    cases n with
    | zero => omega
    | succ n =>
      rw [List.range_succ_eq_map, List.map_cons, List.sum_cons]
      simp
      omega
  · obtain ⟨i, hi, h2⟩ := List.mem_flatMap.mp hm
    obtain ⟨x, hx, e⟩ := List.mem_map.mp h2
    obtain ⟨j, hj, e2⟩ := List.mem_map.mp hx
    rw [← e, ← e2]
    exact habs _ (hB i j (List.mem_range.mp hi) (List.mem_range.mp hj))
  obtain ⟨b, hb, rfl⟩ := hd
  have hlen : ∀ (d : PyData), d = PyData.int (((List.range n).map fun i => PyData.list (rowL n (M i))).length : Nat) → d = .int (n : Int) := fun d e => by rw [e]; simp
  have hW : n * (b + 2) ≤ 6 * 142 := Nat.mul_le_mul hn (by omega)
  refine HT_one (HS_ret (P := Pd) (HE_ix0 (Pa := fun _ => True) (HE_call k1 hr (HA_cons (d := .int ((n * (b + 2) + 16 : Nat) : Int)) (HV.to (HV_add (HV_mulS (HV.to (HV_len T.len (HV.to (HV_var (i := 0) (d := mat n M) rfl) (mat_eq n M))) (hlen _ rfl)) (HV_add (HV_var (i := 1) rfl) HV_int) (by omega)) HV_int) ?_) (HA_cons (HV_var (i := 0) rfl) HA_nil)) rfl ⟨n * (b + 2) + 16, n, M, rfl, by omega, by omega, h1, hn, hs, fun ps Cm tl lp => ⟨_, _, rfl, p ps _ (by omega) (by omega) tl lp⟩⟩) HV_int) fun d hd => hd)
  congr 1
abbrev KEvery (P : Program) (w : World) (K : PySem.W.Frag) (mg : Str → Option Value) (base : Heap) : Prop := Kn P w K mg base "every_pieces" 8 (spF 1 W_every)
end
end WS
set_option Elab.async false
set_option linter.all false
set_option maxRecDepth 100000
set_option maxHeartbeats 4000000
set_option autoImplicit false
namespace WS
open PySem PySem.Spec PyProof.Rows L2
def encO : Option (Int × Int) → PyData
  | none => .none
  | some (h, t) => .tuple [.int h, .int t]
section
variable {P : Program} {w : World} {K : PySem.W.Frag} {mg : Str → Option Value} {base : Heap} {C : Addr}
/-! ### piece_part -/
def W_ppart : List PyData → (PyData → Prop) → Prop := fun ds P => ∃ (w m : Nat) (o : Int) (p : Nat × Int), ds = [.int (w : Int), .int (m : Int), .int o, encP p] ∧ Bz 20 o ∧ 0 ≤ p.2 ∧ p.2 < 8 ∧ P (encO (Sq.ppart w m o p))
theorem ok_ppart {f : Addr} {fd : FuncData} (F : Fun K "piece_part" "piece_part" (topS 35) f fd) (T : Gs mg) : FnOk P w K mg base CX0 1 f fd ["width", "many", "odd", "piece"] (spF 4 W_ppart) := by
  refine fn_ok (N := ["width", "many", "odd", "piece", "scale", "kind", "left"]) F ⟨rfl, rfl, rfl, by decide +kernel, rfl, by decide +kernel, by decide +kernel⟩ rfl fun cd A outer s H E hr bs ds Pd hg ho h hl => ?_
  obtain ⟨w, m, od, ⟨s, k⟩, rfl, bo, k0, k8, p⟩ := h
  unfold Sq.ppart at p
  simp only at k0 k8 p
  have bk : Bz 3 k := Bz.of_lt k0 k8
  refine HT_cons (HS_asg (P := fun d => d = encP (s, k)) (HV_var (i := 3) rfl) (HG_tup (n := 2) (HGs_cons (HG_name (i := 4)) (HGs_cons (HG_name (i := 5)) HGs_nil)) len2) fun d e => ⟨_, ⟨_, e, _, _, _, rfl, rfl, _, _, _, rfl, rfl, rfl, rfl⟩, ?_⟩)
  refine HT_cons (HS_if (HC_eqI (HV_mod (HV_var (i := 5) rfl) HV_int (by decide)) HV_int ?_))
  by_cases e : k % 2 = 0
  · rw [if_pos e] at p
    rw [decide_eq_true e, if_pos rfl]
    refine HT_cons (HS_setV (i := 6) (d := .int (max ((m : Int) - s - 1) 0)) (HV_max2 T.max (HV_sub (HV_sub (HV_var (i := 1) rfl) (HV_var (i := 4) rfl)) HV_int) HV_int) ?_)
    generalize max ((m : Int) - s - 1) 0 = lf at p ⊢
    refine HT_one (HS_retV (HV_tup (HA_cons (HV_sub (HV_mulS HV_int (HV_var (i := 0) rfl) (by decide)) (HV_mulS HV_int (HV_var (i := 6) rfl) (by decide))) (HA_cons (HV_if (k := decide (k = 2 ∧ lf % 2 = 1)) (d1 := .int 4) (d2 := .int 0) (HW.hc (HW_and (HC_eqI (HV_var (i := 5) rfl) HV_int ?_))) (fun _ => HV_int) (fun _ => HV_int)) HA_nil)) (show 2 ≤ 100000 by decide)) ?_)
    · by_cases z : k = 2
      · rw [decide_eq_true z, if_pos rfl]
        refine HW_and1 (HC_eqI (HV_mod (HV_var (i := 6) rfl) HV_int (by decide)) HV_int ?_)
        by_cases y : lf % 2 = 1
        · rw [decide_eq_true y, decide_eq_true ⟨z, y⟩]
        · rw [decide_eq_false y, decide_eq_false (fun x => y x.2)]
      · rw [decide_eq_false z, if_neg (by decide), decide_eq_false (fun x => z x.1)]
    · have : encO (some (4 * (w : Int) - 2 * lf, if k = 2 ∧ lf % 2 = 1 then 4 else 0)) = .tuple [.int (4 * w - 2 * lf), if decide (k = 2 ∧ lf % 2 = 1) = true then .int 4 else .int 0] := by
        unfold encO
        by_cases y : k = 2 ∧ lf % 2 = 1
        · rw [if_pos y, decide_eq_true y, if_pos rfl]
        · rw [if_neg y, decide_eq_false y, if_neg (by decide)]
      rw [this] at p; exact p
  · rw [if_neg e] at p
    rw [decide_eq_false e, if_neg (by decide)]
    refine HT_nil ?_
    refine HT_cons (HS_setV (i := 6) (HV_sub (HV_var (i := 1) rfl) (HV_var (i := 4) rfl)) ?_)
    generalize (m : Int) - s = lf at p ⊢
    refine HT_cons (HS_if (HC_eqI (HV_var (i := 6) rfl) HV_int ?_))
    by_cases e1 : lf = 1
    · rw [if_pos e1] at p
      rw [decide_eq_true e1, if_pos rfl]
      exact HT_one (HS_retV HV_non p)
    · rw [if_neg e1] at p
      rw [decide_eq_false e1, if_neg (by decide)]
      refine HT_nil ?_
      refine HT_cons (HS_if (HC_le (HV_var (i := 6) rfl) HV_int ?_))
      by_cases e2 : lf ≤ 0
      · rw [if_pos e2] at p
        rw [decide_eq_true e2, if_pos rfl]
        exact HT_one (HS_retV (HV_tup (HA_cons (HV_mulS HV_int (HV_var (i := 0) rfl) (by decide)) (HA_cons HV_int HA_nil)) (show 2 ≤ 100000 by decide)) p)
      · rw [if_neg e2] at p
        rw [decide_eq_false e2, if_neg (by decide)]
        refine HT_nil ?_
        refine HT_one (HS_retV (HV_tup (HA_cons (HV_add (HV_sub (HV_mulS HV_int (HV_var (i := 0) rfl) (by decide)) (HV_var (i := 6) rfl)) HV_int) (HA_cons (HV_if (k := decide (lf % 2 = 1)) (d1 := .int (k * od)) (d2 := .int (2 - k * od % 4)) (HC_eqI (HV_mod (HV_var (i := 6) rfl) HV_int (by decide)) HV_int rfl) (fun _ => HV_mul (HV_var (i := 5) rfl) (HV_var (i := 2) rfl) bk.sm bo.sm) (fun _ => HV_sub HV_int (HV_mod (HV_mul (HV_var (i := 5) rfl) (HV_var (i := 2) rfl) bk.sm bo.sm) HV_int (by decide)))) HA_nil)) (show 2 ≤ 100000 by decide)) ?_)
        have : encO (some (2 * (w : Int) - lf + 1, if lf % 2 = 1 then k * od else 2 - k * od % 4)) = .tuple [.int (2 * w - lf + 1), if decide (lf % 2 = 1) = true then .int (k * od) else .int (2 - k * od % 4)] := by
          unfold encO
          by_cases y : lf % 2 = 1
          · rw [if_pos y, decide_eq_true y, if_pos rfl]
          · rw [if_neg y, decide_eq_false y, if_neg (by decide)]
        rw [this] at p; exact p
abbrev KPpart (P : Program) (w : World) (K : PySem.W.Frag) (mg : Str → Option Value) (base : Heap) : Prop := Kn P w K mg base "piece_part" 1 (spF 4 W_ppart)
/-! ### whole_part -/
def tsOf (h t : Int) : List Int := if h % 2 = 0 then [t] else [t + 1, t - 1]
theorem ts_sum (h t : Int) : (((tsOf h t).filter fun m => decide (m % 4 = 0)).map fun m => 1 - m % 8 / 2).sum = if h % 2 = 0 then Sq.wp1 t else Sq.wp1 (t + 1) + Sq.wp1 (t - 1) := by
  have one : ∀ (x : Int) (l : List Int), (((x :: l).filter fun m => decide (m % 4 = 0)).map fun m => 1 - m % 8 / 2).sum = Sq.wp1 x + ((l.filter fun m => decide (m % 4 = 0)).map fun m => 1 - m % 8 / 2).sum := fun x l => by
    unfold Sq.wp1
    by_cases z : x % 4 = 0
    · rw [List.filter_cons, if_pos (decide_eq_true z), if_pos z, List.map_cons, List.sum_cons]
    · rw [List.filter_cons, if_neg (by rw [decide_eq_false z]; decide), if_neg z]; omega
  unfold tsOf
  by_cases e : h % 2 = 0
  · rw [if_pos e, if_pos e, one]; show _ + 0 = _; omega
  · rw [if_neg e, if_neg e, one, one]; show _ + (_ + 0) = _; omega
theorem wp1_b (t : Int) : -1 ≤ Sq.wp1 t ∧ Sq.wp1 t ≤ 1 := by
  unfold Sq.wp1
  split <;> omega
def W_wpart : List PyData → (PyData → Prop) → Prop := fun ds P => ∃ h t : Int, ds = [.int h, .int t] ∧ 0 ≤ h ∧ h ≤ 20000 ∧ P (.int (Sq.wholePart h t))
theorem ok_wpart {f : Addr} {fd : FuncData} (F : Fun K "whole_part" "whole_part" (topS 36) f fd) (T : Gs mg) (k1 : KPow P w K mg base) : FnOk P w K mg base CX0 2 f fd ["half", "turn"] (spF 2 W_wpart) := by
  refine fn_ok (N := ["half", "turn", "turns", "many"]) F ⟨rfl, rfl, rfl, by decide +kernel, rfl, by decide +kernel, by decide +kernel⟩ rfl fun cd A outer s H E hr bs ds Pd hg ho h hl => ?_
  obtain ⟨hh, t, rfl, h0, h1, p⟩ := h
  refine HT_cons (HS_setV (i := 2) (d := dI (tsOf hh t)) (HV.to (HV_if (k := decide (hh % 2 = 0)) (d1 := dI [t]) (d2 := dI [t + 1, t - 1]) (HC_eqI (HV_mod (HV_var (i := 0) rfl) HV_int (by decide)) HV_int rfl) (fun _ => HV_list (HA_cons (HV_var (i := 1) rfl) HA_nil) (show 1 ≤ 100000 by decide)) (fun _ => HV_list (HA_cons (HV_add (HV_var (i := 1) rfl) HV_int) (HA_cons (HV_sub (HV_var (i := 1) rfl) HV_int) HA_nil)) (show 2 ≤ 100000 by decide))) ?_) ?_)
  · unfold tsOf
    by_cases e : hh % 2 = 0
    · rw [decide_eq_true e, if_pos rfl, if_pos e]
    · rw [decide_eq_false e, if_neg (by decide), if_neg e]
  have hb : Bz 2 (((tsOf hh t).filter fun m => decide (m % 4 = 0)).map fun m => 1 - m % 8 / 2).sum := by
    rw [ts_sum]
    have a := wp1_b t
    have b := wp1_b (t + 1)
    have c := wp1_b (t - 1)
    unfold Bz
    split <;> (show _ < 4; omega)
  have hpw : Bz 10001 (2 ^ (hh / 2).toNat) := Bz.of_lt (by have := Sq.pos2 (hh / 2).toNat; omega) (by
    have h2 : (2 : Int) ^ ((hh / 2).toNat + 1) ≤ 2 ^ 10001 := Int.le_of_dvd (Sq.pos2 _) (Sq.pdvd (by omega))
    rw [Sq.pw1] at h2
    have := Sq.pos2 (hh / 2).toNat
    omega)
  refine HT_one (HS_retV (HV_mul (HE_call k1 hr (HA_cons (HV.to (HV_div (HV_var (i := 0) rfl) HV_int (by decide) (by decide)) (show PyData.int (hh / 2) = .int ((hh / 2).toNat : Nat) by congr 1; omega)) HA_nil) rfl ⟨_, rfl, by omega, rfl⟩) (HV_sum (ns := ((tsOf hh t).filter fun m => decide (m % 4 = 0)).map fun m => 1 - m % 8 / 2) T.sum ?_) hpw.sm hb.sm) ?_)
  · rw [List.map_map]
    exact HV_lcIf (xs := tsOf hh t) (c := PyData.int) (pr := fun m => decide (m % 4 = 0)) (own := [("many", 3)]) (f := fName 3) (HI_list (HV_var (i := 2) rfl)) (blkOk_by (by rfl)) HG_name (fun m hm => ⟨_, rfl, HC_eqI (HV_mod (HV_var (i := 3) rfl) HV_int (by decide)) HV_int rfl, fun _ => HV_sub HV_int (HV_div (HV_mod (HV_var (i := 3) rfl) HV_int (by decide)) HV_int (by decide) (by decide))⟩) (by unfold tsOf; split <;> simp)
  · rw [ts_sum]; exact p
abbrev KWpart (P : Program) (w : World) (K : PySem.W.Frag) (mg : Str → Option Value) (base : Heap) : Prop := Kn P w K mg base "whole_part" 2 (spF 2 W_wpart)
end
end WS
set_option Elab.async false
set_option linter.all false
set_option maxRecDepth 100000
set_option maxHeartbeats 4000000
set_option autoImplicit false
namespace WS
open PySem PySem.Spec PyProof.Rows L2
def encE (e : Nat × Int × Int × Int) : PyData := .tuple [.int (e.1 : Nat), .int e.2.1, .int e.2.2.1, .int e.2.2.2]
def cntO (m : Nat) : Nat := if m = 1 then 1 else if m = 2 then 2 else 4
theorem rg_odds {m : Nat} (h : m ≠ 0) : RgC 1 (min (2 ^ m) 8) 2 (cntO m) ∧ rgC 1 2 (cntO m) = Sq.oddsOf m := by
  unfold cntO Sq.oddsOf
  rw [if_neg h]
  by_cases h1 : m = 1
  · subst h1; rw [if_pos rfl, if_pos rfl]; exact ⟨⟨by decide, by decide, by decide +kernel, by decide +kernel⟩, rfl⟩
  · rw [if_neg h1, if_neg h1]
    by_cases h2 : m = 2
    · subst h2; rw [if_pos rfl, if_pos rfl]; exact ⟨⟨by decide, by decide, by decide +kernel, by decide +kernel⟩, rfl⟩
    · rw [if_neg h2, if_neg h2]
      have h8 : (8 : Int) ≤ 2 ^ m := Int.le_of_dvd (Sq.pos2 m) (Sq.pdvd (a := 3) (by omega))
      rw [show min ((2 : Int) ^ m) 8 = 8 by omega]
      exact ⟨⟨by decide, by decide, by decide +kernel, by decide +kernel⟩, rfl⟩
theorem odds_small {m : Nat} {o : Int} (h : o ∈ Sq.oddsOf m) : 0 ≤ o ∧ o < 8 := by
  unfold Sq.oddsOf at h
  split at h
  · simp at h; omega
  · split at h
    · simp at h; omega
    · split at h
      · simp at h; omega
      · simp at h; omega
theorem odds_len (m : Nat) : (Sq.oddsOf m).length ≤ 4 := by
  unfold Sq.oddsOf
  split
  · decide
  · split
    · decide
    · split <;> decide
abbrev encT (q : Int × Int) : PyData := .tuple [.int q.1, .int q.2]
theorem some_parts : ∀ {l : List (Option (Int × Int))}, Sq.allSome l = true → l.map encO = (l.filterMap id).map encT
  | [], _ => rfl
  | none :: l, h => by unfold Sq.allSome at h; simp at h
  | some q :: l, h => by
    have h' : Sq.allSome l = true := by unfold Sq.allSome at *; simpa using h
    rw [List.map_cons, some_parts h']; rfl
theorem none_filter : ∀ (l : List (Option (Int × Int))), (l.filter fun o => o.isNone) = [] ↔ Sq.allSome l = true
  | [] => by simp [Sq.allSome]
  | none :: l => by simp [Sq.allSome]
  | some q :: l => by
    have := none_filter l
    unfold Sq.allSome at *
    simpa using this
theorem fl_encO (o : Option (Int × Int)) : Fl 1 (encO o) := by
  cases o with
  | none => exact ⟨rfl, by show PyData.depth .none ≤ 1; simp [PyData.depth]⟩
  | some q =>
    refine fl_tup fun d hd => ?_
    simp only [List.mem_cons, List.not_mem_nil, or_false] at hd
    rcases hd with e | e <;> subst e <;> exact fl_int _
theorem isNone_encO (o : Option (Int × Int)) : isNone (encO o) = o.isNone := by cases o <;> rfl
def pfx (w : Nat) (ps : List (Nat × Int)) (n : Int) (k : Nat) : List (Nat × Int × Int × Int) := (List.range k).flatMap fun m => (Sq.oddsOf m).flatMap fun o => Sq.entry w ps n m o
theorem entry_len (w : Nat) (ps : List (Nat × Int)) (n : Int) (m : Nat) (o : Int) : (Sq.entry w ps n m o).length ≤ 1 := by
  unfold Sq.entry; split <;> simp
theorem fm_len {α β : Type} (f : α → List β) (c : Nat) (h : ∀ a, (f a).length ≤ c) : ∀ l : List α, (l.flatMap f).length ≤ l.length * c
  | [] => by simp
  | a :: l => by
    have := fm_len f c h l
    have := h a
    rw [List.flatMap_cons, List.length_append, List.length_cons, Nat.add_mul]
    omega
theorem pfx_len (w : Nat) (ps : List (Nat × Int)) (n : Int) (k : Nat) : (pfx w ps n k).length ≤ k * 4 := by
  have := fm_len (fun m => (Sq.oddsOf m).flatMap fun o => Sq.entry w ps n m o) 4 (fun m => by
    have h1 := fm_len (fun o => Sq.entry w ps n m o) 1 (entry_len w ps n m) (Sq.oddsOf m)
    have h2 := odds_len m
    omega) (List.range k)
  rw [List.length_range] at this
  exact this
section
variable {P : Program} {w : World} {K : PySem.W.Frag} {mg : Str → Option Value} {base : Heap} {C : Addr}
def W_tbl : List PyData → (PyData → Prop) → Prop := fun ds P => ∃ (w n last : Nat) (ps : List (Nat × Int)), ds = [.int (w : Int), encPs ps, .int (n : Int), .int (last : Int)] ∧ w ≤ 100 ∧ last ≤ 100 ∧ ps.length ≤ 6 ∧ (∀ p ∈ ps, 0 ≤ p.2 ∧ p.2 < 8) ∧ P (.list ((Sq.tbl w ps n last).map encE))
theorem ok_tbl {f : Addr} {fd : FuncData} (F : Fun K "turns_table" "turns_table" (topS 37) f fd) (T : Gs mg) (k1 : KSize P w K mg base) (k2 : KPow P w K mg base) (k3 : KPpart P w K mg base) : FnOk P w K mg base CX0 2 f fd ["width", "pieces", "size", "last"] (spF 4 W_tbl) := by
  refine fn_ok (N := ["width", "pieces", "size", "last", "found", "free", "many", "odds", "odd", "parts", "half", "turn", "piece", "part"]) F ⟨rfl, rfl, rfl, by decide +kernel, rfl, by decide +kernel, by decide +kernel⟩ rfl fun cd A outer s H E hr bs ds Pd hg ho h hl => ?_
  obtain ⟨w, n, last, ps, rfl, hw, hlast, hps, hk, p⟩ := h
  refine HT_cons (HS_nilPar (i := 4) (j := 5) (d2 := .int (2 * w * (n - Sq.psize ps))) (HV_mulS (HV_mulS HV_int (HV_var (i := 0) rfl) (by decide)) (HV_sub (HV_var (i := 2) rfl) (HE_call k1 hr (HA_cons (HV_var (i := 1) rfl) HA_nil) rfl ⟨ps, rfl, by omega, rfl⟩)) (by omega)) fun a => ?_)
  refine HT_cons (HS_for (ds := (List.range (last + 1)).map fun i => PyData.int (i : Nat)) (vs := [6]) (f := fName 6) (HI_rangeN T.range (HV.to (HV_add (HV_var (i := 3) rfl) HV_int) (show PyData.int ((last : Int) + 1) = .int ((last + 1 : Nat) : Int) from rfl)) (by omega)) (HG_name (i := 6)) (fun k en => ∃ u6 u7 u8 u9 u10 u11 : Ent, noOwn [u6, u7, u8, u9, u10, u11] = true ∧ en = { sl := [.dat (.int (w : Int)), .dat (encPs ps), .dat (.int (n : Int)), .dat (.int (last : Int)), .own, .dat (.int (2 * w * (n - Sq.psize ps))), u6, u7, u8, u9, u10, u11, .un, .un], ow := .lst a ((pfx w ps n k).map encE) }) ⟨.un, .un, .un, .un, .un, .un, rfl, rfl⟩ (fun k d en1 hd ⟨u6, u7, u8, u9, u10, u11, hno, e1⟩ => ?_) fun en1 ⟨u6, u7, u8, u9, u10, u11, hno, e1⟩ => ?_)
  · subst e1
    have hkl : k < last + 1 := by
      have := (List.getElem?_eq_some_iff.mp hd).1
      simpa using this
    rw [List.getElem?_map, List.getElem?_range hkl] at hd
    have hd : PyData.int (k : Nat) = d := Option.some.inj hd
    subst hd
    refine ⟨_, rfl, ?_⟩
    have tk : pfx w ps n (k + 1) = pfx w ps n k ++ (Sq.oddsOf k).flatMap fun o => Sq.entry w ps n k o := by
      unfold pfx
      rw [List.range_succ, List.flatMap_append]; simp
    refine HT_cons (HS_setV (i := 7) (d := dI (Sq.oddsOf k)) (HV.to (HV_if (k := decide (k = 0)) (d1 := dI [0]) (d2 := dI (rgC 1 2 (cntO k))) (HC_eqI (HV_var (i := 6) rfl) HV_int ?_) (fun _ => HV_list (HA_cons HV_int HA_nil) (show 1 ≤ 100000 by decide)) (fun z => HV_listRg T.list T.range HV_int (HV_min2 T.min (HE_call k2 hr (HA_cons (HV_var (i := 6) rfl) HA_nil) rfl ⟨k, rfl, by omega, rfl⟩) HV_int) HV_int (rg_odds (fun y => by rw [decide_eq_true y] at z; cases z)).1 ?_)) ?_) ?_)
    · by_cases z : k = 0
      · rw [decide_eq_true z, decide_eq_true (by omega)]
      · rw [decide_eq_false z, decide_eq_false (by omega)]
    · unfold cntO; split
      · decide
      · split <;> decide
    · by_cases z : k = 0
      · subst z; rfl
      · rw [decide_eq_false z, if_neg (by decide), (rg_odds z).2]
    refine HT_one (HS_for (ds := (Sq.oddsOf k).map PyData.int) (vs := [8]) (f := fName 8) (HI_list (HV_var (i := 7) rfl)) (HG_name (i := 8)) (fun j en => ∃ u8 u9 u10 u11 : Ent, noOwn [u8, u9, u10, u11] = true ∧ en = { sl := [.dat (.int (w : Int)), .dat (encPs ps), .dat (.int (n : Int)), .dat (.int (last : Int)), .own, .dat (.int (2 * w * (n - Sq.psize ps))), .dat (.int (k : Nat)), .dat (dI (Sq.oddsOf k)), u8, u9, u10, u11, .un, .un], ow := .lst a ((pfx w ps n k ++ ((Sq.oddsOf k).take j).flatMap fun o => Sq.entry w ps n k o).map encE) }) ⟨u8, u9, u10, u11, ?_, ?_⟩ (fun j d en1 hd ⟨u8, u9, u10, u11, hno, e1⟩ => ?_) fun en1 ⟨u8, u9, u10, u11, hno, e1⟩ => ?_)
    · cases u6 <;> cases u7 <;> first | exact hno | cases hno
    · simp; rfl
    · subst e1
      rw [List.getElem?_map] at hd
      cases hx : (Sq.oddsOf k)[j]? with
      | none => rw [hx] at hd; cases hd
      | some od =>
      rw [hx] at hd
      have hd : PyData.int od = d := Option.some.inj hd
      subst hd
      obtain ⟨o0, o8⟩ := odds_small (List.mem_of_getElem? hx)
      have bo : Bz 20 od := (Bz.of_lt (k := 3) o0 o8).mono (by decide)
      have tj : ((Sq.oddsOf k).take (j + 1)).flatMap (fun o => Sq.entry w ps n k o) = ((Sq.oddsOf k).take j).flatMap (fun o => Sq.entry w ps n k o) ++ Sq.entry w ps n k od := by
        rw [List.take_add_one, hx, List.flatMap_append]; simp
      have hjl : j < (Sq.oddsOf k).length := (List.getElem?_eq_some_iff.mp hx).1
      refine ⟨_, rfl, ?_⟩
      refine HT_cons (HS_setLc (i := 9) (xs := ps) (c := encP) (h := fun q => encO (Sq.ppart w k od q)) (pr := fun _ => true) (own := [("piece", 12)]) (f := fName 12) (HI_list (HV_var (i := 1) rfl)) (blkOk_by (by rfl)) (HG_name (i := 12)) (fun j => pts_nil) (fun q hq => ⟨_, rfl, tt_yes rfl, fun _ => HE_call k3 hr (HA_cons (HV_var (i := 0) rfl) (HA_cons (HV_var (i := 6) rfl) (HA_cons (HV_var (i := 8) rfl) (HA_cons (HV_var (i := 12) rfl) HA_nil)))) rfl ⟨w, k, od, q, rfl, bo, (hk q hq).1, (hk q hq).2, rfl⟩⟩) (by omega) ?_)
      rw [show (ps.filter fun _ => true) = ps from List.filter_eq_self.mpr fun _ _ => rfl]
      obtain ⟨L, hL⟩ : ∃ L, L = ps.map (Sq.ppart w k od) := ⟨_, rfl⟩
      have eL : ps.map (fun q => encO (Sq.ppart w k od q)) = L.map encO := by rw [hL, List.map_map]; rfl
      have lL : L.length ≤ 6 := by rw [hL, List.length_map]; exact hps
      rw [eL]
      have en1 : Sq.entry w ps n k od = if Sq.allSome L = true then [(k, od, 2 * w * (n - Sq.psize ps) + ((L.filterMap id).map (·.1)).sum, ((L.filterMap id).map (·.2)).sum)] else [] := by unfold Sq.entry; rw [hL]
      have flF : Fl 2 (.list ((L.filter fun o => o.isNone).map encO)) := fl_list fun d hd => by
        obtain ⟨x, _, rfl⟩ := List.mem_map.mp hd
        exact fl_encO x
      refine HT_one (HS_if (HC_eqD (d := .list ((L.filter fun o => o.isNone).map encO)) (d' := .list []) (HV_lcIf (xs := L) (c := encO) (h := encO) (pr := fun o => o.isNone) (own := [("part", 13)]) (f := fName 13) (HI_list (HV_var (i := 9) rfl)) (blkOk_by (by rfl)) (HG_name (i := 13)) (fun q hq => ⟨_, rfl, HC_isN (HV_var (i := 13) rfl) HV_non (isNone_encO q), fun _ => HV_var (i := 13) rfl⟩) (by omega)) (HV_list HA_nil (by decide)) flF.sh nil_sh ?_))
      by_cases hs : Sq.allSome L = true
      · rw [(none_filter L).mpr hs, show PyData.eqv (.list (([] : List (Option (Int × Int))).map encO)) (.list []) = true from eqv_nil, if_pos rfl]
        rw [if_pos hs] at en1
        rw [some_parts hs]
        have lq : (L.filterMap id).length ≤ 6 := Nat.le_trans (List.length_filterMap_le _ _) lL
        refine HT_cons (HS_par (i := 10) (j := 11) (d1 := .int ((L.filterMap id).map (·.1)).sum) (d2 := .int ((L.filterMap id).map (·.2)).sum) (HA_cons (HV_sum T.sum ?_) (HA_cons (HV_sum T.sum ?_) HA_nil)) ?_)
        · rw [List.map_map]
          exact HV_lc (xs := L.filterMap id) (c := encT) (own := [("part", 13)]) (f := fName 13) (HI_list (HV_var (i := 9) rfl)) (blkOk_by (by rfl)) (HG_name (i := 13)) (fun q hq => ⟨_, rfl, HV_ixT (HV_var (i := 13) rfl) HV_int at0⟩) (by omega)
        · rw [List.map_map]
          exact HV_lc (xs := L.filterMap id) (c := encT) (own := [("part", 13)]) (f := fName 13) (HI_list (HV_var (i := 9) rfl)) (blkOk_by (by rfl)) (HG_name (i := 13)) (fun q hq => ⟨_, rfl, HV_ixT (HV_var (i := 13) rfl) HV_int at1⟩) (by omega)
        refine HT_one (HS_app (i := 4) (P := fun d => d = encE (k, od, 2 * w * (n - Sq.psize ps) + ((L.filterMap id).map (·.1)).sum, ((L.filterMap id).map (·.2)).sum)) rfl rfl (HV_tup (HA_cons (HV_var (i := 6) rfl) (HA_cons (HV_var (i := 8) rfl) (HA_cons (HV_add (HV_var (i := 5) rfl) (HV_var (i := 10) rfl)) (HA_cons (HV_var (i := 11) rfl) HA_nil)))) (show 4 ≤ 100000 by decide)) ?_ fun d hd => ?_)
        · rw [List.length_map, List.length_append]
          have l1 := pfx_len w ps n k
          have l2 := fm_len (fun o => Sq.entry w ps n k o) 1 (entry_len w ps n k) ((Sq.oddsOf k).take j)
          have l3 := odds_len k
          rw [List.length_take] at l2
          omega
        · subst hd
          refine ⟨.dat (.int od), .dat (.list ((L.filterMap id).map encT)), .dat (.int ((L.filterMap id).map (·.1)).sum), .dat (.int ((L.filterMap id).map (·.2)).sum), rfl, ?_⟩
          rw [tj, en1, ← List.append_assoc, List.map_append (l₂ := [_])]; rfl
      · have hne : (L.filter fun o => o.isNone) ≠ [] := fun z => hs ((none_filter L).mp z)
        rw [if_neg hs] at en1
        have : PyData.eqv (.list ((L.filter fun o => o.isNone).map encO)) (.list []) = false := by
          cases hf : (L.filter fun o => o.isNone) with
          | nil => exact absurd hf hne
          | cons x xs => simp [PyData.eqv, PyData.eqvAll]
        rw [this, if_neg (by decide)]
        refine HT_nil ⟨.dat (.int od), .dat (.list (L.map encO)), u10, u11, ?_, ?_⟩
        · cases u8 <;> cases u9 <;> first | exact hno | cases hno
        · rw [tj, en1, List.append_nil]; rfl
    · subst e1
      rw [List.length_map, List.take_length, ← tk]
      exact ⟨_, _, u8, u9, u10, u11, hno, rfl⟩
  · subst e1
    rw [List.length_map, List.length_range]
    exact HT_frzL rfl (HT_one (HS_retV (HV_var (i := 4) rfl) p))
abbrev KTbl (P : Program) (w : World) (K : PySem.W.Frag) (mg : Str → Option Value) (base : Heap) : Prop := Kn P w K mg base "turns_table" 2 (spF 4 W_tbl)
end
end WS
set_option Elab.async false
set_option linter.all false
set_option maxRecDepth 100000
set_option maxHeartbeats 4000000
set_option autoImplicit false
namespace WS
open PySem PySem.Spec PyProof.Rows L2
/-- an entry whose numbers are small -/
def EOk (e : Nat × Int × Int × Int) : Prop := e.1 ≤ 100 ∧ 0 ≤ e.2.1 ∧ e.2.1 < 8 ∧ 0 ≤ e.2.2.1 ∧ e.2.2.1 ≤ 10000
theorem ppart_b {w m s : Nat} {o k h t : Int} (hm : m ≤ w) (e : Sq.ppart w m o (s, k) = some (h, t)) : 0 ≤ h ∧ h ≤ 4 * w := by
  unfold Sq.ppart at e
  simp only at e
  by_cases c1 : k % 2 = 0
  · rw [if_pos c1] at e
    have e := (Prod.mk.inj (Option.some.inj e)).1
    omega
  · rw [if_neg c1] at e
    by_cases c2 : (m : Int) - s = 1
    · rw [if_pos c2] at e; cases e
    · rw [if_neg c2] at e
      by_cases c3 : (m : Int) - s ≤ 0
      · rw [if_pos c3] at e
        have e := (Prod.mk.inj (Option.some.inj e)).1
        omega
      · rw [if_neg c3] at e
        have e := (Prod.mk.inj (Option.some.inj e)).1
        omega
theorem parts_b {w m : Nat} (hm : m ≤ w) (o : Int) : ∀ ps : List (Nat × Int), 0 ≤ (((ps.map (Sq.ppart w m o)).filterMap id).map (·.1)).sum ∧ (((ps.map (Sq.ppart w m o)).filterMap id).map (·.1)).sum ≤ 4 * w * ps.length
  | [] => ⟨Int.le_refl _, by simp⟩
  | (s, k) :: ps => by
    obtain ⟨h1, h2⟩ := parts_b hm o ps
    have hl : 4 * (w : Int) * ((((s, k) :: ps).length : Nat) : Int) = 4 * w * (ps.length : Nat) + 4 * w := by
      rw [List.length_cons, Int.natCast_add, Int.mul_add]; simp
    rw [hl, List.map_cons]
    cases e : Sq.ppart w m o (s, k) with
    | none =>
      show 0 ≤ (((ps.map (Sq.ppart w m o)).filterMap id).map (·.1)).sum ∧ (((ps.map (Sq.ppart w m o)).filterMap id).map (·.1)).sum ≤ _
      exact ⟨h1, by omega⟩
    | some q =>
      obtain ⟨h, t⟩ := q
      have := ppart_b hm e
      show 0 ≤ h + (((ps.map (Sq.ppart w m o)).filterMap id).map (·.1)).sum ∧ h + (((ps.map (Sq.ppart w m o)).filterMap id).map (·.1)).sum ≤ _
      omega
theorem tbl_ok {w n : Nat} {ps : List (Nat × Int)} (hw : w ≤ 64) (hn : n ≤ 6) (hl : ps.length ≤ 6) (hz : ∃ z : Nat, (n : Int) = Sq.psize ps + z) (hp : 0 ≤ Sq.psize ps) : ∀ e ∈ Sq.tbl w ps n w, EOk e := by
  intro e he
  obtain ⟨m, hm, h2⟩ := List.mem_flatMap.mp he
  obtain ⟨o, ho, h3⟩ := List.mem_flatMap.mp h2
  have hm : m ≤ w := by have := List.mem_range.mp hm; omega
  unfold Sq.entry at h3
  split at h3
  · rw [List.mem_singleton] at h3
    subst h3
    obtain ⟨o0, o8⟩ := odds_small ho
    obtain ⟨b1, b2⟩ := parts_b hm o ps
    obtain ⟨z, hz⟩ := hz
    refine ⟨by show m ≤ 100; omega, o0, o8, ?_, ?_⟩
    · show 0 ≤ 2 * (w : Int) * ((n : Int) - Sq.psize ps) + _
      have : 0 ≤ 2 * (w : Int) * ((n : Int) - Sq.psize ps) := Int.mul_nonneg (by omega) (by omega)
      omega
    · show 2 * (w : Int) * ((n : Int) - Sq.psize ps) + _ ≤ 10000
      have h1 : 2 * (w : Int) * ((n : Int) - Sq.psize ps) ≤ 128 * 6 := Int.mul_le_mul (by omega) (by omega) (by omega) (by omega)
      have h2 : 4 * (w : Int) * (ps.length : Int) ≤ 256 * 6 := Int.mul_le_mul (by omega) (by omega) (by omega) (by omega)
      omega
  · cases h3
theorem psize_nn : ∀ ps : List (Nat × Int), 0 ≤ Sq.psize ps
  | [] => Int.le_refl _
  | p :: ps => by
    have := psize_nn ps
    show 0 ≤ (2 - p.2 % 2) + Sq.psize ps
    omega
section
variable {P : Program} {w : World} {K : PySem.W.Frag} {mg : Str → Option Value} {base : Heap} {C : Addr}
def W_cby : List PyData → (PyData → Prop) → Prop := fun ds P => ∃ (w : Nat) (es : List (Nat × Int × Int × Int)), ds = [.int (w : Int), .list (es.map encE), .int 0] ∧ w ≤ 100 ∧ (∀ e ∈ es, EOk e) ∧ P (.int ((es.map Sq.val0).sum / 2 ^ w))
theorem ok_cby {f : Addr} {fd : FuncData} (F : Fun K "count_by" "count_by" (topS 38) f fd) (T : Gs mg) (k1 : KPow P w K mg base) (k2 : KWpart P w K mg base) : FnOk P w K mg base CX0 3 f fd ["width", "table", "word"] (spF 3 W_cby) := by
  refine fn_ok (N := ["width", "table", "word", "found", "many", "odd", "half", "turn"]) F ⟨rfl, rfl, rfl, by decide +kernel, rfl, by decide +kernel, by decide +kernel⟩ rfl fun cd A outer s H E hr bs ds Pd hg ho h hl => ?_
  obtain ⟨w, es, rfl, hw, he, p⟩ := h
  refine HT_cons (HS_setV (i := 3) (d := .int 0) HV_int ?_)
  refine HT_cons (HS_for (ds := es.map encE) (vs := [4] ++ ([5] ++ ([6] ++ ([7] ++ [])))) (f := fTup (fCons (fName 4) (fCons (fName 5) (fCons (fName 6) (fCons (fName 7) fNil))))) (HI_list (HV_var (i := 1) rfl)) (HG_tup (n := 4) (HGs_cons (HG_name (i := 4)) (HGs_cons (HG_name (i := 5)) (HGs_cons (HG_name (i := 6)) (HGs_cons (HG_name (i := 7)) HGs_nil)))) (by
    rintro en ds en' ⟨x, r, e1, rfl, _, y, r2, e2, rfl, _, z, r3, e3, rfl, _, u, r4, e4, rfl, _, rfl, _⟩; rfl)) (fun k en => ∃ u4 u5 u6 u7 : Ent, en = { sl := [.dat (.int (w : Int)), .dat (.list (es.map encE)), .dat (.int 0), .dat (.int ((es.take k).map Sq.val0).sum), u4, u5, u6, u7] }) ⟨.un, .un, .un, .un, rfl⟩ (fun k d en1 hd ⟨u4, u5, u6, u7, e1⟩ => ?_) fun en1 ⟨u4, u5, u6, u7, e1⟩ => ?_)
  · subst e1
    rw [List.getElem?_map] at hd
    cases hx : es[k]? with
    | none => rw [hx] at hd; cases hd
    | some e =>
    rw [hx] at hd
    have hd : encE e = d := Option.some.inj hd
    subst hd
    obtain ⟨m, od, hh, t⟩ := e
    obtain ⟨m1, o0, o8, h0, h1⟩ := he _ (List.mem_of_getElem? hx)
    simp only at m1 o0 o8 h0 h1
    have tk : ((es.take (k + 1)).map Sq.val0).sum = ((es.take k).map Sq.val0).sum + Sq.val0 (m, od, hh, t) := by
      rw [List.take_add_one, hx, List.map_append, List.sum_append_int]; simp
    refine ⟨_, ⟨_, rfl, _, _, _, rfl, rfl, _, _, _, rfl, rfl, _, _, _, rfl, rfl, _, _, _, rfl, rfl, rfl, rfl⟩, ?_⟩
    refine HT_one (HS_if (HC_lt (HV_var (i := 4) (d := .int (m : Nat)) rfl) HV_int ?_))
    by_cases z : m < 4
    · rw [decide_eq_true (show ((m : Nat) : Int) < 4 by omega), if_pos rfl]
      have v0 : Sq.val0 (m, od, hh, t) = Sq.wholePart hh t := by unfold Sq.val0; rw [if_pos z]
      rw [v0] at tk
      refine HT_one (HS_setV (i := 3) (d := .int ((es.take (k + 1)).map Sq.val0).sum) (HV.to (HV_add (HV_var (i := 3) rfl) (HE_call k2 hr (HA_cons (HV_var (i := 6) (d := .int hh) rfl) (HA_cons (d := .int t) (HV.to (HV_sub (HV_var (i := 7) (d := .int t) rfl) (HV_mulS (HV_mulS (HV_var (i := 5) (d := .int od) rfl) (HV_var (i := 2) rfl) (by omega)) (HE_call k1 (hr.mono (by decide)) (HA_cons (HV.to (HV_min2 T.min (HV_sub HV_int (HV_var (i := 4) (d := .int (m : Nat)) rfl)) HV_int) (show PyData.int (min (3 - (m : Int)) 3) = .int ((3 - m : Nat) : Int) by congr 1; omega)) HA_nil) rfl ⟨3 - m, rfl, by omega, rfl⟩) (by omega))) (by simp)) HA_nil)) rfl ⟨hh, t, rfl, h0, by omega, rfl⟩)) (by rw [tk])) ⟨_, _, _, _, rfl⟩)
    · rw [decide_eq_false (show ¬ ((m : Nat) : Int) < 4 by omega), if_neg (by decide)]
      have v0 : Sq.val0 (m, od, hh, t) = Sq.wholePart (hh + 2 * ((m : Int) - 3)) t := by unfold Sq.val0; rw [if_neg z]
      rw [v0] at tk
      have e3 : PyData.int ((m : Int) - 3) = .int ((m - 3 : Nat) : Int) := by congr 1; omega
      refine HT_one (HS_if (HC_eqI (HV_mod (HV_var (i := 2) rfl) (HE_call k1 (hr.mono (by decide)) (HA_cons (HV.to (HV_sub (HV_var (i := 4) (d := .int (m : Nat)) rfl) HV_int) e3) HA_nil) rfl ⟨m - 3, rfl, by omega, rfl⟩) (Sq.pos2 _)) HV_int ?_))
      rw [Int.zero_emod, decide_eq_true rfl, if_pos rfl]
      refine HT_one (HS_setV (i := 3) (d := .int ((es.take (k + 1)).map Sq.val0).sum) (HV.to (HV_add (HV_var (i := 3) rfl) (HE_call k2 hr (HA_cons (HV_add (HV_var (i := 6) (d := .int hh) rfl) (HV_mulS HV_int (HV_sub (HV_var (i := 4) (d := .int (m : Nat)) rfl) HV_int) (by decide))) (HA_cons (d := .int t) (HV.to (HV_sub (HV_var (i := 7) (d := .int t) rfl) (HV_mulS (HV_var (i := 5) (d := .int od) rfl) (HV_shr (HV_var (i := 2) rfl) (HV.to (HV_sub (HV_var (i := 4) (d := .int (m : Nat)) rfl) HV_int) e3)) (by omega))) (by simp)) HA_nil)) rfl ⟨_, t, rfl, by omega, by omega, rfl⟩)) (by rw [tk])) ⟨_, _, _, _, rfl⟩)
  · subst e1
    rw [List.length_map, List.take_length]
    refine HT_one (HS_retV (HV_div (HV_var (i := 3) rfl) (HE_call k1 (hr.mono (by decide)) (HA_cons (HV_var (i := 0) rfl) HA_nil) rfl ⟨w, rfl, by omega, rfl⟩) (Sq.pos2 w) ?_) p)
    have : (2 : Int) ^ w ≤ 2 ^ 100 := Int.le_of_dvd (Sq.pos2 _) (Sq.pdvd hw)
    have h2 := Sq.pos2 w
    exact (Bz.of_lt (k := 101) (by omega) (by have : (2 : Int) ^ 100 < 2 ^ 101 := (by decide); omega)).mono (by decide)
abbrev KCby (P : Program) (w : World) (K : PySem.W.Frag) (mg : Str → Option Value) (base : Heap) : Prop := Kn P w K mg base "count_by" 3 (spF 3 W_cby)
/-- pieces that are small -/
def PsOk (n : Nat) (ps : List (Nat × Int)) : Prop := n ≤ 6 ∧ ps.length ≤ 6 ∧ (∀ p ∈ ps, 0 ≤ p.2 ∧ p.2 < 8) ∧ ∃ z : Nat, (n : Int) = Sq.psize ps + z
def W_cof : List PyData → (PyData → Prop) → Prop := fun ds P => ∃ (w n : Nat) (ps : List (Nat × Int)), ds = [.int (w : Int), encPs ps, .int (n : Int), .int 0] ∧ w ≤ 64 ∧ PsOk n ps ∧ P (.int (Sq.cnt0 w ps n))
theorem ok_cof {f : Addr} {fd : FuncData} (F : Fun K "count_of" "count_of" (topS 39) f fd) (k1 : KTbl P w K mg base) (k2 : KCby P w K mg base) : FnOk P w K mg base CX0 4 f fd ["width", "pieces", "size", "word"] (spF 4 W_cof) := by
  refine fn_ok (N := ["width", "pieces", "size", "word", "last"]) F ⟨rfl, rfl, rfl, by decide +kernel, rfl, by decide +kernel, by decide +kernel⟩ rfl fun cd A outer s H E hr bs ds Pd hg ho h hl => ?_
  obtain ⟨w, n, ps, rfl, hw, ⟨hn, h6, hk, hz⟩, p⟩ := h
  refine HT_cons (HS_setV (i := 4) (d := .int (w : Int)) (HE_if (HC_eqI (HV_var (i := 3) rfl) HV_int (by
    rw [decide_eq_true rfl, if_pos rfl]; exact HV_var (i := 0) rfl))) ?_)
  exact HT_one (HS_ret (HE_call k2 hr (HA_cons (HV_var (i := 0) rfl) (HA_cons (HE_call k1 (hr.mono (by decide)) (HA_cons (HV_var (i := 0) rfl) (HA_cons (HV_var (i := 1) rfl) (HA_cons (HV_var (i := 2) rfl) (HA_cons (HV_var (i := 4) rfl) HA_nil)))) rfl ⟨w, n, w, ps, rfl, by omega, by omega, h6, hk, rfl⟩) (HA_cons (HV_var (i := 3) rfl) HA_nil))) rfl ⟨w, Sq.tbl w ps n w, rfl, by omega, tbl_ok hw hn h6 hz (psize_nn ps), p⟩) fun d q => q)
abbrev KCof (P : Program) (w : World) (K : PySem.W.Frag) (mg : Str → Option Value) (base : Heap) : Prop := Kn P w K mg base "count_of" 4 (spF 4 W_cof)
end
end WS
set_option Elab.async false
set_option linter.all false
set_option maxRecDepth 100000
set_option maxHeartbeats 4000000
set_option autoImplicit false
namespace WS
open PySem PySem.Spec PyProof.Rows L2
theorem tell_ok {W n : Nat} {M : Sq.Mx} {ps : List (Nat × Int)} (t : Sq.Tell W n M ps) (hn : n ≤ 6) (hl : ps.length ≤ 6) : PsOk n ps := ⟨hn, hl, fun p hp => (t.bd p hp).2, t.sz⟩
section
variable {P : Program} {w : World} {K : PySem.W.Frag} {mg : Str → Option Value} {base : Heap} {C : Addr}
/-! ### how_often -/
def W_often : List PyData → (PyData → Prop) → Prop := fun ds P => ∃ (w n : Nat) (M : Sq.Mx), ds = [.int (w : Int), mat n M, .int 0] ∧ 1 ≤ w ∧ w ≤ 64 ∧ 1 ≤ n ∧ n ≤ 6 ∧ Sym n M ∧ P (.int (Sq.nz w (Sq.ns n) M))
theorem ok_often {f : Addr} {fd : FuncData} (F : Fun K "how_often" "how_often" (topS 40) f fd) (T : Gs mg) (k1 : KCkWidth P w K mg base) (k2 : KCkForm P w K mg base) (k3 : KCkWord P w K mg base) (k4 : KWay P w K mg base) (k5 : KCof P w K mg base) : FnOk P w K mg base CX0 8 f fd ["width", "form", "word"] (spF 3 W_often) := by
  refine fn_ok (N := ["width", "form", "word"]) F ⟨rfl, rfl, rfl, by decide +kernel, rfl, by decide +kernel, by decide +kernel⟩ rfl fun cd A outer s H E hr bs ds Pd hg ho h hl => ?_
  obtain ⟨w, n, M, rfl, h1, hw, h1n, hn, hs, p⟩ := h
  have hlen : ∀ (d : PyData), d = PyData.int (((List.range n).map fun i => PyData.list (rowL n (M i))).length : Nat) → d = .int (n : Int) := fun d e => by rw [e]; simp
  refine HT_cons (HS_drop (P := fun _ => True) (HE_call k1 (hr.mono (by decide)) (HA_cons (HV_var (i := 0) rfl) HA_nil) rfl ⟨w, rfl, by omega, by omega, trivial⟩) fun d _ => ?_)
  refine HT_cons (HS_drop (P := fun _ => True) (HE_call k2 (hr.mono (by decide)) (HA_cons (HV_var (i := 1) rfl) HA_nil) rfl ⟨n, M, rfl, h1n, hn, hs, trivial⟩) fun d _ => ?_)
  refine HT_cons (HS_drop (P := fun _ => True) (HE_call k3 (hr.mono (by decide)) (HA_cons (HV_var (i := 0) rfl) (HA_cons (HV_var (i := 2) rfl) HA_nil)) rfl ⟨w, rfl, by omega, trivial⟩) fun d _ => ?_)
  refine HT_one (HS_retD (k := 0) (P := Pd) (HD_call (P' := fun ds => ∃ ps, ds = [.int (w : Int), encPs ps, .int (n : Int), .int 0] ∧ Sq.Tell w n M ps ∧ ps.length ≤ 6) k5 (hr.mono (by decide)) (HDA_cons (k := 0) (Pa := fun d => d = .int (w : Int)) (HD_of (HV_var (i := 0) rfl) 0) fun d0 hd0 => HDA_cons (k := 0) (Pa := fun d => ∃ ps, d = encPs ps ∧ Sq.Tell w n M ps ∧ ps.length ≤ 6) (HD_of (HE_ix0 (Pa := fun _ => True) (HE_call k4 hr (HA_cons (HV_var (i := 0) rfl) (HA_cons (HV_var (i := 1) rfl) HA_nil)) rfl ⟨w, n, M, rfl, h1, by omega, h1n, hn, hs, fun ps Cm tl lp => ⟨_, _, rfl, ps, rfl, tl, lp⟩⟩) HV_int) 0) fun d1 hd1 => HDA_cons (k := 0) (Pa := fun d => d = .int (n : Int)) (HD_of (HV.to (HV_len T.len (HV.to (HV_var (i := 1) (d := mat n M) rfl) (mat_eq n M))) (hlen _ rfl)) 0) fun d2 hd2 => HDA_cons (k := 0) (Pa := fun d => d = .int 0) (HD_of (HV_var (i := 2) rfl) 0) fun d3 hd3 => HDA_nil ?_) fun ds hds => ?_) fun d hd => hd)
  · obtain ⟨ps, rfl, tl, lp⟩ := hd1
    subst hd0 hd2 hd3
    exact ⟨ps, rfl, tl, lp⟩
  · obtain ⟨ps, rfl, tl, lp⟩ := hds
    refine ⟨rfl, w, n, ps, rfl, hw, tell_ok tl hn lp, ?_⟩
    rw [tl.ct w (.inl (Nat.le_refl _))]
    exact p
abbrev KOften (P : Program) (w : World) (K : PySem.W.Frag) (mg : Str → Option Value) (base : Heap) : Prop := Kn P w K mg base "how_often" 8 (spF 3 W_often)
/-! ### odd_noughts -/
def oofD (w n : Nat) (ps : List (Nat × Int)) : Int := if w = 1 then Sq.cnt0 1 ps n - 1 else Sq.cnt0 w ps n - 2 ^ n * (if w = 2 then 1 else Sq.cnt0 (w - 2) ps n)
def W_oof : List PyData → (PyData → Prop) → Prop := fun ds P => ∃ (w n : Nat) (ps : List (Nat × Int)), ds = [.int (w : Int), encPs ps, .int (n : Int)] ∧ 1 ≤ w ∧ w ≤ 64 ∧ PsOk n ps ∧ P (.int (oofD w n ps))
theorem ok_oof {f : Addr} {fd : FuncData} (F : Fun K "odd_noughts_of" "odd_noughts_of" (topS 41) f fd) (k1 : KCof P w K mg base) (k2 : KPow P w K mg base) : FnOk P w K mg base CX0 5 f fd ["width", "pieces", "size"] (spF 3 W_oof) := by
  refine fn_ok (N := ["width", "pieces", "size", "even"]) F ⟨rfl, rfl, rfl, by decide +kernel, rfl, by decide +kernel, by decide +kernel⟩ rfl fun cd A outer s H E hr bs ds Pd hg ho h hl => ?_
  obtain ⟨w, n, ps, rfl, h1, hw, hp, p⟩ := h
  unfold oofD at p
  refine HT_cons (HS_if (HC_eqI (HV_var (i := 0) rfl) HV_int ?_))
  by_cases e1 : w = 1
  · subst e1
    rw [if_pos rfl] at p
    rw [show decide ((((1 : Nat)) : Int) = 1) = true from rfl, if_pos rfl]
    exact HT_one (HS_retV (HV_sub (HE_call k1 hr (HA_cons HV_int (HA_cons (HV_var (i := 1) rfl) (HA_cons (HV_var (i := 2) rfl) (HA_cons HV_int HA_nil)))) rfl ⟨1, n, ps, rfl, by omega, hp, rfl⟩) HV_int) p)
  · rw [if_neg e1] at p
    rw [decide_eq_false (by omega), if_neg (by decide)]
    refine HT_nil ?_
    refine HT_cons (HS_setV (i := 3) (d := .int (if w = 2 then 1 else Sq.cnt0 (w - 2) ps n)) (HV.to (HV_if (k := decide (w = 2)) (d1 := .int 1) (d2 := .int (Sq.cnt0 (w - 2) ps n)) (HC_eqI (HV_var (i := 0) rfl) HV_int (by
      by_cases z : w = 2
      · rw [decide_eq_true z, decide_eq_true (by omega)]
      · rw [decide_eq_false z, decide_eq_false (by omega)])) (fun _ => HV_int) (fun z => HE_call k1 hr (HA_cons (d := .int ((w - 2 : Nat) : Int)) (HV.to (HV_sub (HV_var (i := 0) rfl) HV_int) (by congr 1; have := of_decide_eq_false z; omega)) (HA_cons (HV_var (i := 1) rfl) (HA_cons (HV_var (i := 2) rfl) (HA_cons HV_int HA_nil)))) rfl ⟨w - 2, n, ps, rfl, by omega, hp, rfl⟩)) (by
      by_cases z : w = 2
      · rw [decide_eq_true z, if_pos rfl, if_pos z]
      · rw [decide_eq_false z, if_neg (by decide), if_neg z])) ?_)
    have h6 := hp.1
    have hb : (2 : Int) ^ n ≤ 2 ^ 6 := Int.le_of_dvd (Sq.pos2 _) (Sq.pdvd h6)
    have h0 := Sq.pos2 n
    exact HT_one (HS_retV (HV_sub (HE_call k1 hr (HA_cons (HV_var (i := 0) rfl) (HA_cons (HV_var (i := 1) rfl) (HA_cons (HV_var (i := 2) rfl) (HA_cons HV_int HA_nil)))) rfl ⟨w, n, ps, rfl, hw, hp, rfl⟩) (HV_mulS (HE_call k2 (hr.mono (by decide)) (HA_cons (HV_var (i := 2) rfl) HA_nil) rfl ⟨n, rfl, by omega, rfl⟩) (HV_var (i := 3) rfl) (by
      have : (2 : Int) ^ 6 = 64 := by decide
      omega))) p)
abbrev KOof (P : Program) (w : World) (K : PySem.W.Frag) (mg : Str → Option Value) (base : Heap) : Prop := Kn P w K mg base "odd_noughts_of" 5 (spF 3 W_oof)
def W_odd : List PyData → (PyData → Prop) → Prop := fun ds P => ∃ (w n : Nat) (M : Sq.Mx), ds = [.int (w : Int), mat n M] ∧ 1 ≤ w ∧ w ≤ 64 ∧ 1 ≤ n ∧ n ≤ 6 ∧ Sym n M ∧ BzM 140 n M ∧ (w ≤ 16 ∨ Sq.Plain n M) ∧ P (.int (Sq.oddN n w M))
theorem ok_odd {f : Addr} {fd : FuncData} (F : Fun K "odd_noughts" "odd_noughts" (topS 42) f fd) (T : Gs mg) (k1 : KCkWidth P w K mg base) (k2 : KCkForm P w K mg base) (k3 : KEvery P w K mg base) (k4 : KOof P w K mg base) : FnOk P w K mg base CX0 9 f fd ["width", "form"] (spF 2 W_odd) := by
  refine fn_ok (N := ["width", "form"]) F ⟨rfl, rfl, rfl, by decide +kernel, rfl, by decide +kernel, by decide +kernel⟩ rfl fun cd A outer s H E hr bs ds Pd hg ho h hl => ?_
  obtain ⟨w, n, M, rfl, h1, hw, h1n, hn, hs, hB, hpl, p⟩ := h
  have hlen : ∀ (d : PyData), d = PyData.int (((List.range n).map fun i => PyData.list (rowL n (M i))).length : Nat) → d = .int (n : Int) := fun d e => by rw [e]; simp
  refine HT_cons (HS_drop (P := fun _ => True) (HE_call k1 (hr.mono (by decide)) (HA_cons (HV_var (i := 0) rfl) HA_nil) rfl ⟨w, rfl, by omega, by omega, trivial⟩) fun d _ => ?_)
  refine HT_cons (HS_drop (P := fun _ => True) (HE_call k2 (hr.mono (by decide)) (HA_cons (HV_var (i := 1) rfl) HA_nil) rfl ⟨n, M, rfl, h1n, hn, hs, trivial⟩) fun d _ => ?_)
  refine HT_one (HS_retD (k := 0) (P := Pd) (HD_call (P' := fun ds => ∃ ps W, ds = [.int (w : Int), encPs ps, .int (n : Int)] ∧ 16 ≤ W ∧ Sq.Tell W n M ps ∧ ps.length ≤ 6) k4 (hr.mono (by decide)) (HDA_cons (k := 0) (Pa := fun d => d = .int (w : Int)) (HD_of (HV_var (i := 0) rfl) 0) fun d0 hd0 => HDA_cons (k := 0) (Pa := fun d => ∃ ps W, d = encPs ps ∧ 16 ≤ W ∧ Sq.Tell W n M ps ∧ ps.length ≤ 6) (HD_of (HE_call k3 hr (HA_cons (HV_var (i := 1) rfl) HA_nil) rfl ⟨n, M, rfl, h1n, hn, hs, hB, fun ps W w1 w2 tl lp => ⟨ps, W, rfl, w1, tl, lp⟩⟩) 0) fun d1 hd1 => HDA_cons (k := 0) (Pa := fun d => d = .int (n : Int)) (HD_of (HV.to (HV_len T.len (HV.to (HV_var (i := 1) (d := mat n M) rfl) (mat_eq n M))) (hlen _ rfl)) 0) fun d2 hd2 => HDA_nil ?_) fun ds hds => ?_) fun d hd => hd)
  · obtain ⟨ps, W, rfl, w1, tl, lp⟩ := hd1
    subst hd0 hd2
    exact ⟨ps, W, rfl, w1, tl, lp⟩
  · obtain ⟨ps, W, rfl, w1, tl, lp⟩ := hds
    have ct : ∀ v, v ≤ w → Sq.cnt0 v ps n = Sq.nz v (Sq.ns n) M := fun v hv => by
      rcases hpl with h | h
      · exact tl.ct v (.inl (by omega))
      · exact tl.ct v (.inr ⟨h, by omega⟩)
    refine ⟨rfl, w, n, ps, rfl, h1, hw, tell_ok tl hn lp, ?_⟩
    have : oofD w n ps = Sq.oddN n w M := by
      unfold oofD Sq.oddN
      rw [ct w (Nat.le_refl _), ct 1 h1, ct (w - 2) (by omega)]
    rw [this]; exact p
abbrev KOdd (P : Program) (w : World) (K : PySem.W.Frag) (mg : Str → Option Value) (base : Heap) : Prop := Kn P w K mg base "odd_noughts" 9 (spF 2 W_odd)
end
end WS
set_option Elab.async false
set_option linter.all false
set_option maxRecDepth 100000
set_option maxHeartbeats 4000000
set_option autoImplicit false
namespace WS
open PySem PySem.Spec PyProof.Rows L2
section
variable {Z : Ctx} {bs : Bs} {en : En} {a b e : Expr} {pos p0 : Pos} {P : PyData → Prop}
theorem HC_gtP {p : Int → Prop} {j : Int} {P : Bool → Prop} (ha : HE Z bs a en (IsI p)) (hb : HV Z bs b en (.int j)) (h : ∀ i, p i → P (decide (j < i))) : HC Z bs (.Compare a [.Gt] [b] pos) en P := by
  refine HC_two (fun i ta tb pa pb => pt_cmpR op_gt pa pb (nomark b)) ha hb fun x y dx dy F H σ Q R rx ry px py q => ?_
  obtain ⟨i, rfl, pi⟩ := px
  subst py
  cases rx; cases ry
  exact ⟨i, j, rfl, rfl, q _ F H R R.gid (h i pi)⟩
theorem HE_intP {p : Int → Prop} (hm : Z.mg "int" = none) (ha : HE Z bs e en (IsI p)) (h : ∀ i, p i → P (.int i)) (hg : GlS Z.sc "int" := by rfl) (he : ∀ i, starEach [e] (Z.X i).env = (false, eval e (Z.X i).env) :: starEach [] (Z.X i).env := by intro _; rfl) : HE Z bs (.Call (.Name "int" p0) [e] [] pos) en P := fun σ F H R Q q => by
  refine ⟨_, fun i => pe_callTy call_int1 (Ctx.gl hg i) (Ctx.mgN hm i) PyProof.Rows.boot_int (pa_cons (pe_tE Z e i) pa_nil (he i)) (by decide) (by decide) (he i) (by rfl), ha σ F H R _ fun v d F1 H1 R1 s1 r1 p1 => ?_⟩
  obtain ⟨i, rfl, pi⟩ := p1
  cases r1
  exact .inl ⟨i, rfl, q _ _ F1 H1 R1 s1 (.int i) (h i pi)⟩
theorem HE_divP {p : Int → Prop} {j : Int} (ha : HE Z bs a en (IsI p)) (hb : HV Z bs b en (.int j)) (h1 : 1 ≤ j) (h2 : j < 1073741824) (h : ∀ i, p i → P (.int (i / j))) : HE Z bs (.BinOp a .FloorDiv b pos) en P := by
  refine HE_two (fun i ta tb pa pb => pe_op op_fdiv pa pb) ha hb fun x y dx dy F H σ Q R rx ry px py q => ?_
  obtain ⟨i, rfl, pi⟩ := px
  subst py
  cases rx; cases ry
  exact ⟨i, j, rfl, rfl, ⟨by omega, h2⟩, q _ _ F H R R.gid (.int _) (h i pi)⟩
end
section
variable {P : Program} {w : World} {K : PySem.W.Frag} {mg : Str → Option Value} {base : Heap} {C : Addr}
/-! ### the generator -/
def W_hash : List PyData → (PyData → Prop) → Prop := fun ds P => ∃ a b : Int, ds = [.int a, .int b] ∧ a.natAbs < 2 ^ 40 ∧ 0 ≤ b ∧ b ≤ 1000000000 ∧ ∀ r : Int, 0 ≤ r → r < 2147483647 → P (.int r)
theorem ok_hash {f : Addr} {fd : FuncData} (F : Fun K "_law_hash" "_law_hash" (topS 44) f fd) (T : Gs mg) : FnOk P w K mg base CX0 1 f fd ["_law_seed", "_law_index"] (spF 2 W_hash) := by
  refine fn_ok (N := ["_law_seed", "_law_index", "_law_mixed"]) F ⟨rfl, rfl, rfl, by decide +kernel, rfl, by decide +kernel, by decide +kernel⟩ rfl fun cd A outer s H E hr bs ds Pd hg ho h hl => ?_
  obtain ⟨a, b, rfl, ha, b0, b1, p⟩ := h
  refine HT_cons (HS_setV (i := 2) (HV_mod (HV_intI T.int (HV_add (HV_add (HV_add (HV_mulS (HV_var (i := 0) rfl) HV_int (by omega)) (HV_mulS (HV_mulS HV_int (HV_var (i := 1) rfl) (by decide)) (HV_var (i := 1) rfl) (by omega))) (HV_mulS HV_int (HV_var (i := 1) rfl) (by decide))) HV_int)) HV_int (by decide)) ?_)
  obtain ⟨x, hx⟩ : ∃ x, x = (a * 1140671 + 27644437 * b * b + 131 * b + 19) % 2147483629 := ⟨_, rfl⟩
  rw [← hx]
  have x0 : 0 ≤ x ∧ x < 2147483629 := by omega
  refine HT_cons (HS_setV (i := 2) (HV_mod (HV_intI T.int (HV_add (HV_add (HV_mulS (HV_var (i := 2) rfl) (HV_var (i := 2) rfl) (by omega)) (HV_mulS HV_int (HV_var (i := 1) rfl) (by decide))) HV_int)) HV_int (by decide)) ?_)
  obtain ⟨y, hy⟩ : ∃ y, y = (x * x + 62089 * b + 32416187) % 2147483587 := ⟨_, rfl⟩
  rw [← hy]
  have y0 : 0 ≤ y ∧ y < 2147483587 := by omega
  exact HT_one (HS_retV (HV_mod (HV_intI T.int (HV_mulS (HV_var (i := 2) rfl) HV_int (by omega))) HV_int (by decide)) (p _ (by omega) (by omega)))
abbrev KHash (P : Program) (w : World) (K : PySem.W.Frag) (mg : Str → Option Value) (base : Heap) : Prop := Kn P w K mg base "_law_hash" 1 (spF 2 W_hash)
def W_rand : List PyData → (PyData → Prop) → Prop := fun ds P => ∃ b : Int, ds = [.int b] ∧ 1 ≤ b ∧ b ≤ 1000 ∧ ∀ r : Int, 0 ≤ r → r < b → P (.int r)
theorem ok_rand {f : Addr} {fd : FuncData} (F : Fun K "_law_random" "_law_random" (topS 45) f fd) (T : Gs mg) (k1 : KHash P w K mg base) : FnOk P w K mg base CX0 2 f fd ["_law_generator_here", "_law_bound"] (spG 1 1 W_rand) := by
  refine fn_okG (N := ["_law_generator_here", "_law_bound", "_law_drawn_here", "_law_turn"]) F ⟨rfl, rfl, rfl, by decide +kernel, rfl, by decide +kernel, by decide +kernel⟩ rfl (by decide) fun cd A outer s H E hr bs ds Pd m ho hm h hl => ?_
  obtain ⟨b, rfl, b1, b2, p⟩ := h
  refine HT_cons (HS_if (HC_gtP (p := fun _ => True) (HE_gen (gi := 0) (j := 0) rfl HV_int fun x y z _ _ _ _ _ => ⟨x, rfl, x, rfl, trivial⟩) HV_int fun i _ => ?_))
  cases decide (0 < i) with
  | true =>
    rw [if_pos rfl]
    refine HT_cons (HS_set (i := 2) (P := IsI fun r => 0 ≤ r ∧ r < b) (HE_modP (p := fun _ => True) (q := fun x => x = b) (HE_intP (p := fun _ => True) T.int (HE_gen (gi := 0) (j := 0) rfl HV_int fun x y z _ _ _ _ _ => ⟨x, rfl, x, rfl, trivial⟩) fun i _ => ⟨i, rfl, trivial⟩) (HVi (HV_var (i := 1) rfl)) fun i j _ hj => ⟨by omega, _, rfl, by subst hj; exact ⟨Int.emod_nonneg _ (by omega), Int.emod_lt_of_pos _ (by omega)⟩⟩) fun d hd => ?_)
    obtain ⟨r, rfl, r0, r1⟩ := hd
    refine HT_cons (HS_genSet (gi := 0) (j := 0) (k := 0) (P := IsI fun v => 0 ≤ v ∧ v.natAbs < 2 ^ 2000) rfl (HE_divP (p := fun v => 0 ≤ v ∧ v.natAbs < 2 ^ 2000) (HE_gen (gi := 0) (j := 0) rfl HV_int fun x y z x0 x1 _ _ _ => ⟨x, rfl, x, rfl, x0, x1⟩) (HV_var (i := 1) rfl) b1 (by omega) fun i hi => ⟨_, rfl, Int.ediv_nonneg hi.1 (by omega), ?_⟩) HV_int (by decide) (fun d hd => ?_) ?_)
    · have : i / b ≤ i := Int.ediv_le_self _ hi.1
      have h2 : 0 ≤ i / b := Int.ediv_nonneg hi.1 (by omega)
      have h3 := hi.2
      omega
    · obtain ⟨v, rfl, v0, v1⟩ := hd
      exact ⟨v, rfl, fun x y z x0 x1 y1 z0 z1 => ⟨v, y, z, rfl, v0, v1, y1, z0, by omega⟩⟩
    · exact HT_one (HS_retV (HV_var (i := 2) rfl) ⟨Nat.le_add_right m 1, p r r0 r1⟩)
  | false =>
    rw [if_neg (by decide)]
    refine HT_nil ?_
    refine HT_cons (HS_setV (i := 2) (d := .int 0) HV_int ?_)
    have hbits : (Builtin.Int.intBits b : Int) / 30 = 0 := by
      have : Builtin.Int.intBits b ≤ 10 := intBits_le_iff.mpr (by omega)
      omega
    refine HT_cons (HS_for (ds := (List.range 1).map fun i => PyData.int (i : Nat)) (vs := [3]) (f := fName 3) (HI_rangeN (n := 1) T.range (HV.to (HV_add HV_int (HV_div (HV_bits (HV_var (i := 1) rfl)) HV_int (by decide) (by decide))) (by rw [hbits]; rfl)) (by decide)) (HG_name (i := 3)) (fun k en => ∃ (x : Int) (u : Ent) (c : Nat), 0 ≤ x ∧ x < 2147483647 ∧ (k = 0 → x = 0 ∧ c ≤ m) ∧ c ≤ m + 1 ∧ en = { sl := [.gen, .dat (.int b), .dat (.int x), u], ct := c }) ⟨0, .un, m, by decide, by decide, fun _ => ⟨rfl, Nat.le_refl _⟩, by omega, rfl⟩ (fun k d en1 hd ⟨x, u, c, x0, x1, hk, hc, e1⟩ => ?_) fun en1 ⟨x, u, c, x0, x1, hk, hc, e1⟩ => ?_)
    · subst e1
      have hk0 : k = 0 := by
        have := (List.getElem?_eq_some_iff.mp hd).1
        simpa using this
      obtain ⟨hx, hcm⟩ := hk hk0
      subst hx
      refine ⟨_, rfl, ?_⟩
      refine HT_cons (HS_genSet (gi := 0) (j := 2) (k := 1) (P := IsI fun v => 0 ≤ v ∧ v ≤ (c : Int) + 1) rfl (HE_addP (p := fun v => 0 ≤ v ∧ v ≤ (c : Int)) (q := fun x => x = 1) (HE_gen (gi := 0) (j := 2) rfl HV_int fun x y z _ _ _ z0 z1 => ⟨z, rfl, z, rfl, z0, z1⟩) (HVi HV_int) fun i j hi hj => ⟨_, rfl, by omega, by omega⟩) HV_int (by decide) (fun d hd => ?_) ?_)
      · obtain ⟨v, rfl, v0, v1⟩ := hd
        exact ⟨v, rfl, fun x y z x0 x1 y1 z0 z1 => ⟨x, y, v, rfl, x0, x1, y1, v0, v1⟩⟩
      refine HT_one (HS_setD (i := 2) (k := 0) (P := IsI fun r => 0 ≤ r ∧ r < 2147483647) (HD_add (k := 0) (l := 0) (p := fun x => x = 0) (q := fun r => 0 ≤ r ∧ r < 2147483647) (HD_of (HVi (HV.to (HV_mulS (HV_var (i := 2) rfl) HV_int (by decide)) (by rfl))) 0) (HD_call (P' := fun ds => ∃ a b : Int, ds = [.int a, .int b] ∧ a.natAbs < 2 ^ 40 ∧ 0 ≤ b ∧ b ≤ 1000000000) k1 hr (HDA_cons (k := 0) (Pa := IsI fun v => v.natAbs < 2 ^ 40) (HD_of (HE_gen (gi := 0) (j := 1) rfl HV_int fun x y z _ _ y1 _ _ => ⟨y, rfl, y, rfl, y1⟩) 0) fun d hd => HDA_cons (k := 0) (Pa := IsI fun v => 0 ≤ v ∧ v ≤ 1000000000) (HD_of (HE_gen (gi := 0) (j := 2) rfl HV_int fun x y z _ _ _ z0 z1 => ⟨z, rfl, z, rfl, z0, (by have z1 : z ≤ ((c + 1 : Nat) : Int) := z1; omega)⟩) 0) fun d2 hd2 => HDA_nil (by
        obtain ⟨a, rfl, ha⟩ := hd
        obtain ⟨b', rfl, hb0, hb1⟩ := hd2
        exact ⟨a, b', rfl, ha, hb0, hb1⟩)) fun ds hds => (by
        obtain ⟨a, b', rfl, ha, hb0, hb1⟩ := hds
        exact ⟨rfl, a, b', rfl, ha, hb0, hb1, fun r r0 r1 => ⟨r, rfl, r0, r1⟩⟩)) fun i j hi hj => ⟨_, rfl, by omega, by omega⟩) fun d hd => ?_)
      · obtain ⟨r, rfl, r0, r1⟩ := hd
        exact ⟨r, _, _, r0, r1, fun z => absurd z (by omega), by show c + 1 ≤ m + 1; omega, rfl⟩
    · subst e1
      refine HT_one (HS_retV (HV_mod (HV_intI T.int (HV_var (i := 2) rfl)) (HV_var (i := 1) rfl) (by omega)) ⟨hc, p _ (Int.emod_nonneg _ (by omega)) (Int.emod_lt_of_pos _ (by omega))⟩)
abbrev KRand (P : Program) (w : World) (K : PySem.W.Frag) (mg : Str → Option Value) (base : Heap) : Prop := Kn P w K mg base "_law_random" 2 (spG 1 1 W_rand)
end
end WS
set_option Elab.async false
set_option linter.all false
set_option maxRecDepth 100000
set_option maxHeartbeats 4000000
set_option autoImplicit false
namespace WS
open PySem PySem.Spec PyProof.Rows L2
section
variable {P : Program} {w : World} {K : PySem.W.Frag} {mg : Str → Option Value} {base : Heap} {C : Addr}
def W_two : List PyData → (PyData → Prop) → Prop := fun ds P => ∃ n : Nat, ds = [.int (n : Int)] ∧ n ≤ 1000 ∧ P (.int (2 ^ n))
theorem ok_two {f : Addr} {fd : FuncData} (F : Fun K "_law_two" "_law_two" (topS 48) f fd) (T : Gs mg) : FnOk P w K mg base CX0 1 f fd ["_law_many"] (spF 1 W_two) := by
  refine fn_ok (N := ["_law_many"]) F ⟨rfl, rfl, rfl, by decide +kernel, rfl, by decide +kernel, by decide +kernel⟩ rfl fun cd A outer s H E hr bs ds Pd hg ho h hl => ?_
  obtain ⟨n, rfl, hn, p⟩ := h
  exact HT_one (HS_retV (HV_shl HV_int (HV_intI T.int (HV_var (i := 0) rfl)) (by omega)) p)
abbrev KTwo (P : Program) (w : World) (K : PySem.W.Frag) (mg : Str → Option Value) (base : Heap) : Prop := Kn P w K mg base "_law_two" 1 (spF 1 W_two)
def W_copied : List PyData → (PyData → Prop) → Prop := fun ds P => ∃ (n : Nat) (M : Sq.Mx), ds = [mat n M] ∧ n ≤ 6 ∧ P (mat n M)
theorem ok_copied {f : Addr} {fd : FuncData} (F : Fun K "_law_copied" "_law_copied" (topS 53) f fd) (T : Gs mg) : FnOk P w K mg base CX0 1 f fd ["_law_rows"] (spF 1 W_copied) := by
  refine fn_ok (N := ["_law_rows", "_law_row"]) F ⟨rfl, rfl, rfl, by decide +kernel, rfl, by decide +kernel, by decide +kernel⟩ rfl fun cd A outer s H E hr bs ds Pd hg ho h hl => ?_
  obtain ⟨n, M, rfl, hn, p⟩ := h
  rw [mat_eq] at *
  refine HT_one (HS_retV ?_ p)
  exact HV_lc (xs := List.range n) (c := fun i => PyData.list (rowL n (M i))) (own := [("_law_row", 1)]) (f := fName 1) (HI_list (HV_var (i := 0) rfl)) (blkOk_by (by rfl)) (HG_name (i := 1)) (fun i hi => ⟨_, rfl, HV_listOf T.list (HV_var (i := 1) rfl)⟩) (by simp; omega)
abbrev KCopied (P : Program) (w : World) (K : PySem.W.Frag) (mg : Str → Option Value) (base : Heap) : Prop := Kn P w K mg base "_law_copied" 1 (spF 1 W_copied)
/-! ### all lists of words -/
theorem allL_len (q : Nat) : ∀ n, (Sq.allL q n).length = q ^ n
  | 0 => rfl
  | n + 1 => by
    show ((Sq.allL q n).flatMap fun it => (List.range q).map fun w => it ++ [((w : Nat) : Int)]).length = _
    rw [List.length_flatMap]
    have : ((Sq.allL q n).map fun it => ((List.range q).map fun w => it ++ [((w : Nat) : Int)]).length) = List.replicate (q ^ n) q := by
      apply List.ext_getElem?
      intro j
      rw [List.getElem?_map, List.getElem?_replicate]
      by_cases h : j < q ^ n
      · rw [if_pos h, List.getElem?_eq_getElem (by rw [allL_len q n]; exact h)]; simp
      · rw [if_neg h, List.getElem?_eq_none (by rw [allL_len q n]; omega)]; rfl
    rw [this, List.sum_replicate_nat, Nat.pow_succ]
def W_lists : List PyData → (PyData → Prop) → Prop := fun ds P => ∃ n q : Nat, ds = [.int (n : Int), .int (q : Int)] ∧ n ≤ 3 ∧ 1 ≤ q ∧ q ≤ 32 ∧ q ^ n ≤ 100 ∧ P (.list ((Sq.allL q n).map dI))
theorem ok_lists {f : Addr} {fd : FuncData} (F : Fun K "_law_lists" "_law_lists" (topS 55) f fd) (T : Gs mg) : FnOk P w K mg base CX0 1 f fd ["_law_size", "_law_whole"] (spF 2 W_lists) := by
  refine fn_ok (N := ["_law_size", "_law_whole", "_law_found", "_law_turn", "_law_longer", "_law_item", "_law_word"]) F ⟨rfl, rfl, rfl, by decide +kernel, rfl, by decide +kernel, by decide +kernel⟩ rfl fun cd A outer s H E hr bs ds Pd hg ho h hl => ?_
  obtain ⟨n, q, rfl, hn, hq, hq2, hqn, p⟩ := h
  have small : ∀ k, k ≤ n → (Sq.allL q k).length ≤ 100 := fun k hk => by
    rw [allL_len]
    exact Nat.le_trans (Nat.pow_le_pow_right hq hk) hqn
  refine HT_cons (HS_setV (i := 2) (d := .list ((Sq.allL q 0).map dI)) (HV_list (HA_cons (HV_list HA_nil (by decide)) HA_nil) (show 1 ≤ 100000 by decide)) ?_)
  refine HT_cons (HS_for (ds := (List.range n).map fun i => PyData.int (i : Nat)) (vs := [3]) (f := fName 3) (HI_rangeN T.range (HV_var (i := 0) rfl) (by omega)) (HG_name (i := 3)) (fun k en => ∃ u3 u4 u5 : Ent, en = { sl := [.dat (.int (n : Int)), .dat (.int (q : Int)), .dat (.list ((Sq.allL q k).map dI)), u3, u4, u5, .un] }) ⟨.un, .un, .un, rfl⟩ (fun k d en1 hd ⟨u3, u4, u5, e1⟩ => ?_) fun en1 ⟨u3, u4, u5, e1⟩ => ?_)
  · subst e1
    have hk : k < n := by
      have := (List.getElem?_eq_some_iff.mp hd).1
      simpa using this
    refine ⟨_, rfl, ?_⟩
    refine HT_cons (HS_setV (i := 4) (d := .list []) (HV_list HA_nil (by decide)) ?_)
    refine HT_cons (HS_for (ds := (Sq.allL q k).map dI) (vs := [5]) (f := fName 5) (HI_list (HV_var (i := 2) rfl)) (HG_name (i := 5)) (fun j en => ∃ u5 : Ent, en = { sl := [.dat (.int (n : Int)), .dat (.int (q : Int)), .dat (.list ((Sq.allL q k).map dI)), .dat d, .dat (.list ((((Sq.allL q k).take j).flatMap fun it => (List.range q).map fun w => it ++ [((w : Nat) : Int)]).map dI)), u5, .un] }) ⟨u5, rfl⟩ (fun j d2 en1 hd2 ⟨u5, e1⟩ => ?_) fun en1 ⟨u5, e1⟩ => ?_)
    · subst e1
      rw [List.getElem?_map] at hd2
      cases hx : (Sq.allL q k)[j]? with
      | none => rw [hx] at hd2; cases hd2
      | some it =>
      rw [hx] at hd2
      have hd2 : dI it = d2 := Option.some.inj hd2
      subst hd2
      refine ⟨_, rfl, ?_⟩
      have tj : ((Sq.allL q k).take (j + 1)).flatMap (fun it => (List.range q).map fun w => it ++ [((w : Nat) : Int)]) = ((Sq.allL q k).take j).flatMap (fun it => (List.range q).map fun w => it ++ [((w : Nat) : Int)]) ++ (List.range q).map fun w => it ++ [((w : Nat) : Int)] := by
        rw [List.take_add_one, hx, List.flatMap_append]; simp
      have len1 : (((Sq.allL q k).take j).flatMap (fun it => (List.range q).map fun w => it ++ [((w : Nat) : Int)])).length ≤ 100 * 32 := by
        have h1 := fm_len (fun it : List Int => (List.range q).map fun w => it ++ [((w : Nat) : Int)]) 32 (fun a => by simp; omega) ((Sq.allL q k).take j)
        have h2 : ((Sq.allL q k).take j).length ≤ 100 := by rw [List.length_take]; have := small k (by omega); omega
        omega
      have lit : it.length ≤ 1000 := by
        have key : ∀ k, ∀ it ∈ Sq.allL q k, it.length = k := by
          intro k
          induction k with
          | zero => intro it h; simp [Sq.allL] at h; rw [h]; rfl
          | succ k ih =>
            intro it h
            obtain ⟨a, ha, h2⟩ := List.mem_flatMap.mp h
            obtain ⟨b, _, rfl⟩ := List.mem_map.mp h2
            rw [List.length_append, ih a ha]; rfl
        rw [key k it (List.mem_of_getElem? hx)]; omega
      refine HT_one (HS_setV (i := 4) (HV_cat (HV_var (i := 4) rfl) (HV_lc (xs := List.range q) (c := fun w => PyData.int (w : Nat)) (h := fun w => dI (it ++ [((w : Nat) : Int)])) (own := [("_law_word", 6)]) (f := fName 6) (HI_rangeN T.range (HV_var (i := 1) rfl) (by omega)) (blkOk_by (by rfl)) (HG_name (i := 6)) (fun w hw => ⟨_, rfl, HV.to (HV_cat (HV_var (i := 5) rfl) (HV_list (HA_cons (HV_var (i := 6) rfl) HA_nil) (show 1 ≤ 100000 by decide)) (by rw [List.length_map]; show it.length + 1 ≤ 100000; omega)) (by show _ = PyData.list ((it ++ [((w : Nat) : Int)]).map .int); rw [List.map_append]; rfl)⟩) (by simp; omega)) (by rw [List.length_map, List.length_map, List.length_range]; omega)) ⟨.dat (dI it), ?_⟩)
      · rw [tj, List.map_append, List.map_map]; rfl
    · subst e1
      rw [List.length_map, List.take_length]
      refine HT_one (HS_setV (i := 2) (HV_var (i := 4) rfl) ⟨.dat d, .dat (.list ((Sq.allL q (k + 1)).map dI)), u5, rfl⟩)
  · subst e1
    rw [List.length_map, List.length_range]
    exact HT_one (HS_retV (HV_var (i := 2) rfl) p)
abbrev KLists (P : Program) (w : World) (K : PySem.W.Frag) (mg : Str → Option Value) (base : Heap) : Prop := Kn P w K mg base "_law_lists" 1 (spF 2 W_lists)
end
end WS
set_option Elab.async false
set_option linter.all false
set_option maxRecDepth 100000
set_option maxHeartbeats 4000000
set_option autoImplicit false
namespace WS
open PySem PySem.Spec PyProof.Rows L2
section
variable {P : Program} {w : World} {K : PySem.W.Frag} {mg : Str → Option Value} {base : Heap} {C : Addr}
/-- the value of a form at a list of words -/
def valD (n : Nat) (M : Sq.Mx) (x : Nat → Int) : Int := Sq.sl (fun i => x i * Sq.sl (fun j => M i j * x j) (List.range n)) (List.range n)
theorem valD_ql (n : Nat) (M : Sq.Mx) (x : Nat → Int) : valD n M x = Sq.ql (List.range n) M x := by
  unfold valD Sq.ql
  refine Sq.sl_congr fun i _ => ?_
  rw [← Sq.sl_mul]
  exact Sq.sl_congr fun j _ => by grind
def W_val : List PyData → (PyData → Prop) → Prop := fun ds P => ∃ (n : Nat) (M : Sq.Mx) (x : Nat → Int), ds = [mat n M, .list (rowL n x)] ∧ n ≤ 6 ∧ BzM 140 n M ∧ (∀ i, i < n → Bz 60 (x i)) ∧ P (.int (Sq.ql (List.range n) M x))
theorem ok_val {f : Addr} {fd : FuncData} (F : Fun K "_law_value" "_law_value" (topS 54) f fd) (T : Gs mg) : FnOk P w K mg base CX0 1 f fd ["_law_rows", "_law_found"] (spF 2 W_val) := by
  refine fn_ok (N := ["_law_rows", "_law_found", "_law_total", "_law_place", "_law_word", "_law_item", "_law_other"]) F ⟨rfl, rfl, rfl, by decide +kernel, rfl, by decide +kernel, by decide +kernel⟩ rfl fun cd A outer s H E hr bs ds Pd hg ho h hl => ?_
  obtain ⟨n, M, x, rfl, hn, hB, hx, p⟩ := h
  rw [← valD_ql] at p
  refine HT_cons (HS_setV (i := 2) (d := .int 0) HV_int ?_)
  refine HT_cons (HS_for (ds := (List.range n).map fun i => PyData.tuple [.int (i : Nat), .int (x i)]) (vs := [3] ++ ([4] ++ [])) (f := fTup (fCons (fName 3) (fCons (fName 4) fNil))) (by
    rw [← enD_map n fun i => PyData.int (x i)]
    exact HI_enum T.enumerate (HV_var (i := 1) rfl)) (HG_tup (n := 2) (HGs_cons (HG_name (i := 3)) (HGs_cons (HG_name (i := 4)) HGs_nil)) len2) (fun k en => ∃ u3 u4 : Ent, en = { sl := [.dat (mat n M), .dat (.list (rowL n x)), .dat (.int (Sq.sl (fun i => x i * Sq.sl (fun j => M i j * x j) (List.range n)) (List.range k))), u3, u4, .un, .un] }) ⟨.un, .un, rfl⟩ (fun k d en1 hd ⟨u3, u4, e1⟩ => ?_) fun en1 ⟨u3, u4, e1⟩ => ?_)
  · subst e1
    have hk : k < n := by
      have := (List.getElem?_eq_some_iff.mp hd).1
      simpa using this
    rw [List.getElem?_map, List.getElem?_range hk] at hd
    have hd : PyData.tuple [.int (k : Nat), .int (x k)] = d := Option.some.inj hd
    subst hd
    refine ⟨_, ⟨_, rfl, _, _, _, rfl, rfl, _, _, _, rfl, rfl, rfl, rfl⟩, ?_⟩
    have bs1 : Bz (200 + n) (Sq.sl (fun j => M k j * x j) (List.range n)) := by
      have := bz_sum (l := List.range n) (f := fun j => M k j * x j) (k := 200) fun j hj => (hB k j hk (List.mem_range.mp hj)).mul (hx j (List.mem_range.mp hj))
      rw [List.length_range] at this
      exact this
    have tk : Sq.sl (fun i => x i * Sq.sl (fun j => M i j * x j) (List.range n)) (List.range (k + 1)) = Sq.sl (fun i => x i * Sq.sl (fun j => M i j * x j) (List.range n)) (List.range k) + x k * Sq.sl (fun j => M k j * x j) (List.range n) := by
      unfold Sq.sl
      rw [List.range_succ, List.map_append, List.sum_append_int]; simp
    refine HT_one (HS_setV (i := 2) (HV.to (HV_add (HV_var (i := 2) rfl) (HV_mul (HV_var (i := 4) (d := .int (x k)) rfl) (HV_sum (ns := (List.range n).map fun j => M k j * x j) T.sum ?_) (hx k hk).sm bs1.sm)) ?_) ⟨_, _, rfl⟩)
    · rw [List.map_map]
      refine HV_lc (xs := List.range n) (c := fun j => PyData.tuple [.int (M k j), .int (x j)]) (own := [("_law_item", 5), ("_law_other", 6)]) (f := fTup (fCons (fName 5) (fCons (fName 6) fNil))) ?_ (blkOk_by (by rfl)) (HG_tup (n := 2) (HGs_cons (HG_name (i := 5)) (HGs_cons (HG_name (i := 6)) HGs_nil)) len2) (fun j hj => ⟨_, ⟨_, rfl, _, _, _, rfl, rfl, _, _, _, rfl, rfl, rfl, rfl⟩, HV_mul (HV_var (i := 5) rfl) (HV_var (i := 6) rfl) (hB k j hk (List.mem_range.mp hj)).sm (hx j (List.mem_range.mp hj)).sm⟩) (by simp; omega)
      rw [← zip_rows n (M k) x]
      exact HI_zip T.zip (HV_ixL (HV.to (HV_var (i := 0) (d := mat n M) rfl) (mat_eq n M)) (HV_var (i := 3) rfl) (matL_at hk M)) (HV_var (i := 1) rfl)
    · rw [tk]; rfl
  · subst e1
    rw [List.length_map, List.length_range]
    exact HT_one (HS_retV (HV_var (i := 2) rfl) p)
abbrev KVal (P : Program) (w : World) (K : PySem.W.Frag) (mg : Str → Option Value) (base : Heap) : Prop := Kn P w K mg base "_law_value" 1 (spF 2 W_val)
end
end WS
set_option Elab.async false
set_option linter.all false
set_option maxRecDepth 100000
set_option maxHeartbeats 4000000
set_option autoImplicit false
namespace WS
open PySem PySem.Spec PyProof.Rows L2
/-- a list as a function -/
def atF (it : List Int) : Nat → Int := fun i => it.getD i 0
theorem row_at {it : List Int} {n : Nat} (h : it.length = n) : dI it = .list (rowL n (atF it)) := by
  unfold rowL atF dI
  congr 1
  apply List.ext_getElem?
  intro j
  rw [List.getElem?_map, List.getElem?_map]
  by_cases hj : j < n
  · rw [List.getElem?_range hj, List.getElem?_eq_getElem (by omega)]
    simp [List.getD, List.getElem?_eq_getElem (show j < it.length by omega)]
  · rw [List.getElem?_eq_none (by omega), List.getElem?_eq_none (by simpa using hj)]; rfl
theorem allL_mem {q : Nat} : ∀ {n : Nat} {it : List Int}, it ∈ Sq.allL q n → it.length = n ∧ ∀ x ∈ it, 0 ≤ x ∧ x < q
  | 0, it, h => by simp [Sq.allL] at h; subst h; exact ⟨rfl, fun _ h => nomatch h⟩
  | n + 1, it, h => by
    obtain ⟨a, ha, h2⟩ := List.mem_flatMap.mp h
    obtain ⟨b, hb, rfl⟩ := List.mem_map.mp h2
    obtain ⟨i1, i2⟩ := allL_mem ha
    refine ⟨by rw [List.length_append, i1]; rfl, fun x hx => ?_⟩
    rcases List.mem_append.mp hx with m | m
    · exact i2 x m
    · rw [List.mem_singleton] at m
      have := List.mem_range.mp hb
      omega
def gL (n w : Nat) (M : Sq.Mx) (it : List Int) : Int := Sq.nul w (Sq.ql (List.range n) M (atF it)) * Sq.od (List.range n) (atF it)
theorem gL_sum {n w : Nat} (h : 1 ≤ w) (M : Sq.Mx) : ((Sq.allL (2 ^ w) n).map (gL n w M)).sum = Sq.oddN n w M := by
  rw [Sq.all_sum (2 ^ w) (fun _ => 0), ← Sq.odd_sum h M]
  refine Sq.sv_congr fun y _ => ?_
  have e : ∀ i, i < n → atF ((Sq.ns n).map y) i = y i := fun i hi => by
    unfold atF
    simp [List.getD, List.getElem?_range hi]
  unfold gL
  rw [Sq.ql_congr (fun i hi => e i (List.mem_range.mp hi)) (fun _ _ _ _ => rfl)]
  congr 1
  unfold Sq.od
  have : (∀ i ∈ List.range n, atF ((Sq.ns n).map y) i % 2 = 0) ↔ ∀ i ∈ Sq.ns n, y i % 2 = 0 := by
    constructor
    · intro h i hi; rw [← e i (List.mem_range.mp hi)]; exact h i hi
    · intro h i hi; rw [e i (List.mem_range.mp hi)]; exact h i hi
  by_cases q : ∀ i ∈ Sq.ns n, y i % 2 = 0
  · rw [if_pos q, if_pos (this.mpr q)]
  · rw [if_neg q, if_neg (fun z => q (this.mp z))]
theorem gL_val {n w : Nat} (M : Sq.Mx) {it : List Int} (hl : it.length = n) : gL n w M it = if Sq.ql (List.range n) M (atF it) % 2 ^ w = 0 ∧ (it.filter fun x => decide (x % 2 = 1)) ≠ [] then 1 else 0 := by
  unfold gL Sq.nul Sq.od
  have : (∀ i ∈ List.range n, atF it i % 2 = 0) ↔ (it.filter fun x => decide (x % 2 = 1)) = [] := by
    rw [List.filter_eq_nil_iff]
    constructor
    · intro h x hx
      obtain ⟨i, hi, e⟩ := List.getElem_of_mem hx
      have := h i (List.mem_range.mpr (by omega))
      unfold atF at this
      simp [List.getD, List.getElem?_eq_getElem hi, e] at this
      simp; omega
    · intro h i hi
      have hi : i < it.length := by rw [hl]; exact List.mem_range.mp hi
      have := h it[i] (List.getElem_mem hi)
      unfold atF
      simp [List.getD, List.getElem?_eq_getElem hi]
      simp at this; omega
  by_cases c1 : Sq.ql (List.range n) M (atF it) % 2 ^ w = 0
  · rw [if_pos c1, Int.one_mul]
    by_cases c2 : (it.filter fun x => decide (x % 2 = 1)) = []
    · rw [if_pos (this.mpr c2), if_neg (fun z => z.2 c2)]
    · rw [if_neg (fun z => c2 (this.mp z)), if_pos ⟨c1, c2⟩]
  · rw [if_neg c1, Int.zero_mul, if_neg (fun z => c1 z.1)]
section
variable {P : Program} {w : World} {K : PySem.W.Frag} {mg : Str → Option Value} {base : Heap} {C : Addr}
def W_listed : List PyData → (PyData → Prop) → Prop := fun ds P => ∃ (n w : Nat) (M : Sq.Mx), ds = [mat n M, .int (w : Int)] ∧ 1 ≤ n ∧ n ≤ 3 ∧ 1 ≤ w ∧ w ≤ 5 ∧ (2 ^ w) ^ n ≤ 100 ∧ BzM 140 n M ∧ ∀ L : PyData, P (.list [L, .int (Sq.oddN n w M)])
theorem ok_listed {f : Addr} {fd : FuncData} (F : Fun K "_law_listed" "_law_listed" (topS 56) f fd) (T : Gs mg) (k1 : KTwo P w K mg base) (k2 : KLists P w K mg base) (k3 : KVal P w K mg base) : FnOk P w K mg base CX0 2 f fd ["_law_rows", "_law_width_there"] (spF 2 W_listed) := by
  refine fn_ok (N := ["_law_rows", "_law_width_there", "_law_whole", "_law_found", "_law_odd", "_law_item", "_law_left", "_law_word"]) F ⟨rfl, rfl, rfl, by decide +kernel, rfl, by decide +kernel, by decide +kernel⟩ rfl fun cd A outer s H E hr bs ds Pd hg ho h hl => ?_
  obtain ⟨n, w, M, rfl, h1n, hn, h1, hw, hq, hB, p⟩ := h
  have hlen : ∀ (d : PyData), d = PyData.int (((List.range n).map fun i => PyData.list (rowL n (M i))).length : Nat) → d = .int (n : Int) := fun d e => by rw [e]; simp
  have e2 : (2 : Int) ^ w = ((2 ^ w : Nat) : Int) := by simp
  have h32 : 2 ^ w ≤ 32 := Nat.pow_le_pow_right (n := 2) (by decide) hw
  have hpos : 0 < 2 ^ w := Nat.pow_pos (by decide)
  refine HT_cons (HS_par3E (i := 2) (j := 3) (l := 4) (HAe_dat (Pd := fun d => d = .int ((2 ^ w : Nat) : Int)) (HE_call k1 hr (HA_cons (HV_var (i := 1) rfl) HA_nil) rfl ⟨w, rfl, by omega, by rw [e2]⟩) fun d hd => HAe_lst (ds := List.replicate (2 ^ w) (.int 0)) (HNl_rep (HV_list (HA_cons HV_int HA_nil) (show 1 ≤ 100000 by decide)) (HE_call k1 hr (HA_cons (HV_var (i := 1) rfl) HA_nil) rfl ⟨w, rfl, by omega, by rw [e2]⟩) (by omega)) fun a => HAe_dat (Pd := fun d => d = .int 0) HV_int fun d2 hd2 => HAe_nil ⟨rfl, _, _, _, rfl, ?_⟩))
  subst hd hd2
  refine HT_cons (HS_for (ds := (Sq.allL (2 ^ w) n).map dI) (vs := [5]) (f := fName 5) (HI_list (HE_call k2 (hr.mono (by decide)) (HA_cons (HV.to (HV_len T.len (HV.to (HV_var (i := 0) (d := mat n M) rfl) (mat_eq n M))) (hlen _ rfl)) (HA_cons (HV_var (i := 2) rfl) HA_nil)) rfl ⟨n, 2 ^ w, rfl, hn, by omega, h32, hq, rfl⟩)) (HG_name (i := 5)) (fun k en => ∃ (vs : List Int) (u5 u6 : Ent), vs.length = 2 ^ w ∧ noOwn [u5, u6] = true ∧ en = { sl := [.dat (mat n M), .dat (.int (w : Int)), .dat (.int ((2 ^ w : Nat) : Int)), .own, .dat (.int (((Sq.allL (2 ^ w) n).take k).map (gL n w M)).sum), u5, u6, .un], ow := .lst a (vs.map .int) }) ⟨List.replicate (2 ^ w) 0, .un, .un, by simp, rfl, by simp; rfl⟩ (fun k d en1 hd ⟨vs, u5, u6, hv, hno, e1⟩ => ?_) fun en1 ⟨vs, u5, u6, hv, hno, e1⟩ => ?_)
  · subst e1
    rw [List.getElem?_map] at hd
    cases hx : (Sq.allL (2 ^ w) n)[k]? with
    | none => rw [hx] at hd; cases hd
    | some it =>
    rw [hx] at hd
    have hd : dI it = d := Option.some.inj hd
    subst hd
    obtain ⟨il, ib⟩ := allL_mem (List.mem_of_getElem? hx)
    refine ⟨_, rfl, ?_⟩
    obtain ⟨lf, hlf⟩ : ∃ lf, lf = Sq.ql (List.range n) M (atF it) % ((2 ^ w : Nat) : Int) := ⟨_, rfl⟩
    have l0 : 0 ≤ lf ∧ lf < ((2 ^ w : Nat) : Int) := by rw [hlf]; exact ⟨Int.emod_nonneg _ (by omega), Int.emod_lt_of_pos _ (by omega)⟩
    refine HT_cons (HS_setV (i := 6) (d := .int lf) (HV.to (HV_mod (HV_intI T.int (HE_call k3 (hr.mono (by decide)) (HA_cons (HV_var (i := 0) rfl) (HA_cons (HV_var (i := 5) rfl) HA_nil)) rfl ⟨n, M, atF it, by rw [row_at il], by omega, hB, fun i hi => ?_, rfl⟩)) (HV_var (i := 2) rfl) (by omega)) (by rw [hlf])) ?_)
    · have hi' : i < it.length := by omega
      have := ib it[i] (List.getElem_mem hi')
      unfold atF
      simp only [List.getD, List.getElem?_eq_getElem hi', Option.getD_some]
      exact (Bz.of_lt (k := 6) this.1 (by show _ < (64 : Int); omega)).mono (by decide)
    obtain ⟨ln, hln⟩ : ∃ ln : Nat, lf = (ln : Int) := ⟨lf.toNat, by omega⟩
    have hll : ln < vs.length := by omega
    refine HT_cons (HS_asgX (P := fun d => d = .int (vs[ln] + 1)) ?_ (HGX_item (i := 3)) fun d hd => ?_)
    · exact HV_add (i := vs[ln]) (j := 1) (HV_ixOwn (i := 3) (k := ln) (a := a) (ds := vs.map .int) rfl rfl (HV.to (HV_var (i := 6) (d := .int lf) rfl) (by rw [hln])) (by rw [List.getElem?_map, List.getElem?_eq_getElem hll]; rfl)) HV_int
    subst hd
    refine ⟨_, ⟨a, vs.map .int, ln, rfl, rfl, HV.to (HV_var (i := 6) (d := .int lf) rfl) (by rw [hln]), by rw [List.length_map]; exact hll, rfl⟩, ?_⟩
    have fl : Fl 1 (.list ((it.filter fun x => decide (x % 2 = 1)).map PyData.int)) := fl_dI _
    have ge : gL n w M it = if lf = 0 ∧ (it.filter fun x => decide (x % 2 = 1)) ≠ [] then 1 else 0 := by rw [gL_val M il, hlf, ← e2]
    have tk : (((Sq.allL (2 ^ w) n).take (k + 1)).map (gL n w M)).sum = (((Sq.allL (2 ^ w) n).take k).map (gL n w M)).sum + gL n w M it := by
      rw [List.take_add_one, hx, List.map_append, List.sum_append_int]; simp
    refine HT_one (HS_setV (i := 4) (d := .int (((Sq.allL (2 ^ w) n).take (k + 1)).map (gL n w M)).sum) (HV.to (HV_add (HV_var (i := 4) rfl) (HV_intB (k := decide (lf = 0 ∧ (it.filter fun x => decide (x % 2 = 1)) ≠ [])) T.int (HE_and (HV.he (HV_eqI (HV_var (i := 6) rfl) HV_int) ⟨_, rfl, ?_⟩)))) ?_) ⟨vs.set ln (vs[ln] + 1), .dat (dI it), .dat (.int lf), by rw [List.length_set]; exact hv, rfl, ?_⟩)
    · by_cases z : lf = 0
      · rw [decide_eq_true z, if_pos rfl]
        refine HE_and1 (HV.he (HV_neD (d := .list ((it.filter fun x => decide (x % 2 = 1)).map PyData.int)) (d' := .list []) (HV_lcIf (xs := it) (c := PyData.int) (h := PyData.int) (pr := fun x => decide (x % 2 = 1)) (own := [("_law_word", 7)]) (f := fName 7) (HI_list (HV_var (i := 5) rfl)) (blkOk_by (by rfl)) (HG_name (i := 7)) (fun x hx => ⟨_, rfl, ?_, fun _ => HV_var (i := 7) rfl⟩) (by omega)) (HV_list HA_nil (by decide)) fl.sh nil_sh) ?_)
        · exact HC_eqI (HV_mod (HV_intI T.int (HV_var (i := 7) rfl)) HV_int (by decide)) HV_int rfl
        congr 1
        cases hf : (it.filter fun x => decide (x % 2 = 1)) with
        | nil => rw [show PyData.eqv (.list (([] : List Int).map PyData.int)) (.list []) = true from eqv_nil, decide_eq_false (fun y => y.2 rfl)]; rfl
        | cons x xs => rw [decide_eq_true ⟨z, fun y => nomatch y⟩]; simp [PyData.eqv, PyData.eqvAll]
      · rw [decide_eq_false z, if_neg (by decide), decide_eq_false (fun y => z y.1)]
    · rw [tk, ge]
      by_cases z : lf = 0 ∧ (it.filter fun x => decide (x % 2 = 1)) ≠ []
      · rw [decide_eq_true z, if_pos rfl, if_pos z]
      · rw [decide_eq_false z, if_neg (by decide), if_neg z]
    · show _ = _
      rw [List.map_set]; rfl
  · subst e1
    rw [List.length_map, List.take_length, gL_sum h1]
    exact HT_frzL rfl (HT_one (HS_retV (HV_list (HA_cons (HV_var (i := 3) rfl) (HA_cons (HV_var (i := 4) rfl) HA_nil)) (show 2 ≤ 100000 by decide)) (p _)))
abbrev KListed (P : Program) (w : World) (K : PySem.W.Frag) (mg : Str → Option Value) (base : Heap) : Prop := Kn P w K mg base "_law_listed" 2 (spF 2 W_listed)
end
end WS
set_option Elab.async false
set_option linter.all false
set_option maxRecDepth 100000
set_option maxHeartbeats 4000000
set_option autoImplicit false
namespace WS
open PySem PySem.Spec PyProof.Rows L2
theorem zero_row (n : Nat) : List.replicate n (PyData.int 0) = rowL n fun _ => 0 := by
  unfold rowL
  apply List.ext_getElem?
  intro j
  rw [List.getElem?_map, List.getElem?_replicate]
  by_cases h : j < n
  · rw [if_pos h, List.getElem?_range h]; rfl
  · rw [if_neg h, List.getElem?_eq_none (by simpa using h)]; rfl
theorem zero_mat (n : Nat) : ((List.range n).map fun _ => List.replicate n (PyData.int 0)) = matL n fun _ _ => 0 := List.map_congr_left fun _ _ => zero_row n
/-- x = [.. for ..] on one line, a new matrix -/
theorem HS_setLcM {Z : Ctx} {bs : Bs} {en : En} {Φ : DE} {i : Nat} {y : Str} {py : Pos} {tg it elt : Expr} {scope : Scope} {own : List (Str × Nat)} {pos spos : Pos} {α : Type} {xs : List α} {c : α → PyData} {h : α → List PyData} {f : En → PyData → En → Prop}
    (hi : HI Z bs tg it en (xs.map c)) (ok : BlkOk Z.N Z.sc scope own) (hg : HG (Z.blk scope) tg (own.map (·.2)) f)
    (hx : ∀ x ∈ xs, ∃ en', f (en.wipe (own.map (·.2))) (c x) en' ∧ HNl (Z.blk scope) bs elt en' (h x))
    (hl : xs.length ≤ 100000) (k : ∀ a rs, Φ.nx ((en.own (.mat a rs (xs.map h))).set i .own)) (no : noOwn en.sl = true := by rfl)
    (hy : Z.N[i]? = some y := by rfl) (hyl : Z.sc.names.lookup y = some .local := by rfl) (hln : (py.line == pos.line) = true := by rfl) (hkd : Z.sc.kind = .function := by rfl) (ha : (scope.names.any fun (n, k) => n == y && (k == .local || k == .cell)) = false := by decide +kernel) (hs : FoldN Z it := by intro _ _; rfl) :
    HS Z bs (.Assign [.Name y py] (.ListComp elt [⟨tg, it, [], 0⟩] scope pos) spos) en Φ := fun σ F H R D q r => by
  obtain ⟨g, a1, b1⟩ := hg
  refine ⟨tAsg (tLc (fun σ' H' R' => ∃ wi, (∀ i, PI (Z.X i) tg it wi) ∧ wi σ' H' R') g tYes (tE (Z.blk scope) elt) (own.map (·.2))) (gName i), fun t => ?_, ?_⟩
  · exact ps_setLc (Z.hc t) (by rw [Z.hN]; exact Z.nd) (Ctx.nth hy t) (by rw [Z.hs]; exact hyl) (sw_true (by rw [Z.hs]; exact hkd) (by rw [Z.hs]; exact hyl) hln ha) ⟨fun pins s σ H R I ⟨wi, h1, h2⟩ => (h1 t).run pins s σ H R I h2⟩ (by rw [Z.hN, Z.hs]; exact ok) (fun s H C cl fp => a1 (t, s, H, C, cl, fp)) (fun s H C cl fp => pts_nil) (fun s H C cl fp => pe_tE (Z.blk scope) elt (t, s, H, C, cl, fp)) (hs t)
  · exact lcm_read (tg := tg) (fun en σ F H v d en' => b1 bs en σ F H v d en') (fun x hm => by
      obtain ⟨en', p1, p2⟩ := hx x hm
      exact ⟨en', p1, tt_yes rfl, p2⟩) hl (fun R' k => hi σ F H R R' k) (fun a rs F' H' R' G N => q _ _ F' H' ((R.newM R' N no).setS (e := Ent.own) (show some (some (V.ref a)) = some (some (V.ref a)) from rfl)) G.f (k a rs))
section
variable {P : Program} {w : World} {K : PySem.W.Frag} {mg : Str → Option Value} {base : Heap} {C : Addr}
def W_drawn : List PyData → (PyData → Prop) → Prop := fun ds P => ∃ n wd : Nat, ds = [.int (n : Int), .int (wd : Int)] ∧ n ≤ 3 ∧ wd ≤ 20 ∧ ∀ M : Sq.Mx, Sym n M → BzM 8 n M → P (mat n M)
theorem ok_drawn {f : Addr} {fd : FuncData} (F : Fun K "_law_drawn" "_law_drawn" (topS 50) f fd) (T : Gs mg) (k1 : KRand P w K mg base) : FnOk P w K mg base CX0 3 f fd ["_law_generator_here", "_law_size", "_law_wide"] (spG 2 9 W_drawn) := by
  refine fn_okG (N := ["_law_generator_here", "_law_size", "_law_wide", "_law_found", "_law_place", "_law_at", "_law_item", "_law_turn"]) F ⟨rfl, rfl, rfl, by decide +kernel, rfl, by decide +kernel, by decide +kernel⟩ rfl (by decide) fun cd A outer s H E hr bs ds Pd m ho hm h hl => ?_
  obtain ⟨n, wd, rfl, hn, hwd, p⟩ := h
  refine HT_cons (HS_setLcM (i := 3) (xs := List.range n) (c := fun i => PyData.int (i : Nat)) (h := fun _ => List.replicate n (.int 0)) (own := [("_law_turn", 7)]) (f := fName 7) (HI_rangeN T.range (HV_var (i := 1) rfl) (by omega)) (blkOk_by (by rfl)) (HG_name (i := 7)) (fun i hi => ⟨_, rfl, HNl_rep (HV_list (HA_cons HV_int HA_nil) (show 1 ≤ 100000 by decide)) (HV_var (i := 1) rfl) (by omega)⟩) (by simp; omega) fun a rs => ?_)
  rw [zero_mat]
  refine HT_cons (HS_for (ds := (List.range n).map fun i => PyData.int (i : Nat)) (vs := [4]) (f := fName 4) (HI_rangeN T.range (HV_var (i := 1) rfl) (by omega)) (HG_name (i := 4)) (fun k en => ∃ (M : Sq.Mx) (u4 u5 u6 : Ent) (c : Nat), Sym n M ∧ BzM 8 n M ∧ c ≤ m + 3 * k ∧ noOwn [u4, u5, u6] = true ∧ en = { sl := [.gen, .dat (.int (n : Int)), .dat (.int (wd : Int)), .own, u4, u5, u6, .un], ow := .mat a rs (matL n M), ct := c }) ⟨fun _ _ => 0, .un, .un, .un, m, fun _ _ _ _ => rfl, fun _ _ _ _ => bz0 _, by omega, rfl, rfl⟩ (fun k d en1 hd ⟨M, u4, u5, u6, c, hs, hB, hc, hno, e1⟩ => ?_) fun en1 ⟨M, u4, u5, u6, c, hs, hB, hc, hno, e1⟩ => ?_)
  · subst e1
    have hk : k < n := by
      have := (List.getElem?_eq_some_iff.mp hd).1
      simpa using this
    rw [List.getElem?_map, List.getElem?_range hk] at hd
    have hd : PyData.int (k : Nat) = d := Option.some.inj hd
    subst hd
    refine ⟨_, rfl, ?_⟩
    refine HT_one (HS_for (ds := (List.range (n - k)).map fun i => PyData.int ((k + i : Nat) : Int)) (vs := [5]) (f := fName 5) (HI_rangeNN T.range (HV_var (i := 4) rfl) (HV_var (i := 1) rfl) (by omega) (by omega)) (HG_name (i := 5)) (fun j en => ∃ (M : Sq.Mx) (u5 u6 : Ent) (c : Nat), Sym n M ∧ BzM 8 n M ∧ c ≤ m + 3 * k + j ∧ noOwn [u5, u6] = true ∧ en = { sl := [.gen, .dat (.int (n : Int)), .dat (.int (wd : Int)), .own, .dat (.int (k : Nat)), u5, u6, .un], ow := .mat a rs (matL n M), ct := c }) ⟨M, u5, u6, c, hs, hB, by omega, ?_, rfl⟩ (fun j d en1 hd ⟨M, u5, u6, c, hs, hB, hc, hno, e1⟩ => ?_) fun en1 ⟨M, u5, u6, c, hs, hB, hc, hno, e1⟩ => ?_)
    · cases u4 <;> first | exact hno | cases hno
    · subst e1
      have hj : j < n - k := by
        have := (List.getElem?_eq_some_iff.mp hd).1
        simpa using this
      rw [List.getElem?_map, List.getElem?_range hj] at hd
      have hd : PyData.int ((k + j : Nat) : Int) = d := Option.some.inj hd
      subst hd
      refine ⟨_, rfl, ?_⟩
      refine HT_cons (HS_setD (i := 6) (k := 0 + 1 + 0) (P := IsI fun x => Bz 8 x) (HD_sub (p := fun r => 0 ≤ r ∧ r < 2 * (wd : Int) + 1) (q := fun x => x = (wd : Int)) (HD_callG (gi := 0) (P' := fun ds => ds = [.int (2 * (wd : Int) + 1)]) k1 hr rfl (HDA_cons (k := 0) (Pa := fun d => d = .int (2 * (wd : Int) + 1)) (HD_of (HV_add (HV_mulS HV_int (HV_var (i := 2) rfl) (by decide)) HV_int) 0) fun d hd => HDA_nil (by rw [hd])) (fun ds hds => (by subst hds; exact ⟨rfl, _, rfl, by omega, by omega, fun r r0 r1 => ⟨r, rfl, r0, r1⟩⟩)) (by show c + 0 + 1 ≤ 900000000; omega)) (HD_of (HVi (HV_var (i := 2) rfl)) 0) fun i j hi hj => ⟨_, rfl, by unfold Bz; omega⟩) fun d hd => ?_)
      obtain ⟨x, rfl, bx⟩ := hd
      refine HT_one (HS_asgX (P := fun d => d = .tuple [.int x, .int x]) (HV_tup (HA_cons (HV_var (i := 6) rfl) (HA_cons (HV_var (i := 6) rfl) HA_nil)) (show 2 ≤ 100000 by decide)) (HGX_tup (n := 2) (HGXs_cons (HGX_cell (i := 3)) (HGXs_cons (HGX_cell (i := 3)) HGXs_nil)) xlen2) fun d hd => ?_)
      subst hd
      refine ⟨_, ⟨_, rfl, _, _, _, rfl, cell_ok (V := fun a i => if a = k ∧ i = k + j then x else M a i) rfl rfl (HV_var (i := 4) rfl) (HV_var (i := 5) rfl) hk (by omega) (fun a i _ _ => rfl), _, _, _, rfl, cell_ok (V := fun a i => if a = k + j ∧ i = k then x else if a = k ∧ i = k + j then x else M a i) rfl rfl (HV_var (i := 5) rfl) (HV_var (i := 4) rfl) (by omega) hk (fun a i _ _ => rfl), rfl, rfl⟩, _, .dat (.int ((k + j : Nat) : Int)), .dat (.int x), _, ?_, ?_, ?_, rfl, rfl⟩
      · intro a i ha hi
        show (if a = k + j ∧ i = k then x else if a = k ∧ i = k + j then x else M a i) = (if i = k + j ∧ a = k then x else if i = k ∧ a = k + j then x else M i a)
        by_cases c1 : a = k + j ∧ i = k
        · rw [if_pos c1]
          by_cases c2 : i = k + j ∧ a = k
          · rw [if_pos c2]
          · rw [if_neg c2, if_pos ⟨c1.2, c1.1⟩]
        · rw [if_neg c1]
          by_cases c2 : a = k ∧ i = k + j
          · rw [if_pos c2, if_pos ⟨c2.2, c2.1⟩]
          · rw [if_neg c2, if_neg (fun z => c2 ⟨z.2, z.1⟩), if_neg (fun z => c1 ⟨z.2, z.1⟩)]
            exact hs a i ha hi
      · intro a i ha hi
        show Bz 8 (if a = k + j ∧ i = k then x else if a = k ∧ i = k + j then x else M a i)
        split
        · exact bx
        · split
          · exact bx
          · exact hB a i ha hi
      · show c + (0 + 1 + 0) ≤ _
        omega
    · subst e1
      rw [List.length_map, List.length_range] at hc
      exact ⟨M, _, u5, u6, c, hs, hB, by omega, hno, rfl⟩
  · subst e1
    rw [List.length_map, List.length_range] at hc
    exact HT_frzM rfl (HT_one (HS_retV (HV_var (i := 3) (d := mat n M) rfl) ⟨by show c ≤ m + 9; omega, p M hs hB⟩))
abbrev KDrawn (P : Program) (w : World) (K : PySem.W.Frag) (mg : Str → Option Value) (base : Heap) : Prop := Kn P w K mg base "_law_drawn" 3 (spG 2 9 W_drawn)
end
end WS
set_option Elab.async false
set_option linter.all false
set_option maxRecDepth 100000
set_option maxHeartbeats 4000000
set_option autoImplicit false
namespace WS
open PySem PySem.Spec PyProof.Rows L2
/-- a number put at a, i -/
def putM (M : Sq.Mx) (p q : Nat) (v : Int) : Sq.Mx := fun a i => if a = p ∧ i = q then v else M a i
theorem putM_bz {k n : Nat} {M : Sq.Mx} {p q : Nat} {v : Int} (h : BzM k n M) (hv : Bz k v) : BzM k n (putM M p q v) := fun a i ha hi => by
  unfold putM; split
  · exact hv
  · exact h a i ha hi
theorem putM_diag {n : Nat} {M : Sq.Mx} {p : Nat} {v : Int} (h : Sym n M) : Sym n (putM M p p v) := fun a i ha hi => by
  unfold putM
  by_cases c : a = p ∧ i = p
  · rw [if_pos c, if_pos ⟨c.2, c.1⟩]
  · rw [if_neg c, if_neg (fun z => c ⟨z.2, z.1⟩)]; exact h a i ha hi
theorem putM_pair {n : Nat} {M : Sq.Mx} {p q : Nat} {v : Int} (h : Sym n M) : Sym n (putM (putM M p q v) q p v) := fun a i ha hi => by
  unfold putM
  by_cases c1 : a = q ∧ i = p
  · rw [if_pos c1]
    by_cases c2 : i = q ∧ a = p
    · rw [if_pos c2]
    · rw [if_neg c2, if_pos ⟨c1.2, c1.1⟩]
  · rw [if_neg c1]
    by_cases c2 : a = p ∧ i = q
    · rw [if_pos c2, if_pos ⟨c2.2, c2.1⟩]
    · rw [if_neg c2, if_neg (fun z => c2 ⟨z.2, z.1⟩), if_neg (fun z => c1 ⟨z.2, z.1⟩)]
      exact h a i ha hi
theorem kif (kd : Int) : (if decide (kd = 9) = true then PyData.int (kd - 8) else .int kd) = .int (if kd = 9 then kd - 8 else kd) := by
  by_cases y : kd = 9
  · rw [if_pos y, decide_eq_true y, if_pos rfl]
  · rw [if_neg y, decide_eq_false y, if_neg (by decide)]
theorem HC_imp {Z : Ctx} {bs : Bs} {en : En} {e : Expr} {P P' : Bool → Prop} (h : HC Z bs e en P) (k : ∀ z, P z → P' z) : HC Z bs e en P' := fun σ F H R Q q => h σ F H R Q fun z F' H' R' s p => q z F' H' R' s (k z p)
section
variable {P : Program} {w : World} {K : PySem.W.Frag} {mg : Str → Option Value} {base : Heap} {C : Addr}
theorem pow_le4 {n k : Nat} (h : n ≤ k) : (2 : Int) ^ n ≤ 2 ^ k := Int.le_of_dvd (Sq.pos2 _) (Sq.pdvd h)
def W_pieced : List PyData → (PyData → Prop) → Prop := fun ds P => ∃ n dp : Nat, ds = [.int (n : Int), .int (dp : Int)] ∧ n ≤ 3 ∧ dp ≤ 3 ∧ ∀ M : Sq.Mx, Sym n M → BzM 8 n M → P (mat n M)
theorem ok_pieced {f : Addr} {fd : FuncData} (F : Fun K "_law_pieced" "_law_pieced" (topS 51) f fd) (T : Gs mg) (k1 : KRand P w K mg base) (k2 : KTwo P w K mg base) : FnOk P w K mg base CX0 3 f fd ["_law_generator_here", "_law_size", "_law_deep"] (spG 2 9 W_pieced) := by
  refine fn_okG (N := ["_law_generator_here", "_law_size", "_law_deep", "_law_found", "_law_place", "_law_by", "_law_kind", "_law_turn"]) F ⟨rfl, rfl, rfl, by decide +kernel, rfl, by decide +kernel, by decide +kernel⟩ rfl (by decide) fun cd A outer s H E hr bs ds Pd m ho hm h hl => ?_
  obtain ⟨n, dp, rfl, hn, hdp, p⟩ := h
  refine HT_cons (HS_parE (i := 3) (j := 4) (HAe_mat (m := (List.range n).map fun _ => List.replicate n (.int 0)) (HNm_lc (xs := List.range n) (c := fun i => PyData.int (i : Nat)) (h := fun _ => List.replicate n (.int 0)) (own := [("_law_turn", 7)]) (f := fName 7) (HI_rangeN T.range (HV_var (i := 1) rfl) (by omega)) (blkOk_by (by rfl)) (HG_name (i := 7)) (fun i hi => ⟨_, rfl, HNl_rep (HV_list (HA_cons HV_int HA_nil) (show 1 ≤ 100000 by decide)) (HV_var (i := 1) rfl) (by omega)⟩) (by simp; omega)) fun a rs => HAe_dat (Pd := fun d => d = .int 0) HV_int fun d hd => HAe_nil ⟨rfl, _, _, rfl, ?_⟩))
  subst hd
  rw [zero_mat]
  refine HT_cons (HS_while (fun en => ∃ (M : Sq.Mx) (pl c : Nat) (u5 u6 : Ent), Sym n M ∧ BzM 8 n M ∧ pl ≤ n ∧ c ≤ m + 2 * pl ∧ noOwn [u5, u6] = true ∧ en = { sl := [.gen, .dat (.int (n : Int)), .dat (.int (dp : Int)), .own, .dat (.int (pl : Nat)), u5, u6, .un], ow := .mat a rs (matL n M), ct := c }) (fun en => match en.sl with
    | _ :: _ :: _ :: _ :: .dat (.int x) :: _ => ((n : Int) - x).toNat
    | _ => 0) ⟨fun _ _ => 0, 0, m, .un, .un, fun _ _ _ _ => rfl, fun _ _ _ _ => bz0 _, Nat.zero_le _, by omega, rfl, rfl⟩ fun en1 ⟨M, pl, c, u5, u6, hs, hB, hpl, hc, hno, e1⟩ => ?_)
  subst e1
  refine HC_lt (HV_var (i := 4) rfl) (HV_var (i := 1) rfl) ?_
  by_cases z : (pl : Int) < (n : Int)
  · rw [decide_eq_true z, if_pos rfl]
    have hpn : pl < n := by omega
    refine HT_cons (HS_parD (i := 5) (j := 6) (HDA_cons (Pa := fun d => ∃ r : Nat, r ≤ 3 ∧ d = .int (2 ^ r)) (HD_call (P' := fun ds => ∃ r : Nat, r ≤ 3 ∧ ds = [.int (r : Int)]) k2 (hr.mono (by decide)) (HDA_cons (Pa := IsI fun r => 0 ≤ r ∧ r < (dp : Int) + 1) (HD_callG (gi := 0) (P' := fun ds => ds = [.int ((dp : Int) + 1)]) k1 hr rfl (HDA_cons (k := 0) (Pa := fun d => d = .int ((dp : Int) + 1)) (HD_of (HV_add (HV_var (i := 2) rfl) HV_int) 0) fun d hd => HDA_nil (by rw [hd])) (fun ds hds => (by subst hds; exact ⟨rfl, _, rfl, by omega, by omega, fun r r0 r1 => ⟨r, rfl, r0, r1⟩⟩)) (by show c + (0 + 0) + 1 ≤ 900000000; omega)) fun d hd => HDA_nil (by
      obtain ⟨r, rfl, r0, r1⟩ := hd
      exact ⟨r.toNat, by omega, by rw [Int.toNat_of_nonneg r0]⟩)) fun ds hds => (by
      obtain ⟨r, hr3, rfl⟩ := hds
      exact ⟨rfl, r, rfl, by omega, r, hr3, rfl⟩)) fun d hd => HDA_cons (Pa := fun d => d ∈ [PyData.int 1, .int 3, .int 5, .int 7, .int 0, .int 2, .int 9]) (HD_ixL (ds := [.int 1, .int 3, .int 5, .int 7, .int 0, .int 2, .int 9]) (HV_list (HA_cons HV_int (HA_cons HV_int (HA_cons HV_int (HA_cons HV_int (HA_cons HV_int (HA_cons HV_int (HA_cons HV_int HA_nil))))))) (show 7 ≤ 100000 by decide)) (HD_callG (gi := 0) (P' := fun ds => ds = [.int 7]) k1 hr rfl (HDA_cons (k := 0) (Pa := fun d => d = .int 7) (HD_of HV_int 0) fun d hd => HDA_nil (by rw [hd])) (fun ds hds => (by subst hds; exact ⟨rfl, 7, rfl, by decide, by decide, fun r r0 r1 => ⟨r, rfl, r0, r1⟩⟩)) (by show ((c + (0 + 0 + 1 + 0)) + 0) + (0 + 0) + 1 ≤ 900000000; omega)) (fun d hd => hd)) fun d2 hd2 => HDA_nil ⟨d, d2, rfl, ?_⟩))
    obtain ⟨r, hr3, rfl⟩ := hd
    obtain ⟨kd, rfl, kd0, kd9⟩ : ∃ kd : Int, d2 = .int kd ∧ 0 ≤ kd ∧ kd ≤ 9 := by
      simp only [List.mem_cons, List.not_mem_nil, or_false] at hd2
      rcases hd2 with e | e | e | e | e | e | e <;> exact ⟨_, e, by decide, by decide⟩
    have b2 : (2 : Int) ^ r ≤ 8 := pow_le4 hr3
    have b0 := Sq.pos2 r
    refine HT_one (HS_if (HC_imp (P := fun k => k = true → pl + 1 < n) (HW.hc (HW_and (HC_in (ns := [0, 2]) (HV_var (i := 6) rfl) (HV.he (HV_list (HA_cons HV_int (HA_cons HV_int HA_nil)) (show 2 ≤ 100000 by decide)) (.inl rfl)) ?_))) fun k hk => ?_))
    · cases decide (kd ∈ [(0 : Int), 2]) with
      | false => rw [if_neg (by decide)]; exact fun y => nomatch y
      | true =>
        rw [if_pos rfl]
        exact HW_and1 (HC_lt (HV_add (HV_var (i := 4) rfl) HV_int) (HV_var (i := 1) rfl) fun y => by have := of_decide_eq_true y; omega)
    cases k with
    | true =>
      have hp2 := hk rfl
      rw [if_pos rfl]
      have hv : Bz 8 (2 ^ r * kd) := by
        have h2 : (2 : Int) ^ r * kd ≤ 8 * 9 := Int.mul_le_mul b2 kd9 kd0 (by decide)
        exact Bz.of_lt (Int.mul_nonneg (by omega) kd0) (by show _ < (256 : Int); omega)
      have hw : Bz 8 (2 ^ r) := Bz.of_lt (by omega) (by show _ < (256 : Int); omega)
      refine HT_cons (HS_asgX (P := fun d => d = .tuple [.int (2 ^ r * kd), .int (2 ^ r * kd)]) (HV_tup (HA_cons (HV_mulS (HV_var (i := 5) rfl) (HV_var (i := 6) rfl) (by omega)) (HA_cons (HV_mulS (HV_var (i := 5) rfl) (HV_var (i := 6) rfl) (by omega)) HA_nil)) (show 2 ≤ 100000 by decide)) (HGX_tup (n := 2) (HGXs_cons (HGX_cell (i := 3)) (HGXs_cons (HGX_cell (i := 3)) HGXs_nil)) xlen2) fun d hd => ?_)
      subst hd
      refine ⟨_, ⟨_, rfl, _, _, _, rfl, cell_ok (V := putM M pl pl (2 ^ r * kd)) rfl rfl (HV_var (i := 4) rfl) (HV_var (i := 4) rfl) hpn hpn (fun _ _ _ _ => rfl), _, _, _, rfl, cell_ok (p := pl + 1) (q := pl + 1) (V := putM (putM M pl pl (2 ^ r * kd)) (pl + 1) (pl + 1) (2 ^ r * kd)) rfl rfl (HV.to (HV_add (i := (pl : Int)) (j := 1) (HV_var (i := 4) rfl) HV_int) rfl) (HV.to (HV_add (i := (pl : Int)) (j := 1) (HV_var (i := 4) rfl) HV_int) rfl) hp2 hp2 (fun _ _ _ _ => rfl), rfl, rfl⟩, ?_⟩
      refine HT_cons (HS_asgX (P := fun d => d = .tuple [.int (2 ^ r), .int (2 ^ r)]) (HV_tup (HA_cons (HV_var (i := 5) rfl) (HA_cons (HV_var (i := 5) rfl) HA_nil)) (show 2 ≤ 100000 by decide)) (HGX_tup (n := 2) (HGXs_cons (HGX_cell (i := 3)) (HGXs_cons (HGX_cell (i := 3)) HGXs_nil)) xlen2) fun d hd => ?_)
      subst hd
      refine ⟨_, ⟨_, rfl, _, _, _, rfl, cell_ok (p := pl) (q := pl + 1) (V := putM (putM (putM M pl pl (2 ^ r * kd)) (pl + 1) (pl + 1) (2 ^ r * kd)) pl (pl + 1) (2 ^ r)) rfl rfl (HV_var (i := 4) rfl) (HV.to (HV_add (i := (pl : Int)) (j := 1) (HV_var (i := 4) rfl) HV_int) rfl) hpn hp2 (fun _ _ _ _ => rfl), _, _, _, rfl, cell_ok (p := pl + 1) (q := pl) (V := putM (putM (putM (putM M pl pl (2 ^ r * kd)) (pl + 1) (pl + 1) (2 ^ r * kd)) pl (pl + 1) (2 ^ r)) (pl + 1) pl (2 ^ r)) rfl rfl (HV.to (HV_add (i := (pl : Int)) (j := 1) (HV_var (i := 4) rfl) HV_int) rfl) (HV_var (i := 4) rfl) hp2 hpn (fun _ _ _ _ => rfl), rfl, rfl⟩, ?_⟩
      refine HT_one (HS_setV (i := 4) (d := .int ((pl + 2 : Nat) : Int)) (HV.to (HV_add (i := (pl : Int)) (j := 2) (HV_var (i := 4) rfl) HV_int) rfl) ⟨⟨_, pl + 2, c + 2, .dat (.int (2 ^ r)), .dat (.int kd), putM_pair (putM_diag (putM_diag hs)), putM_bz (putM_bz (putM_bz (putM_bz hB hv) hv) hw) hw, by omega, by omega, rfl, rfl⟩, ?_⟩)
      show ((n : Int) - ((pl + 2 : Nat) : Int)).toNat < ((n : Int) - (pl : Int)).toNat
      omega
    | false =>
      rw [if_neg (by decide)]
      have hv : Bz 8 (2 ^ r * (if kd = 9 then kd - 8 else kd)) := by
        have h1 : 0 ≤ (if kd = 9 then kd - 8 else kd) ∧ (if kd = 9 then kd - 8 else kd) ≤ 8 := by split <;> omega
        have h2 : (2 : Int) ^ r * (if kd = 9 then kd - 8 else kd) ≤ 8 * 8 := Int.mul_le_mul b2 h1.2 h1.1 (by decide)
        exact Bz.of_lt (Int.mul_nonneg (by omega) h1.1) (by show _ < (256 : Int); omega)
      refine HT_one (HS_asgX (P := fun d => d = .tuple [.int (2 ^ r * (if kd = 9 then kd - 8 else kd)), .int ((pl + 1 : Nat) : Int)]) (HV.to (HV_tup (HA_cons (HV_mulS (i := 2 ^ r) (j := if kd = 9 then kd - 8 else kd) (HV_var (i := 5) rfl) (HV.to (HV_if (k := decide (kd = 9)) (d1 := .int (kd - 8)) (d2 := .int kd) (HC_eqI (HV_var (i := 6) rfl) HV_int rfl) (fun _ => HV_sub (HV_var (i := 6) rfl) HV_int) (fun _ => HV_var (i := 6) rfl)) (kif kd)) (by omega)) (HA_cons (HV_add (HV_var (i := 4) rfl) HV_int) HA_nil)) (show 2 ≤ 100000 by decide)) rfl) (HGX_tup (n := 2) (HGXs_cons (HGX_cell (i := 3)) (HGXs_cons (HG_name (i := 4)).x HGXs_nil)) xlen2) fun d hd => ?_)
      subst hd
      refine ⟨_, ⟨_, rfl, _, _, _, rfl, cell_ok (V := putM M pl pl (2 ^ r * (if kd = 9 then kd - 8 else kd))) rfl rfl (HV_var (i := 4) rfl) (HV_var (i := 4) rfl) hpn hpn (fun _ _ _ _ => rfl), _, _, _, rfl, rfl, rfl, rfl⟩, ⟨putM M pl pl (2 ^ r * (if kd = 9 then kd - 8 else kd)), pl + 1, c + 2, .dat (.int (2 ^ r)), .dat (.int kd), putM_diag hs, putM_bz hB hv, by omega, by omega, rfl, rfl⟩, ?_⟩
      show ((n : Int) - ((pl + 1 : Nat) : Int)).toNat < ((n : Int) - (pl : Int)).toNat
      omega
  · rw [decide_eq_false z, if_neg (by decide)]
    exact HT_frzM rfl (HT_one (HS_retV (HV_var (i := 3) (d := mat n M) rfl) ⟨by show c ≤ m + 9; omega, p M hs hB⟩))
abbrev KPieced (P : Program) (w : World) (K : PySem.W.Frag) (mg : Str → Option Value) (base : Heap) : Prop := Kn P w K mg base "_law_pieced" 3 (spG 2 9 W_pieced)
end
end WS
set_option Elab.async false
set_option linter.all false
set_option maxRecDepth 100000
set_option maxHeartbeats 4000000
set_option autoImplicit false
namespace WS
open PySem PySem.Spec PyProof.Rows L2
section
variable {P : Program} {w : World} {K : PySem.W.Frag} {mg : Str → Option Value} {base : Heap} {C : Addr}
def W_form : List PyData → (PyData → Prop) → Prop := fun ds P => ∃ n dp : Nat, ds = [.int (n : Int), .int (dp : Int)] ∧ n ≤ 3 ∧ dp ≤ 3 ∧ ∀ M : Sq.Mx, Sym n M → BzM 8 n M → P (mat n M)
theorem ok_form {f : Addr} {fd : FuncData} (F : Fun K "_law_form" "_law_form" (topS 52) f fd) (T : Gs mg) (k1 : KRand P w K mg base) (k2 : KPieced P w K mg base) (k3 : KDrawn P w K mg base) : FnOk P w K mg base CX0 4 f fd ["_law_generator_here", "_law_size", "_law_deep"] (spG 2 11 W_form) := by
  refine fn_okG (N := ["_law_generator_here", "_law_size", "_law_deep"]) F ⟨rfl, rfl, rfl, by decide +kernel, rfl, by decide +kernel, by decide +kernel⟩ rfl (by decide) fun cd A outer s H E hr bs ds Pd m ho hm h hl => ?_
  obtain ⟨n, dp, rfl, hn, hdp, p⟩ := h
  refine HT_cons (HS_ifD (k := 0 + 0 + 1 + 0) (HDC_eqI (p := fun _ => True) (q := fun _ => True) (HD_callG (gi := 0) (P' := fun ds => ds = [.int 2]) k1 (hr.mono (by decide)) rfl (HDA_cons (k := 0) (Pa := fun d => d = .int 2) (HD_of HV_int 0) fun d hd => HDA_nil (by rw [hd])) (fun ds hds => (by subst hds; exact ⟨rfl, 2, rfl, by decide, by decide, fun r _ _ => ⟨r, rfl, trivial⟩⟩)) (by show m + (0 + 0) + 1 ≤ 900000000; omega)) (HD_of (HV.he HV_int ⟨_, rfl, trivial⟩) 0) fun i j _ _ => ?_))
  cases decide (i = j) with
  | true =>
    rw [if_pos rfl]
    exact HT_one (HS_retD (P := Pd) (HD_callG (gi := 0) (P' := fun ds => ds = [.int (n : Int), .int (dp : Int)]) k2 hr rfl (HDA_cons (k := 0) (Pa := fun d => d = .int (n : Int)) (HD_of (HV_var (i := 1) rfl) 0) fun d hd => HDA_cons (k := 0) (Pa := fun d => d = .int (dp : Int)) (HD_of (HV_var (i := 2) rfl) 0) fun d2 hd2 => HDA_nil (by rw [hd, hd2])) (fun ds hds => (by subst hds; exact ⟨rfl, n, dp, rfl, hn, hdp, p⟩)) (by show m + (0 + 0 + 1 + 0) + (0 + (0 + 0)) + 9 ≤ 900000000; omega)) fun d hd => ⟨by show m + (0 + 0 + 1 + 0) + (0 + (0 + 0) + 9) ≤ m + 11; omega, hd⟩)
  | false =>
    rw [if_neg (by decide)]
    refine HT_nil ?_
    exact HT_one (HS_retD (P := Pd) (HD_callG (gi := 0) (P' := fun ds => ∃ wd : Nat, wd ≤ 20 ∧ ds = [.int (n : Int), .int (wd : Int)]) k3 hr rfl (HDA_cons (k := 0) (Pa := fun d => d = .int (n : Int)) (HD_of (HV_var (i := 1) rfl) 0) fun d hd => HDA_cons (k := 0 + (0 + 0 + 1)) (Pa := fun d => ∃ wd : Nat, wd ≤ 20 ∧ d = .int (wd : Int)) (HD_ixL (ds := [.int 1, .int 4, .int 20]) (HV_list (HA_cons HV_int (HA_cons HV_int (HA_cons HV_int HA_nil))) (show 3 ≤ 100000 by decide)) (HD_callG (gi := 0) (P' := fun ds => ds = [.int 3]) k1 (hr.mono (by decide)) rfl (HDA_cons (k := 0) (Pa := fun d => d = .int 3) (HD_of HV_int 0) fun d hd => HDA_nil (by rw [hd])) (fun ds hds => (by subst hds; exact ⟨rfl, 3, rfl, by decide, by decide, fun r r0 r1 => ⟨r, rfl, r0, r1⟩⟩)) (by show m + (0 + 0 + 1 + 0) + 0 + 0 + (0 + 0) + 1 ≤ 900000000; omega)) (fun d hd => by
      simp only [List.mem_cons, List.not_mem_nil, or_false] at hd
      rcases hd with e | e | e
      · exact ⟨1, by decide, e⟩
      · exact ⟨4, by decide, e⟩
      · exact ⟨20, by decide, e⟩)) fun d2 hd2 => HDA_nil (by
        obtain ⟨wd, h1, rfl⟩ := hd2
        exact ⟨wd, h1, by rw [hd]⟩)) (fun ds hds => (by
        obtain ⟨wd, h1, rfl⟩ := hds
        exact ⟨rfl, n, wd, rfl, hn, h1, p⟩)) (by show m + (0 + 0 + 1 + 0) + (0 + (0 + (0 + 0 + 1) + 0)) + 9 ≤ 900000000; omega)) fun d hd => ⟨by show m + (0 + 0 + 1 + 0) + (0 + (0 + (0 + 0 + 1) + 0) + 9) ≤ m + 11; omega, hd⟩)
abbrev KForm (P : Program) (w : World) (K : PySem.W.Frag) (mg : Str → Option Value) (base : Heap) : Prop := Kn P w K mg base "_law_form" 4 (spG 2 11 W_form)
end
end WS
set_option Elab.async false
set_option linter.all false
set_option maxRecDepth 100000
set_option maxHeartbeats 4000000
set_option autoImplicit false
namespace WS
open PySem PySem.Spec PyProof.Rows L2
/-- the sizes and widths that can be listed -/
def SmOk (n w : Nat) : Prop := 1 ≤ n ∧ n ≤ 3 ∧ 1 ≤ w ∧ w ≤ 5 ∧ (2 ^ w) ^ n ≤ 100
section
variable {P : Program} {w : World} {K : PySem.W.Frag} {mg : Str → Option Value} {base : Heap} {C : Addr}
def tupI (a b : Int) : PyData := .tuple [.int a, .int b]
def W_small : List PyData → (PyData → Prop) → Prop := fun ds P => ds = [] ∧ ∀ (n w : Nat) (M : Sq.Mx), SmOk n w → Sym n M → BzM 8 n M → P (.tuple [.int (w : Int), mat n M])
theorem ok_small {f : Addr} {fd : FuncData} (F : Fun K "_law_small" "_law_small" (topS 57) f fd) (T : Gs mg) (k1 : KRand P w K mg base) (k2 : KForm P w K mg base) : FnOk P w K mg base CX0 5 f fd ["_law_generator_here"] (spG 0 12 W_small) := by
  refine fn_okG (N := ["_law_generator_here", "_law_size", "_law_width_there"]) F ⟨rfl, rfl, rfl, by decide +kernel, rfl, by decide +kernel, by decide +kernel⟩ rfl (by decide) fun cd A outer s H E hr bs ds Pd m ho hm h hl => ?_
  obtain ⟨rfl, p⟩ := h
  have t2 : ∀ a b : Int, True := fun _ _ => trivial
  refine HT_cons (HS_asgD (k := 0 + (0 + 0 + 1)) (P := fun d => ∃ n w : Nat, SmOk n w ∧ d = .tuple [.int (n : Int), .int (w : Int)]) (HD_ixL (ds := [tupI 1 1, tupI 1 3, tupI 1 5, tupI 2 1, tupI 2 2, tupI 2 3, tupI 3 1, tupI 3 2]) (HV_list (HA_cons (HV_tup (HA_cons HV_int (HA_cons HV_int HA_nil)) (show 2 ≤ 100000 by decide)) (HA_cons (HV_tup (HA_cons HV_int (HA_cons HV_int HA_nil)) (show 2 ≤ 100000 by decide)) (HA_cons (HV_tup (HA_cons HV_int (HA_cons HV_int HA_nil)) (show 2 ≤ 100000 by decide)) (HA_cons (HV_tup (HA_cons HV_int (HA_cons HV_int HA_nil)) (show 2 ≤ 100000 by decide)) (HA_cons (HV_tup (HA_cons HV_int (HA_cons HV_int HA_nil)) (show 2 ≤ 100000 by decide)) (HA_cons (HV_tup (HA_cons HV_int (HA_cons HV_int HA_nil)) (show 2 ≤ 100000 by decide)) (HA_cons (HV_tup (HA_cons HV_int (HA_cons HV_int HA_nil)) (show 2 ≤ 100000 by decide)) (HA_cons (HV_tup (HA_cons HV_int (HA_cons HV_int HA_nil)) (show 2 ≤ 100000 by decide)) HA_nil)))))))) (show 8 ≤ 100000 by decide)) (HD_callG (gi := 0) (P' := fun ds => ds = [.int 8]) k1 (hr.mono (by decide)) rfl (HDA_cons (k := 0) (Pa := fun d => d = .int 8) (HD_of HV_int 0) fun d hd => HDA_nil (by rw [hd])) (fun ds hds => (by subst hds; exact ⟨rfl, 8, rfl, by decide, by decide, fun r r0 r1 => ⟨r, rfl, r0, r1⟩⟩)) (by show m + 0 + (0 + 0) + 1 ≤ 900000000; omega)) ?_) (HGX_tup (n := 2) (HGXs_cons (HG_name (i := 1)).x (HGXs_cons (HG_name (i := 2)).x HGXs_nil)) xlen2) fun d hd => ?_)
  · intro d hd
    simp only [List.mem_cons, List.not_mem_nil, or_false] at hd
    rcases hd with e | e | e | e | e | e | e | e
    · exact ⟨1, 1, by unfold SmOk; decide, e⟩
    · exact ⟨1, 3, by unfold SmOk; decide, e⟩
    · exact ⟨1, 5, by unfold SmOk; decide, e⟩
    · exact ⟨2, 1, by unfold SmOk; decide, e⟩
    · exact ⟨2, 2, by unfold SmOk; decide, e⟩
    · exact ⟨2, 3, by unfold SmOk; decide, e⟩
    · exact ⟨3, 1, by unfold SmOk; decide, e⟩
    · exact ⟨3, 2, by unfold SmOk; decide, e⟩
  obtain ⟨n, w', hsm, rfl⟩ := hd
  refine ⟨_, ⟨_, rfl, _, _, _, rfl, rfl, _, _, _, rfl, rfl, rfl, rfl⟩, ?_⟩
  refine HT_one (HS_retD (P := Pd) (HD_tup (P' := fun ds => ∃ M : Sq.Mx, Sym n M ∧ BzM 8 n M ∧ ds = [.int (w' : Int), mat n M]) (HDA_cons (k := 0) (Pa := fun d => d = .int (w' : Int)) (HD_of (HV_var (i := 2) rfl) 0) fun d hd => HDA_cons (k := 0 + (0 + 0) + 11) (Pa := fun d => ∃ M : Sq.Mx, Sym n M ∧ BzM 8 n M ∧ d = mat n M) (HD_callG (gi := 0) (P' := fun ds => ds = [.int (n : Int), .int 3]) k2 hr rfl (HDA_cons (k := 0) (Pa := fun d => d = .int (n : Int)) (HD_of (HV_var (i := 1) rfl) 0) fun d hd => HDA_cons (k := 0) (Pa := fun d => d = .int 3) (HD_of HV_int 0) fun d2 hd2 => HDA_nil (by rw [hd, hd2])) (fun ds hds => (by subst hds; exact ⟨rfl, n, 3, rfl, hsm.2.1, by decide, fun M hs hB => ⟨M, hs, hB, rfl⟩⟩)) (by show m + (0 + (0 + 0 + 1)) + 0 + (0 + (0 + 0)) + 11 ≤ 900000000; omega)) fun d2 hd2 => HDA_nil (by
    obtain ⟨M, hs, hB, rfl⟩ := hd2
    exact ⟨M, hs, hB, by rw [hd]⟩)) fun ds hds => (by
    obtain ⟨M, hs, hB, rfl⟩ := hds
    exact ⟨show 2 ≤ 100000 by decide, p n w' M hsm hs hB⟩)) fun d hd => ⟨by show m + (0 + (0 + 0 + 1)) + (0 + (0 + (0 + 0) + 11 + 0)) ≤ m + 12; omega, hd⟩)
abbrev KSmall (P : Program) (w : World) (K : PySem.W.Frag) (mg : Str → Option Value) (base : Heap) : Prop := Kn P w K mg base "_law_small" 5 (spG 0 12 W_small)
end
end WS
set_option Elab.async false
set_option linter.all false
set_option maxRecDepth 100000
set_option maxHeartbeats 4000000
set_option autoImplicit false
namespace WS
open PySem PySem.Spec PyProof.Rows L2
theorem xlen3 {f g h : Bs → En → PyData → En → Prop} : ∀ (b : Bs) (en : En) (ds : List PyData) (en' : En), xCons f (xCons g (xCons h xNil)) b en ds en' → ds.length = 3 := by
  rintro b en ds en' ⟨x, r, e1, rfl, _, y, r2, e2, rfl, _, z, r3, e3, rfl, _, rfl, _⟩
  rfl
theorem dif (i q : Nat) (x y : Int) : (if decide ((i : Int) = (q : Int)) = true then PyData.int x else .int y) = .int (if i = q then x else y) := by
  by_cases z : i = q
  · subst z; rw [if_pos rfl, decide_eq_true rfl, if_pos rfl]
  · rw [if_neg z, decide_eq_false (by omega), if_neg (by decide)]
def mv1 (R : Sq.Mx) (p q : Nat) (b : Int) : Sq.Mx := fun i j => if i = q then R i j + b * R p j else R i j
def mv2 (R : Sq.Mx) (p q : Nat) (b : Int) : Sq.Mx := fun i j => if j = q then R i j + b * R i p else R i j
theorem mv_both {n p q : Nat} (hp : p < n) (hq : q < n) (hpq : p ≠ q) (b : Int) (R : Sq.Mx) {i j : Nat} (hi : i < n) (hj : j < n) : mv2 (mv1 R p q b) p q b i j = Sq.cb (Sq.ns n) R (Sq.mvU p q b) i j := by
  rw [Sq.mv_cb hp hq hpq R i j hi hj]
  unfold mv2 mv1
  by_cases c1 : i = q
  · rw [if_pos c1, if_pos c1, if_pos c1, if_pos c1]
    by_cases c2 : j = q
    · rw [if_pos c2, if_pos c2]
    · rw [if_neg c2, if_neg c2]; omega
  · rw [if_neg c1, if_neg c1, if_neg c1, if_neg c1]
    by_cases c2 : j = q
    · rw [if_pos c2, if_pos c2, Int.add_zero, Int.add_zero]
    · rw [if_neg c2, if_neg c2, Int.add_zero, Int.add_zero]
theorem bz_step {k : Nat} {x b y : Int} (hx : Bz k x) (hb : Bz 3 b) (hy : Bz k y) : Bz (k + 3) (x + b * y) := by
  unfold Bz at *
  have h1 := Int.natAbs_add_le x (b * y)
  rw [Int.natAbs_mul] at h1
  have h2 : b.natAbs * y.natAbs ≤ 7 * y.natAbs := Nat.mul_le_mul_right _ (by omega)
  rw [Nat.pow_add]
  omega
theorem mv1_bz {k n p q : Nat} {R : Sq.Mx} {b : Int} (hp : p < n) (h : BzM k n R) (hb : Bz 3 b) : BzM (k + 3) n (mv1 R p q b) := fun i j hi hj => by
  unfold mv1; split
  · exact bz_step (h i j hi hj) hb (h p j hp hj)
  · exact (h i j hi hj).mono (by omega)
theorem mv2_bz {k n p q : Nat} {R : Sq.Mx} {b : Int} (hp : p < n) (h : BzM k n R) (hb : Bz 3 b) : BzM (k + 3) n (mv2 R p q b) := fun i j hi hj => by
  unfold mv2; split
  · exact bz_step (h i j hi hj) hb (h i p hi hp)
  · exact (h i j hi hj).mono (by omega)
theorem mv_sym {n p q : Nat} (hp : p < n) (hq : q < n) (hpq : p ≠ q) {b : Int} {R : Sq.Mx} (h : Sym n R) : Sym n (Sq.cb (Sq.ns n) R (Sq.mvU p q b)) := fun i j hi hj => by
  rw [Sq.mv_cb hp hq hpq R i j hi hj, Sq.mv_cb hp hq hpq R j i hj hi]
  by_cases c1 : i = q
  · by_cases c2 : j = q
    · rw [c1, c2]
    · simp only [if_pos c1, if_neg c2, Int.add_zero]
      rw [h i j hi hj, h p j hp hj]
  · by_cases c2 : j = q
    · simp only [if_neg c1, if_pos c2, Int.add_zero]
      rw [h i j hi hj, h i p hi hp]
    · simp only [if_neg c1, if_neg c2, Int.add_zero]
      exact h i j hi hj
section
variable {P : Program} {w : World} {K : PySem.W.Frag} {mg : Str → Option Value} {base : Heap} {C : Addr}
def W_moved : List PyData → (PyData → Prop) → Prop := fun ds P => ∃ (n : Nat) (R : Sq.Mx), ds = [mat n R] ∧ 1 ≤ n ∧ n ≤ 6 ∧ Sym n R ∧ BzM 8 n R ∧ ∀ R' : Sq.Mx, Sym n R' → BzM 140 n R' → (∀ w, Sq.nz w (Sq.ns n) R' = Sq.nz w (Sq.ns n) R) → P (mat n R')
theorem ok_moved {f : Addr} {fd : FuncData} (F : Fun K "_law_moved" "_law_moved" (topS 58) f fd) (T : Gs mg) (k1 : KRand P w K mg base) : FnOk P w K mg base CX0 3 f fd ["_law_generator_here", "_law_rows"] (spG 1 54 W_moved) := by
  refine fn_okG (N := ["_law_generator_here", "_law_rows", "_law_size", "_law_turn", "_law_place", "_law_at", "_law_by", "_law_here", "_law_row", "_law_spot", "_law_item"]) F ⟨rfl, rfl, rfl, by decide +kernel, rfl, by decide +kernel, by decide +kernel⟩ rfl (by decide) fun cd A outer s H E hr bs ds Pd m ho hm h hl => ?_
  obtain ⟨n, R, rfl, h1n, hn, hs, hB, p⟩ := h
  have hlen : ∀ (d : PyData), d = PyData.int (((List.range n).map fun i => PyData.list (rowL n (R i))).length : Nat) → d = .int (n : Int) := fun d e => by rw [e]; simp
  refine HT_cons (HS_setV (i := 2) (HV.to (HV_len T.len (HV.to (HV_var (i := 1) (d := mat n R) rfl) (mat_eq n R))) (hlen _ rfl)) ?_)
  refine HT_cons (HS_for (ds := (List.range (3 * n)).map fun i => PyData.int (i : Nat)) (vs := [3]) (f := fName 3) (HI_rangeN T.range (HV.to (HV_mulS (i := 3) (j := (n : Int)) HV_int (HV_var (i := 2) rfl) (by decide)) (by congr 1)) (by omega)) (HG_name (i := 3)) (fun k en => ∃ (M : Sq.Mx) (u3 u4 u5 u6 : Ent) (c : Nat), Sym n M ∧ BzM (8 + 6 * k) n M ∧ (∀ w, Sq.nz w (Sq.ns n) M = Sq.nz w (Sq.ns n) R) ∧ c ≤ m + 3 * k ∧ en = { sl := [.gen, .dat (mat n M), .dat (.int (n : Int)), u3, u4, u5, u6, .un, .un, .un, .un], ct := c }) ⟨R, .un, .un, .un, .un, m, hs, hB, fun _ => rfl, by omega, rfl⟩ (fun k d en1 hd ⟨M, u3, u4, u5, u6, c, hs, hB, hz, hc, e1⟩ => ?_) fun en1 ⟨M, u3, u4, u5, u6, c, hs, hB, hz, hc, e1⟩ => ?_)
  · subst e1
    have hk : k < 3 * n := by
      have := (List.getElem?_eq_some_iff.mp hd).1
      simpa using this
    refine ⟨_, rfl, ?_⟩
    refine HT_cons (HS_asgD (P := fun d => ∃ (p q : Nat) (b : Int), p < n ∧ q < n ∧ Bz 3 b ∧ d = .tuple [.int (p : Int), .int (q : Int), .int b]) (HD_tup (P' := fun ds => ∃ (p q : Nat) (b : Int), p < n ∧ q < n ∧ Bz 3 b ∧ ds = [.int (p : Int), .int (q : Int), .int b]) (HDA_cons (k := 0 + 0 + 1) (Pa := IsI fun r => 0 ≤ r ∧ r < (n : Int)) (HD_callG (gi := 0) (P' := fun ds => ds = [.int (n : Int)]) k1 hr rfl (HDA_cons (k := 0) (Pa := fun d => d = .int (n : Int)) (HD_of (HV_var (i := 2) rfl) 0) fun d hd => HDA_nil (by rw [hd])) (fun ds hds => (by subst hds; exact ⟨rfl, _, rfl, by omega, by omega, fun r r0 r1 => ⟨r, rfl, r0, r1⟩⟩)) (by show c + (0 + 0) + 1 ≤ 900000000; omega)) fun d1 hd1 => HDA_cons (k := 0 + 0 + 1) (Pa := IsI fun r => 0 ≤ r ∧ r < (n : Int)) (HD_callG (gi := 0) (P' := fun ds => ds = [.int (n : Int)]) k1 hr rfl (HDA_cons (k := 0) (Pa := fun d => d = .int (n : Int)) (HD_of (HV_var (i := 2) rfl) 0) fun d hd => HDA_nil (by rw [hd])) (fun ds hds => (by subst hds; exact ⟨rfl, _, rfl, by omega, by omega, fun r r0 r1 => ⟨r, rfl, r0, r1⟩⟩)) (by show c + (0 + 0 + 1) + (0 + 0) + 1 ≤ 900000000; omega)) fun d2 hd2 => HDA_cons (k := 0 + 0 + 1 + 0) (Pa := IsI fun b => Bz 3 b) (HD_sub (p := fun r => 0 ≤ r ∧ r < 9) (q := fun x => x = 4) (HD_callG (gi := 0) (P' := fun ds => ds = [.int 9]) k1 hr rfl (HDA_cons (k := 0) (Pa := fun d => d = .int 9) (HD_of HV_int 0) fun d hd => HDA_nil (by rw [hd])) (fun ds hds => (by subst hds; exact ⟨rfl, 9, rfl, by decide, by decide, fun r r0 r1 => ⟨r, rfl, r0, r1⟩⟩)) (by show c + (0 + 0 + 1) + (0 + 0 + 1) + (0 + 0) + 1 ≤ 900000000; omega)) (HD_of (HVi HV_int) 0) fun i j hi hj => ⟨_, rfl, by unfold Bz; omega⟩) fun d3 hd3 => HDA_nil (by
      obtain ⟨a, rfl, a0, a1⟩ := hd1
      obtain ⟨b, rfl, b0, b1⟩ := hd2
      obtain ⟨c, rfl, hc⟩ := hd3
      exact ⟨a.toNat, b.toNat, c, by omega, by omega, hc, by rw [Int.toNat_of_nonneg a0, Int.toNat_of_nonneg b0]⟩)) fun ds ⟨p, q, b, hp, hq, hb, e⟩ => (by subst e; exact ⟨show 3 ≤ 100000 by decide, p, q, b, hp, hq, hb, rfl⟩)) (HGX_tup (n := 3) (HGXs_cons (HG_name (i := 4)).x (HGXs_cons (HG_name (i := 5)).x (HGXs_cons (HG_name (i := 6)).x HGXs_nil))) xlen3) fun d hd => ?_)
    obtain ⟨a, q, b, ha, hq, hb, rfl⟩ := hd
    refine ⟨_, ⟨_, rfl, _, _, _, rfl, rfl, _, _, _, rfl, rfl, _, _, _, rfl, rfl, rfl, rfl⟩, ?_⟩
    refine HT_one (HS_if (HC_neI (HV_var (i := 4) rfl) (HV_var (i := 5) rfl) ?_))
    by_cases z : a = q
    · rw [decide_eq_true (by omega), if_neg (by decide)]
      exact HT_nil ⟨M, _, _, _, _, _, hs, fun i j hi hj => (hB i j hi hj).mono (by omega), hz, by show c + (0 + 0 + 1 + (0 + 0 + 1 + (0 + 0 + 1 + 0 + 0))) ≤ m + 3 * (k + 1); omega, rfl⟩
    · rw [decide_eq_false (by omega), if_pos (show (!false) = true from rfl)]
      have hb8 : -(2 ^ 64) < b ∧ b < 2 ^ 64 := by unfold Bz at hb; omega
      refine HT_cons (HS_setV (i := 1) (d := mat n (mv1 M a q b)) ?_ ?_)
      · rw [mat_eq n (mv1 M a q b)]
        refine HV_lc (xs := List.range n) (c := fun i => PyData.tuple [.int (i : Nat), .list (rowL n (M i))]) (own := [("_law_here", 7), ("_law_row", 8)]) (f := fTup (fCons (fName 7) (fCons (fName 8) fNil))) ?_ (blkOk_by (by rfl)) (HG_tup (n := 2) (HGs_cons (HG_name (i := 7)) (HGs_cons (HG_name (i := 8)) HGs_nil)) len2) (fun i hi => ⟨_, ⟨_, rfl, _, _, _, rfl, rfl, _, _, _, rfl, rfl, rfl, rfl⟩, ?_⟩) (by simp; omega)
        · rw [← enD_map n fun i => PyData.list (rowL n (M i))]
          exact HI_enum T.enumerate (HV.to (HV_var (i := 1) (d := mat n M) rfl) (mat_eq n M))
        have hi : i < n := List.mem_range.mp hi
        refine HV_lc (xs := List.range n) (c := fun j => PyData.tuple [.int (j : Nat), .int (M i j)]) (h := fun j => PyData.int (mv1 M a q b i j)) (own := [("_law_spot", 9), ("_law_item", 10)]) (f := fTup (fCons (fName 9) (fCons (fName 10) fNil))) ?_ (blkOk_by (by rfl)) (HG_tup (n := 2) (HGs_cons (HG_name (i := 9)) (HGs_cons (HG_name (i := 10)) HGs_nil)) len2) (fun j hj => ⟨_, ⟨_, rfl, _, _, _, rfl, rfl, _, _, _, rfl, rfl, rfl, rfl⟩, ?_⟩) (by simp; omega)
        · rw [← enD_map n fun j => PyData.int (M i j)]
          exact HI_enum T.enumerate (HV_var (i := 8) rfl)
        have hj : j < n := List.mem_range.mp hj
        exact HV.to (HV_if (k := decide ((i : Int) = (q : Int))) (d1 := .int (M i j + b * M a j)) (d2 := .int (M i j)) (HC_eqI (HV_var (i := 7) rfl) (HV_var (i := 5) rfl) rfl) (fun _ => HV_add (HV_var (i := 10) rfl) (HV_mulS (HV_var (i := 6) rfl) (HV_ixL (HV_ixL (HV.to (HV_var (i := 1) (d := mat n M) rfl) (mat_eq n M)) (HV_var (i := 4) rfl) (matL_at ha M)) (HV_var (i := 9) rfl) (rowL_at hj (M a))) hb8)) (fun _ => HV_var (i := 10) rfl)) (dif i q _ _)
      · refine HT_one (HS_setV (i := 1) (d := mat n (mv2 (mv1 M a q b) a q b)) ?_ ?_)
        · generalize hN : mv1 M a q b = N
          rw [mat_eq n (mv2 N a q b)]
          refine HV_lc (xs := List.range n) (c := fun i => PyData.list (rowL n (N i))) (own := [("_law_row", 8)]) (f := fName 8) (HI_list (HV.to (HV_var (i := 1) (d := mat n N) (by rw [← hN]; rfl)) (mat_eq n N))) (blkOk_by (by rfl)) (HG_name (i := 8)) (fun i hi => ⟨_, rfl, ?_⟩) (by simp; omega)
          have hi : i < n := List.mem_range.mp hi
          refine HV_lc (xs := List.range n) (c := fun j => PyData.tuple [.int (j : Nat), .int (N i j)]) (h := fun j => PyData.int (mv2 N a q b i j)) (own := [("_law_spot", 9), ("_law_item", 10)]) (f := fTup (fCons (fName 9) (fCons (fName 10) fNil))) ?_ (blkOk_by (by rfl)) (HG_tup (n := 2) (HGs_cons (HG_name (i := 9)) (HGs_cons (HG_name (i := 10)) HGs_nil)) len2) (fun j hj => ⟨_, ⟨_, rfl, _, _, _, rfl, rfl, _, _, _, rfl, rfl, rfl, rfl⟩, ?_⟩) (by simp; omega)
          · rw [← enD_map n fun j => PyData.int (N i j)]
            exact HI_enum T.enumerate (HV_var (i := 8) rfl)
          exact HV.to (HV_if (k := decide ((j : Int) = (q : Int))) (d1 := .int (N i j + b * N i a)) (d2 := .int (N i j)) (HC_eqI (HV_var (i := 9) rfl) (HV_var (i := 5) rfl) rfl) (fun _ => HV_add (HV_var (i := 10) rfl) (HV_mulS (HV_var (i := 6) rfl) (HV_ixL (HV_var (i := 8) rfl) (HV_var (i := 4) rfl) (rowL_at ha (N i))) hb8)) (fun _ => HV_var (i := 10) rfl)) (dif j q _ _)
        · have e : ∀ i j, i < n → j < n → mv2 (mv1 M a q b) a q b i j = Sq.cb (Sq.ns n) M (Sq.mvU a q b) i j := fun i j hi hj => mv_both ha hq z b M hi hj
          rw [mat_congr e]
          refine ⟨_, _, _, _, _, _, mv_sym ha hq z hs, fun i j hi hj => ?_, fun w => (Sq.mv_nz ha hq z M w).trans (hz w), by show c + (0 + 0 + 1 + (0 + 0 + 1 + (0 + 0 + 1 + 0 + 0))) ≤ m + 3 * (k + 1); omega, rfl⟩
          rw [← e i j hi hj]
          exact (mv2_bz ha (mv1_bz ha hB hb) hb i j hi hj).mono (by omega)
  · subst e1
    rw [List.length_map, List.length_range] at hB hc
    exact HT_one (HS_retV (HV_var (i := 1) rfl) ⟨by show c ≤ m + 54; omega, p M hs (fun i j hi hj => (hB i j hi hj).mono (by omega)) hz⟩)
abbrev KMoved (P : Program) (w : World) (K : PySem.W.Frag) (mg : Str → Option Value) (base : Heap) : Prop := Kn P w K mg base "_law_moved" 3 (spG 1 54 W_moved)
end
end WS
set_option Elab.async false
set_option linter.all false
set_option maxRecDepth 100000
set_option maxHeartbeats 4000000
set_option autoImplicit false
namespace WS
open PySem PySem.Spec PyProof.Rows L2
theorem str_self (x : Str) : (x == x) = true := by rw [← dec_str, decide_eq_true rfl]
theorem odd_congr {n w : Nat} {M N : Sq.Mx} (h : ∀ v, Sq.nz v (Sq.ns n) M = Sq.nz v (Sq.ns n) N) : Sq.oddN n w M = Sq.oddN n w N := by
  unfold Sq.oddN
  simp only [h]
theorem odd_bz {n w : Nat} (M : Sq.Mx) (hw : w ≤ 64) (hn : n ≤ 6) : Bz 400 (Sq.oddN n w M) := by
  have b : ∀ v, v ≤ 64 → 0 ≤ Sq.nz v (Sq.ns n) M ∧ Sq.nz v (Sq.ns n) M ≤ 2 ^ 384 := fun v hv => by
    obtain ⟨h0, h1⟩ := Sq.nz_bound v n M
    exact ⟨h0, Int.le_trans h1 (pow_le4 (Nat.mul_le_mul hv hn))⟩
  have e : (2 : Int) ^ 400 = 2 ^ 384 * 65536 := by rw [show (400 : Nat) = 384 + 16 from rfl, Int.pow_add, show (2 : Int) ^ 16 = 65536 from by decide]
  have p1 : (1 : Int) ≤ 2 ^ 384 := Sq.pos2 384
  have n0 := Sq.pos2 n
  have n6 : (2 : Int) ^ n ≤ 64 := pow_le4 (k := 6) hn
  have key : -(2 ^ 400) < Sq.oddN n w M ∧ Sq.oddN n w M < 2 ^ 400 := by
    rw [e]
    unfold Sq.oddN
    obtain ⟨a0, a1⟩ := b 1 (by decide)
    obtain ⟨b0, b1⟩ := b w hw
    obtain ⟨c0, c1⟩ := b (w - 2) (by omega)
    generalize (2 : Int) ^ 384 = B at *
    split
    · omega
    · obtain ⟨x, hx⟩ : ∃ x, x = (if w = 2 then 1 else Sq.nz (w - 2) (Sq.ns n) M) := ⟨_, rfl⟩
      rw [← hx]
      have x0 : 0 ≤ x := by rw [hx]; split <;> omega
      have x1 : x ≤ B := by rw [hx]; split <;> omega
      have m0 : 0 ≤ 2 ^ n * x := Int.mul_nonneg (by omega) x0
      have m1 : 2 ^ n * x ≤ 64 * B := Int.mul_le_mul n6 x1 x0 (by decide)
      omega
  by_cases s : 0 ≤ Sq.oddN n w M
  · exact Bz.of_lt s key.2
  · have := Bz.of_lt (k := 400) (x := -(Sq.oddN n w M)) (by omega) (by omega)
    unfold Bz at *
    rw [Int.natAbs_neg] at this
    exact this
theorem odd_log {n w : Nat} (M : Sq.Mx) (hw : w ≤ 64) (hn : n ≤ 6) : (Sq.oddN n w M).natAbs.log2 < 1920 := by
  by_cases z : (Sq.oddN n w M).natAbs = 0
  · rw [z]; decide
  · rw [Nat.log2_lt z]
    exact (odd_bz M hw hn).mono (by decide)
section
variable {Z : Ctx} {bs : Bs} {en : En} {a b e : Expr} {pos : Pos} {P : PyData → Prop}
theorem HC_neS {P : Bool → Prop} {x y : Str} (ha : HV Z bs a en (.str x)) (hb : HV Z bs b en (.str y)) (k : P (!(x == y))) : HC Z bs (.Compare a [.NotEq] [b] pos) en P := by
  refine HC_two (fun i ta tb pa pb => pt_cmpR op_ne pa pb (nomark b)) ha hb fun x y dx dy F H σ Q R rx ry px py q => ?_
  subst px py
  cases rx; cases ry
  exact ⟨rfl, q _ F H R R.gid (by rw [dec_str]; exact k)⟩
theorem HV_ix1L {z : PyData} (ha : HE Z bs a en fun d => ∃ x, d = .list [x, z]) (hb : HV Z bs b en (.int 1)) (hs : PlainIx b := by intro _ _; rfl) : HV Z bs (.Subscript a b pos) en z := by
  refine HE_two (fun i ta tb pa pb => pe_ix (ixL i) pa pb hs) ha hb fun x y dx dy F H σ Q R rx ry px py q => ?_
  obtain ⟨d, rfl⟩ := px
  subst py
  cases ry
  cases rx with
  | lst h1 h2 =>
    obtain ⟨v, e1, e2⟩ := atI_rp h2 (at1 (x := d) (y := z) (xs := []))
    exact ⟨_, _, _, v, rfl, rfl, SqL.of (R.fh _ _ h1), e1, q _ _ F H R R.gid e2 rfl⟩
end
section
variable {P : Program} {w : World} {K : PySem.W.Frag} {mg : Str → Option Value} {base : Heap} {C : Addr}
def W_smallR : List PyData → (PyData → Prop) → Prop := fun ds P => ds = [] ∧ P (.bool true)
theorem ok_smallR {f : Addr} {fd : FuncData} (F : Fun K "_law_small_right" "_law_small_right" (topS 59) f fd) (T : Gs mg) (k1 : KSmall P w K mg base) (k2 : KCopied P w K mg base) (k3 : KListed P w K mg base) (k4 : KOdd P w K mg base) (k5 : KMoved P w K mg base) : FnOk P w K mg base CX0 10 f fd ["_law_generator_here"] (spG 0 66 W_smallR) := by
  refine fn_okG (N := ["_law_generator_here", "_law_width_there", "_law_rows", "_law_handed", "_law_due"]) F ⟨rfl, rfl, rfl, by decide +kernel, rfl, by decide +kernel, by decide +kernel⟩ rfl (by decide) fun cd A outer s H E hr bs ds Pd m ho hm h hl => ?_
  obtain ⟨rfl, p⟩ := h
  refine HT_cons (HS_asgD (k := 0 + 12) (P := fun d => ∃ (n w : Nat) (M : Sq.Mx), SmOk n w ∧ Sym n M ∧ BzM 8 n M ∧ d = .tuple [.int (w : Int), mat n M]) (HD_callG (gi := 0) (P' := fun ds => ds = []) k1 (hr.mono (by decide)) rfl (HDA_nil rfl) (fun ds hds => (by subst hds; exact ⟨rfl, rfl, fun n w M h1 h2 h3 => ⟨n, w, M, h1, h2, h3, rfl⟩⟩)) (by show m + 0 + 12 ≤ 900000000; omega)) (HGX_tup (n := 2) (HGXs_cons (HG_name (i := 1)).x (HGXs_cons (HG_name (i := 2)).x HGXs_nil)) xlen2) fun d hd => ?_)
  obtain ⟨n, v, M, ⟨s1, s2, s3, s4, s5⟩, hs, hB, rfl⟩ := hd
  refine ⟨_, ⟨_, rfl, _, _, _, rfl, rfl, _, _, _, rfl, rfl, rfl, rfl⟩, ?_⟩
  have hB1 : BzM 140 n M := fun i j hi hj => (hB i j hi hj).mono (by decide)
  refine HT_cons (HS_par (i := 3) (j := 4) (d1 := mat n M) (d2 := .int (Sq.oddN n v M)) (HA_cons (HE_call k2 (hr.mono (by decide)) (HA_cons (HV_var (i := 2) rfl) HA_nil) rfl ⟨n, M, rfl, by omega, rfl⟩) (HA_cons (HV_ix1L (HE_call k3 (hr.mono (by decide)) (HA_cons (HV_var (i := 2) rfl) (HA_cons (HV_var (i := 1) rfl) HA_nil)) rfl ⟨n, v, M, rfl, s1, s2, s3, s4, s5, hB1, fun L => ⟨L, rfl⟩⟩) HV_int) HA_nil)) ?_)
  refine HT_cons (HS_if (HW.hc (HW_or (HC_neS (x := toString (Sq.oddN n v M)) (y := toString (Sq.oddN n v M)) (HV_repr T.repr (HE_call k4 hr (HA_cons (HV_var (i := 1) rfl) (HA_cons (HV_var (i := 3) rfl) HA_nil)) rfl ⟨v, n, M, rfl, s3, by omega, s1, by omega, hs, hB1, .inl (by omega), rfl⟩) (odd_log M (by omega) (by omega))) (HV_repr T.repr (HV_var (i := 4) rfl) (odd_log M (by omega) (by omega))) ?_))))
  rw [str_self, show (!true) = false from rfl, if_neg (by decide)]
  refine HW_or1 (HC_neD (d := mat n M) (d' := mat n M) (HV_var (i := 3) rfl) (HV_var (i := 2) rfl) (fl_mat n M).sh (fl_mat n M).sh ?_)
  rw [(fl_mat n M).eqv, show (!true) = false from rfl, if_neg (by decide)]
  refine HT_nil ?_
  exact HT_one (HS_retD (k := 0 + (0 + 0 + 54 + 0) + 0) (P := Pd) (HD_eqII (p := fun x => x = Sq.oddN n v M) (q := fun x => x = Sq.oddN n v M) (HD_call (P' := fun ds => ∃ R' : Sq.Mx, Sym n R' ∧ BzM 140 n R' ∧ (∀ u, Sq.nz u (Sq.ns n) R' = Sq.nz u (Sq.ns n) M) ∧ ds = [.int (v : Int), mat n R']) k4 hr (HDA_cons (k := 0) (Pa := fun d => d = .int (v : Int)) (HD_of (HV_var (i := 1) rfl) 0) fun d1 h1 => HDA_cons (k := 0 + 0 + 54) (Pa := fun d => ∃ R' : Sq.Mx, Sym n R' ∧ BzM 140 n R' ∧ (∀ u, Sq.nz u (Sq.ns n) R' = Sq.nz u (Sq.ns n) M) ∧ d = mat n R') (HD_callG (gi := 0) (P' := fun ds => ds = [mat n M]) k5 (hr.mono (by decide)) rfl (HDA_cons (k := 0) (Pa := fun d => d = mat n M) (HD_of (HV_var (i := 2) rfl) 0) fun d hd => HDA_nil (by rw [hd])) (fun ds hds => (by subst hds; exact ⟨rfl, n, M, rfl, s1, by omega, hs, hB, fun R' a b c => ⟨R', a, b, c, rfl⟩⟩)) (by show m + (0 + 12) + 0 + (0 + 0) + 54 ≤ 900000000; omega)) fun d2 h2 => HDA_nil (by
      obtain ⟨R', a, b, c, rfl⟩ := h2
      exact ⟨R', a, b, c, by rw [h1]⟩)) fun ds hds => (by
      obtain ⟨R', a, b, c, rfl⟩ := hds
      exact ⟨rfl, v, n, R', rfl, s3, by omega, s1, by omega, a, b, .inl (by omega), _, rfl, odd_congr c⟩)) (HD_of (HVi (HV_var (i := 4) rfl)) 0) fun i j hi hj => (by rw [hi, hj, decide_eq_true rfl]; exact p)) fun d hd => ⟨by show m + (0 + 12) + (0 + (0 + 0 + 54 + 0) + 0) ≤ m + 66; omega, hd⟩)
abbrev KSmallR (P : Program) (w : World) (K : PySem.W.Frag) (mg : Str → Option Value) (base : Heap) : Prop := Kn P w K mg base "_law_small_right" 10 (spG 0 66 W_smallR)
end
end WS
set_option Elab.async false
set_option linter.all false
set_option maxRecDepth 100000
set_option maxHeartbeats 4000000
set_option autoImplicit false
namespace WS
open PySem PySem.Spec PyProof.Rows L2
theorem putM_at (M : Sq.Mx) (p q : Nat) (v : Int) : putM M p q v p q = v := if_pos ⟨rfl, rfl⟩
theorem putM_ne (M : Sq.Mx) {p q a i : Nat} (v : Int) (h : a ≠ p ∨ i ≠ q) : putM M p q v a i = M a i := if_neg fun z => by
  rcases h with h | h
  · exact h z.1
  · exact h z.2
theorem BkX_keep {n : Nat} {M N : Sq.Mx} {t u : Nat} {it : (Nat × Int) × List Nat} (h : Sq.BkX n M t it) (hle : t ≤ u) (hr : ∀ i ∈ it.2, ∀ j, N i j = M i j) : Sq.BkX n N u it := by
  cases h with
  | @sq s p k a b c d e f g i =>
    have r : ∀ j, N p j = M p j := hr p (List.mem_singleton_self _)
    exact .sq a (fun j hj hn => by rw [r]; exact b j hj hn) (by rw [r]; exact c) d e f g (by omega)
  | @pr s p q k a b c d e f g i j l =>
    have r : ∀ j, N p j = M p j := hr p List.mem_cons_self
    have r2 : ∀ j, N q j = M q j := hr q (List.mem_cons_of_mem _ (List.mem_singleton_self _))
    exact .pr a b c (fun j hj n1 n2 => by rw [r, r2]; exact d j hj n1 n2) e (by rw [r]; exact f) (by rw [r]; exact g) (by rw [r2]; exact i) j (by omega)
/-- blocks built up -/
structure Bd (n pl : Nat) (M : Sq.Mx) (t : Nat) (fd : List ((Nat × Int) × List Nat)) : Prop where
  sy : Sym n M
  off : ∀ i j, i < n → j < n → pl ≤ i → M i j = 0
  pm : (fd.flatMap (·.2)).Perm (List.range pl)
  bk : ∀ it ∈ fd, Sq.BkX n M t it
  bz : BzM 8 n M
  t5 : t ≤ 5
  le : pl ≤ n
theorem Bd.below {n pl : Nat} {M : Sq.Mx} {t : Nat} {fd : List ((Nat × Int) × List Nat)} (h : Bd n pl M t fd) {it : (Nat × Int) × List Nat} (hit : it ∈ fd) {i : Nat} (hi : i ∈ it.2) : i < pl :=
  List.mem_range.mp (h.pm.mem_iff.mp (List.mem_flatMap.mpr ⟨it, hit, hi⟩))
theorem bd_nil (n : Nat) : Bd n 0 (fun _ _ => 0) 0 [] := ⟨fun _ _ _ _ => rfl, fun _ _ _ _ _ => rfl, .refl _, (fun _ h => nomatch h), fun _ _ _ _ => bz0 _, by decide, Nat.zero_le _⟩
theorem pk_bz {s : Nat} {k : Int} (hs : s ≤ 4) (h0 : 0 ≤ k) (h8 : k < 8) : Bz 8 (2 ^ s * k) := by
  have b2 : (2 : Int) ^ s ≤ 16 := pow_le4 (k := 4) hs
  have h2 : (2 : Int) ^ s * k ≤ 16 * 7 := Int.mul_le_mul b2 (by omega) h0 (by decide)
  exact Bz.of_lt (Int.mul_nonneg (by have := Sq.pos2 s; omega) h0) (by show _ < (256 : Int); omega)
theorem Bd.one {n pl : Nat} {M : Sq.Mx} {t : Nat} {fd : List ((Nat × Int) × List Nat)} (h : Bd n pl M t fd) (hpl : pl < n) {s : Nat} {k : Int} (hs : s ≤ 4) (hk : k % 2 = 1) (k0 : 0 < k) (k8 : k < 8) : Bd n (pl + 1) (putM M pl pl (2 ^ s * k)) (max t s) (fd ++ [((s, k), [pl])]) := by
  have row : ∀ i j, i ≠ pl → putM M pl pl (2 ^ s * k) i j = M i j := fun i j hi => putM_ne M _ (.inl hi)
  refine ⟨putM_diag h.sy, fun i j hi hj hp => ?_, ?_, fun it hit => ?_, putM_bz h.bz (pk_bz hs (by omega) k8), by have := h.t5; omega, by omega⟩
  · rw [row i j (by omega)]; exact h.off i j hi hj (by omega)
  · rw [List.flatMap_append, List.range_succ]
    exact h.pm.append (.refl _)
  · rcases List.mem_append.mp hit with m | m
    · exact BkX_keep (h.bk it m) (Nat.le_max_left _ _) fun i hi j => row i j (by have := h.below m hi; omega)
    · rw [List.mem_singleton] at m
      subst m
      exact .sq hpl (fun j hj hn => by rw [putM_ne M _ (.inr hn)]; exact h.off pl j hpl hj (Nat.le_refl _)) (putM_at _ _ _ _) hk k0 k8 hs (Nat.le_max_right _ _)
/-- equal numbers along the diagonal -/
def dgM (M : Sq.Mx) (pl : Nat) (v : Int) : Nat → Sq.Mx
  | 0 => M
  | k + 1 => putM (dgM M pl v k) (pl + k) (pl + k) v
def twM (M : Sq.Mx) (pl : Nat) (v u : Int) : Sq.Mx := putM (putM (dgM M pl v 2) pl (pl + 1) u) (pl + 1) pl u
theorem twM_out {M : Sq.Mx} {pl : Nat} {v u : Int} {i j : Nat} (h1 : i ≠ pl) (h2 : i ≠ pl + 1) : twM M pl v u i j = M i j := by
  show putM (putM (putM (putM M (pl + 0) (pl + 0) v) (pl + 1) (pl + 1) v) pl (pl + 1) u) (pl + 1) pl u i j = M i j
  rw [putM_ne _ _ (.inl h2), putM_ne _ _ (.inl h1), putM_ne _ _ (.inl h2), putM_ne _ _ (.inl (show i ≠ pl + 0 from h1))]
theorem twM_p {M : Sq.Mx} {pl : Nat} {v u : Int} (j : Nat) : twM M pl v u pl j = if j = pl + 1 then u else if j = pl then v else M pl j := by
  show putM (putM (putM (putM M (pl + 0) (pl + 0) v) (pl + 1) (pl + 1) v) pl (pl + 1) u) (pl + 1) pl u pl j = _
  rw [putM_ne _ _ (.inl (by omega))]
  by_cases c : j = pl + 1
  · subst c; rw [putM_at, if_pos rfl]
  · rw [putM_ne _ _ (.inr c), putM_ne _ _ (.inl (by omega)), if_neg c]
    by_cases c2 : j = pl
    · subst c2; rw [putM_at M (j + 0) (j + 0) v |> (fun z => (show putM M (j + 0) (j + 0) v j j = v from z)), if_pos rfl]
    · rw [putM_ne _ _ (.inr (by omega)), if_neg c2]
theorem twM_q {M : Sq.Mx} {pl : Nat} {v u : Int} (j : Nat) : twM M pl v u (pl + 1) j = if j = pl then u else if j = pl + 1 then v else M (pl + 1) j := by
  show putM (putM (putM (putM M (pl + 0) (pl + 0) v) (pl + 1) (pl + 1) v) pl (pl + 1) u) (pl + 1) pl u (pl + 1) j = _
  by_cases c : j = pl
  · subst c; rw [putM_at, if_pos rfl]
  · rw [putM_ne _ _ (.inr c), putM_ne _ _ (.inl (by omega)), if_neg c]
    by_cases c2 : j = pl + 1
    · subst c2; rw [putM_at, if_pos rfl]
    · rw [putM_ne _ _ (.inr c2), putM_ne _ _ (.inl (by omega)), if_neg c2]
theorem Bd.two {n pl : Nat} {M : Sq.Mx} {t : Nat} {fd : List ((Nat × Int) × List Nat)} (h : Bd n pl M t fd) (hpl : pl + 1 < n) {s : Nat} {k : Int} (hs : s ≤ 4) (hk : k = 0 ∨ k = 2) : Bd n (pl + 2) (twM M pl (2 ^ s * k) (2 ^ s)) (max t (s + 1)) (fd ++ [((s, k), [pl, pl + 1])]) := by
  have bv : Bz 8 (2 ^ s * k) := pk_bz hs (by omega) (by omega)
  have bu : Bz 8 (2 ^ s) := by have := pk_bz hs (k := 1) (by decide) (by decide); rwa [Int.mul_one] at this
  refine ⟨putM_pair (putM_diag (putM_diag h.sy)), fun i j hi hj hp => ?_, ?_, fun it hit => ?_, putM_bz (putM_bz (putM_bz (putM_bz h.bz bv) bv) bu) bu, by have := h.t5; omega, by omega⟩
  · rw [twM_out (by omega) (by omega)]; exact h.off i j hi hj (by omega)
  · rw [List.flatMap_append, show pl + 2 = pl + 1 + 1 from rfl, List.range_succ, List.range_succ, List.append_assoc]
    exact h.pm.append (.refl _)
  · rcases List.mem_append.mp hit with m | m
    · exact BkX_keep (h.bk it m) (Nat.le_max_left _ _) fun i hi j => by
        have := h.below m hi
        exact twM_out (by omega) (by omega)
    · rw [List.mem_singleton] at m
      subst m
      refine .pr (by omega) hpl (by omega) (fun j hj n1 n2 => ?_) hk (by rw [twM_p, if_pos rfl]) (by rw [twM_p, if_neg (by omega), if_pos rfl]) (by rw [twM_q, if_neg (by omega), if_pos rfl]) hs (Nat.le_max_right _ _)
      rw [twM_p, twM_q, if_neg n2, if_neg n1, if_neg n1, if_neg n2]
      exact ⟨h.off pl j (by omega) hj (Nat.le_refl _), h.off (pl + 1) j hpl hj (by omega)⟩
theorem Bd.all {n : Nat} {M : Sq.Mx} {t : Nat} {fd : List ((Nat × Int) × List Nat)} (h : Bd n n M t fd) : Sq.Blocks n M t fd := ⟨h.sy, h.pm, h.bk⟩
theorem maxc (a b : Nat) : max (a : Int) (b : Int) = ((max a b : Nat) : Int) := by
  rcases Nat.le_total a b with h | h
  · rw [Nat.max_eq_right h, Int.max_eq_right (by omega)]
  · rw [Nat.max_eq_left h, Int.max_eq_left (by omega)]
section
variable {P : Program} {w : World} {K : PySem.W.Frag} {mg : Str → Option Value} {base : Heap} {C : Addr}
def W_scales : List PyData → (PyData → Prop) → Prop := fun ds P => ∃ n : Nat, ds = [.int (n : Int)] ∧ 1 ≤ n ∧ n ≤ 6 ∧ ∀ (M : Sq.Mx) (t : Nat) (fd : List ((Nat × Int) × List Nat)), Sq.Blocks n M t fd → BzM 8 n M → t ≤ 5 → P (.list [mat n M, .int (t : Int)])
theorem ok_scales {f : Addr} {fd : FuncData} (F : Fun K "_law_scales" "_law_scales" (topS 60) f fd) (T : Gs mg) (k1 : KRand P w K mg base) (k2 : KTwo P w K mg base) : FnOk P w K mg base CX0 3 f fd ["_law_generator_here", "_law_size"] (spG 1 12 W_scales) := by
  refine fn_okG (N := ["_law_generator_here", "_law_size", "_law_found", "_law_rows", "_law_place", "_law_scale", "_law_kind", "_law_at", "_law_turn"]) F ⟨rfl, rfl, rfl, by decide +kernel, rfl, by decide +kernel, by decide +kernel⟩ rfl (by decide) fun cd A outer s H E hr bs ds Pd m ho hm h hl => ?_
  obtain ⟨n, rfl, h1n, hn, p⟩ := h
  refine HT_cons (HS_par3E (i := 2) (j := 3) (l := 4) (HAe_dat (Pd := fun d => d = .int 0) HV_int fun d hd => HAe_mat (m := (List.range n).map fun _ => List.replicate n (.int 0)) (HNm_lc (xs := List.range n) (c := fun i => PyData.int (i : Nat)) (h := fun _ => List.replicate n (.int 0)) (own := [("_law_turn", 8)]) (f := fName 8) (HI_rangeN T.range (HV_var (i := 1) rfl) (by omega)) (blkOk_by (by rfl)) (HG_name (i := 8)) (fun i hi => ⟨_, rfl, HNl_rep (HV_list (HA_cons HV_int HA_nil) (show 1 ≤ 100000 by decide)) (HV_var (i := 1) rfl) (by omega)⟩) (by simp; omega)) fun a rs => HAe_dat (Pd := fun d => d = .int 0) HV_int fun d2 hd2 => HAe_nil ⟨rfl, _, _, _, rfl, ?_⟩))
  subst hd hd2
  rw [zero_mat]
  refine HT_cons (HS_while (fun en => ∃ (M : Sq.Mx) (pl t c : Nat) (fd : List ((Nat × Int) × List Nat)) (u5 u6 u7 : Ent), Bd n pl M t fd ∧ c ≤ m + 2 * pl ∧ noOwn [u5, u6, u7] = true ∧ en = { sl := [.gen, .dat (.int (n : Int)), .dat (.int (t : Int)), .own, .dat (.int (pl : Nat)), u5, u6, u7, .un], ow := .mat a rs (matL n M), ct := c }) (fun en => match en.sl with
    | _ :: _ :: _ :: _ :: .dat (.int x) :: _ => ((n : Int) - x).toNat
    | _ => 0) ⟨fun _ _ => 0, 0, 0, m, [], .un, .un, .un, bd_nil n, by omega, rfl, rfl⟩ fun en1 ⟨M, pl, t, c, fd, u5, u6, u7, hBd, hc, hno, e1⟩ => ?_)
  subst e1
  refine HC_lt (HV_var (i := 4) rfl) (HV_var (i := 1) rfl) ?_
  by_cases z : (pl : Int) < (n : Int)
  · rw [decide_eq_true z, if_pos rfl]
    have hpn : pl < n := by omega
    refine HT_cons (HS_parD (i := 5) (j := 6) (HDA_cons (Pa := fun d => ∃ r : Nat, r ≤ 4 ∧ d = .int (r : Int)) (HD_callG (gi := 0) (P' := fun ds => ds = [.int 5]) k1 hr rfl (HDA_cons (k := 0) (Pa := fun d => d = .int 5) (HD_of HV_int 0) fun d hd => HDA_nil (by rw [hd])) (fun ds hds => (by subst hds; exact ⟨rfl, 5, rfl, by decide, by decide, fun r r0 r1 => ⟨r.toNat, by omega, by rw [Int.toNat_of_nonneg r0]⟩⟩)) (by show c + (0 + 0) + 1 ≤ 900000000; omega)) fun d hd => HDA_cons (Pa := fun d => d ∈ [PyData.int 1, .int 3, .int 5, .int 7, .int 0, .int 2]) (HD_ixL (ds := [.int 1, .int 3, .int 5, .int 7, .int 0, .int 2]) (HV_list (HA_cons HV_int (HA_cons HV_int (HA_cons HV_int (HA_cons HV_int (HA_cons HV_int (HA_cons HV_int HA_nil)))))) (show 6 ≤ 100000 by decide)) (HD_callG (gi := 0) (P' := fun ds => ds = [.int 6]) k1 hr rfl (HDA_cons (k := 0) (Pa := fun d => d = .int 6) (HD_of HV_int 0) fun d hd => HDA_nil (by rw [hd])) (fun ds hds => (by subst hds; exact ⟨rfl, 6, rfl, by decide, by decide, fun r r0 r1 => ⟨r, rfl, r0, r1⟩⟩)) (by show ((c + (0 + 0 + 1)) + 0) + (0 + 0) + 1 ≤ 900000000; omega)) (fun d hd => hd)) fun d2 hd2 => HDA_nil ⟨d, d2, rfl, ?_⟩))
    obtain ⟨r, hr4, rfl⟩ := hd
    obtain ⟨kd, rfl, kd0, kd8, kodd⟩ : ∃ kd : Int, d2 = .int kd ∧ 0 ≤ kd ∧ kd < 8 ∧ (kd + 1 - kd % 2) % 2 = 1 ∧ 0 < kd + 1 - kd % 2 ∧ kd + 1 - kd % 2 < 8 := by
      simp only [List.mem_cons, List.not_mem_nil, or_false] at hd2
      rcases hd2 with e | e | e | e | e | e <;> exact ⟨_, e, by decide, by decide, by decide, by decide, by decide⟩
    have b2 : (2 : Int) ^ r ≤ 16 := pow_le4 (k := 4) hr4
    have b0 := Sq.pos2 r
    refine HT_one (HS_if (HC_imp (P := fun k => k = true → (kd = 0 ∨ kd = 2) ∧ pl + 1 < n) (HW.hc (HW_and (HC_in (ns := [0, 2]) (HV_var (i := 6) rfl) (HV.he (HV_list (HA_cons HV_int (HA_cons HV_int HA_nil)) (show 2 ≤ 100000 by decide)) (.inl rfl)) ?_))) fun k hk => ?_))
    · by_cases q : kd ∈ [(0 : Int), 2]
      · rw [decide_eq_true q, if_pos rfl]
        refine HW_and1 (HC_lt (HV_add (HV_var (i := 4) rfl) HV_int) (HV_var (i := 1) rfl) fun y => ?_)
        have y := of_decide_eq_true y
        simp only [List.mem_cons, List.not_mem_nil, or_false] at q
        exact ⟨q, by omega⟩
      · rw [decide_eq_false q, if_neg (by decide)]; exact fun y => nomatch y
    cases k with
    | true =>
      obtain ⟨hkd, hp2⟩ := hk rfl
      rw [if_pos rfl]
      refine HT_cons (HS_for (ds := [.int (pl : Int), .int ((pl : Int) + 1)]) (vs := [7]) (f := fName 7) (HI_list (HV_list (HA_cons (HV_var (i := 4) rfl) (HA_cons (HV_add (HV_var (i := 4) rfl) HV_int) HA_nil)) (show 2 ≤ 100000 by decide))) (HG_name (i := 7)) (fun j en => ∃ u7 : Ent, noOwn [u7] = true ∧ en = { sl := [.gen, .dat (.int (n : Int)), .dat (.int (t : Int)), .own, .dat (.int (pl : Nat)), .dat (.int (r : Int)), .dat (.int kd), u7, .un], ow := .mat a rs (matL n (dgM M pl (2 ^ r * kd) j)), ct := c + 2 }) ⟨u7, ?_, rfl⟩ (fun j d en1 hd ⟨u7, hno, e1⟩ => ?_) fun en1 ⟨u7, hno, e1⟩ => ?_)
      · cases u5 <;> cases u6 <;> first | exact hno | cases hno
      · subst e1
        obtain ⟨hj, rfl⟩ : j < 2 ∧ d = .int ((pl + j : Nat) : Int) := by
          match j, hd with
          | 0, hd => exact ⟨by decide, (Option.some.inj hd).symm⟩
          | 1, hd => exact ⟨by decide, (Option.some.inj hd).symm⟩
        refine ⟨_, rfl, ?_⟩
        refine HT_one (HS_asgX (P := fun d => d = .int (2 ^ r * kd)) (HV_mulS (HE_call k2 (hr.mono (by decide)) (HA_cons (HV_var (i := 5) rfl) HA_nil) rfl ⟨r, rfl, by omega, rfl⟩) (HV_var (i := 6) rfl) (by omega)) (HGX_cell (i := 3)) fun d hd => ?_)
        subst hd
        exact ⟨_, cell_ok (p := pl + j) (q := pl + j) (V := dgM M pl (2 ^ r * kd) (j + 1)) rfl rfl (HV_var (i := 7) rfl) (HV_var (i := 7) rfl) (by omega) (by omega) (fun _ _ _ _ => rfl), .dat (.int ((pl + j : Nat) : Int)), rfl, rfl⟩
      · subst e1
        refine HT_cons (HS_asgX (P := fun d => d = .tuple [.int (2 ^ r), .int (2 ^ r)]) (HV_tup (HA_cons (HE_call k2 (hr.mono (by decide)) (HA_cons (HV_var (i := 5) rfl) HA_nil) rfl ⟨r, rfl, by omega, rfl⟩) (HA_cons (HE_call k2 (hr.mono (by decide)) (HA_cons (HV_var (i := 5) rfl) HA_nil) rfl ⟨r, rfl, by omega, rfl⟩) HA_nil)) (show 2 ≤ 100000 by decide)) (HGX_tup (n := 2) (HGXs_cons (HGX_cell (i := 3)) (HGXs_cons (HGX_cell (i := 3)) HGXs_nil)) xlen2) fun d hd => ?_)
        subst hd
        refine ⟨_, ⟨_, rfl, _, _, _, rfl, cell_ok (p := pl) (q := pl + 1) (V := putM (dgM M pl (2 ^ r * kd) 2) pl (pl + 1) (2 ^ r)) rfl rfl (HV_var (i := 4) rfl) (HV.to (HV_add (i := (pl : Int)) (j := 1) (HV_var (i := 4) rfl) HV_int) rfl) hpn hp2 (fun _ _ _ _ => rfl), _, _, _, rfl, cell_ok (p := pl + 1) (q := pl) (V := twM M pl (2 ^ r * kd) (2 ^ r)) rfl rfl (HV.to (HV_add (i := (pl : Int)) (j := 1) (HV_var (i := 4) rfl) HV_int) rfl) (HV_var (i := 4) rfl) hp2 hpn (fun _ _ _ _ => rfl), rfl, rfl⟩, ?_⟩
        refine HT_one (HS_par (i := 2) (j := 4) (d1 := .int ((max t (r + 1) : Nat) : Int)) (d2 := .int ((pl + 2 : Nat) : Int)) (HA_cons (HV.to (HV_max2 (i := (t : Int)) (j := ((r + 1 : Nat) : Int)) T.max (HV_var (i := 2) rfl) (HV.to (HV_add (i := (r : Int)) (j := 1) (HV_var (i := 5) rfl) HV_int) rfl)) (by rw [maxc])) (HA_cons (HV.to (HV_add (i := (pl : Int)) (j := 2) (HV_var (i := 4) rfl) HV_int) rfl) HA_nil)) ⟨⟨_, pl + 2, max t (r + 1), c + 2, _, .dat (.int (r : Int)), .dat (.int kd), u7, hBd.two hp2 hr4 hkd, by omega, hno, rfl⟩, ?_⟩)
        show ((n : Int) - ((pl + 2 : Nat) : Int)).toNat < ((n : Int) - (pl : Int)).toNat
        omega
    | false =>
      rw [if_neg (by decide)]
      refine HT_one (HS_asgX (P := fun d => d = .tuple [.int (2 ^ r * (kd + 1 - kd % 2)), .int ((max t r : Nat) : Int), .int ((pl + 1 : Nat) : Int)]) (HV_tup (HA_cons (HV_mulS (i := 2 ^ r) (j := kd + 1 - kd % 2) (HE_call k2 (hr.mono (by decide)) (HA_cons (HV_var (i := 5) rfl) HA_nil) rfl ⟨r, rfl, by omega, rfl⟩) (HV_sub (HV_add (HV_var (i := 6) rfl) HV_int) (HV_mod (HV_intI T.int (HV_var (i := 6) rfl)) HV_int (by decide))) (by omega)) (HA_cons (HV.to (HV_max2 (i := (t : Int)) (j := (r : Int)) T.max (HV_var (i := 2) rfl) (HV_var (i := 5) rfl)) (by rw [maxc])) (HA_cons (HV.to (HV_add (i := (pl : Int)) (j := 1) (HV_var (i := 4) rfl) HV_int) rfl) HA_nil))) (show 3 ≤ 100000 by decide)) (HGX_tup (n := 3) (HGXs_cons (HGX_cell (i := 3)) (HGXs_cons (HG_name (i := 2)).x (HGXs_cons (HG_name (i := 4)).x HGXs_nil))) xlen3) fun d hd => ?_)
      subst hd
      refine ⟨_, ⟨_, rfl, _, _, _, rfl, cell_ok (V := putM M pl pl (2 ^ r * (kd + 1 - kd % 2))) rfl rfl (HV_var (i := 4) rfl) (HV_var (i := 4) rfl) hpn hpn (fun _ _ _ _ => rfl), _, _, _, rfl, rfl, _, _, _, rfl, rfl, rfl, rfl⟩, ⟨_, pl + 1, max t r, c + 2, _, .dat (.int (r : Int)), .dat (.int kd), u7, hBd.one hpn hr4 kodd.1 kodd.2.1 kodd.2.2, by omega, ?_, rfl⟩, ?_⟩
      · cases u5 <;> cases u6 <;> first | exact hno | cases hno
      · show ((n : Int) - ((pl + 1 : Nat) : Int)).toNat < ((n : Int) - (pl : Int)).toNat
        omega
  · rw [decide_eq_false z, if_neg (by decide)]
    have e : pl = n := by have := hBd.le; omega
    subst e
    exact HT_frzM rfl (HT_one (HS_retV (HV_list (HA_cons (HV_var (i := 3) (d := mat pl M) rfl) (HA_cons (HV_var (i := 2) rfl) HA_nil)) (show 2 ≤ 100000 by decide)) ⟨by show c ≤ m + 12; omega, p M t fd hBd.all hBd.bz hBd.t5⟩))
abbrev KScales (P : Program) (w : World) (K : PySem.W.Frag) (mg : Str → Option Value) (base : Heap) : Prop := Kn P w K mg base "_law_scales" 3 (spG 1 12 W_scales)
end
end WS
set_option Elab.async false
set_option linter.all false
set_option maxRecDepth 100000
set_option maxHeartbeats 4000000
set_option autoImplicit false
namespace WS
open PySem PySem.Spec PyProof.Rows L2
/-! ### one unknown more -/
def wdM (n : Nat) (M : Sq.Mx) : Sq.Mx := fun i j => if i < n ∧ j < n then M i j else 0
theorem wd_out {n : Nat} {M : Sq.Mx} : ∀ i, i ≤ n → wdM n M i n = 0 ∧ wdM n M n i = 0 := fun i _ => ⟨if_neg (by omega), if_neg (by omega)⟩
theorem wd_in {n : Nat} {M : Sq.Mx} : ∀ i j, i < n → j < n → wdM n M i j = M i j := fun i j hi hj => if_pos ⟨hi, hj⟩
theorem wd_sym {n : Nat} {M : Sq.Mx} (h : Sym n M) : Sym (n + 1) (wdM n M) := fun i j _ _ => by
  unfold wdM
  by_cases c : i < n ∧ j < n
  · rw [if_pos c, if_pos ⟨c.2, c.1⟩]; exact h i j c.1 c.2
  · rw [if_neg c, if_neg (fun z => c ⟨z.2, z.1⟩)]
theorem wd_bz {k n : Nat} {M : Sq.Mx} (h : BzM k n M) : BzM k (n + 1) (wdM n M) := fun i j _ _ => by
  unfold wdM; split
  · next c => exact h i j c.1 c.2
  · exact bz0 _
theorem wd_mat (n : Nat) (M : Sq.Mx) : PyData.list (((List.range n).map fun i => PyData.list (rowL n (M i) ++ [.int 0])) ++ [.list (List.replicate (n + 1) (.int 0))]) = mat (n + 1) (wdM n M) := by
  rw [mat_eq, List.range_succ, List.map_append, List.map_singleton]
  congr 2
  · refine List.map_congr_left fun i hi => ?_
    have hi := List.mem_range.mp hi
    congr 1
    unfold rowL
    rw [List.range_succ, List.map_append, List.map_singleton, (wd_out (M := M) i (by omega)).1]
    congr 1
    exact List.map_congr_left fun j hj => by rw [wd_in i j hi (List.mem_range.mp hj)]
  · rw [zero_row]
    congr 2
    exact rowL_congr fun j hj => ((wd_out (M := M) j (by omega)).2).symm
theorem odd_def {n w : Nat} {M : Sq.Mx} (h : 3 ≤ w) : Sq.oddN n w M = Sq.nz w (Sq.ns n) M - 2 ^ n * Sq.nz (w - 2) (Sq.ns n) M := by
  unfold Sq.oddN
  rw [if_neg (by omega), if_neg (by omega)]
section
variable {Z : Ctx} {bs : Bs} {en : En} {st : Stmt} {rest : List Stmt} {a b e : Expr} {pos p : Pos} {Φ : DE} {P : PyData → Prop} {k : Nat}
theorem HD_repr {i : Int} (hm : Z.mg "repr" = none) (ha : HD Z bs e en k (IsI fun x => x = i)) (h : i.natAbs.log2 < 1920) (hg : GlS Z.sc "repr" := by rfl) (he : ∀ i, starEach [e] (Z.X i).env = (false, eval e (Z.X i).env) :: starEach [] (Z.X i).env := by intro _; rfl) : HD Z bs (.Call (.Name "repr" p) [e] [] pos) en k (fun d => d = .str (toString i)) := fun σ F H R Q q => by
  refine ⟨_, fun i => pe_callB SkE.call_repr_int (Ctx.gl hg i) (Ctx.mgN hm i) PyProof.Rows.boot_repr (pa_cons (pe_tE Z e i) pa_nil (he i)) (by decide) (by decide) (he i) (by rfl), ha σ F H R _ fun v d F1 H1 R1 s1 r1 p1 => ?_⟩
  obtain ⟨j, rfl, rfl⟩ := p1
  cases r1
  exact ⟨_, rfl, h, q _ _ F1 H1 R1 s1 (.str _) rfl⟩
end
section
variable {P : Program} {w : World} {K : PySem.W.Frag} {mg : Str → Option Value} {base : Heap} {C : Addr}
def W_greatR : List PyData → (PyData → Prop) → Prop := fun ds P => ds = [] ∧ P (.bool true)
theorem ok_greatR {f : Addr} {fd : FuncData} (F : Fun K "_law_great_right" "_law_great_right" (topS 61) f fd) (T : Gs mg) (k1 : KRand P w K mg base) (k2 : KTwo P w K mg base) (k3 : KScales P w K mg base) (k4 : KOdd P w K mg base) (k5 : KOften P w K mg base) (k6 : KMoved P w K mg base) : FnOk P w K mg base CX0 10 f fd ["_law_generator_here"] (spG 0 70 W_greatR) := by
  refine fn_okG (N := ["_law_generator_here", "_law_rows", "_law_last", "_law_size", "_law_width_there", "_law_near", "_law_told", "_law_far", "_law_wider", "_law_odd", "_law_row"]) F ⟨rfl, rfl, rfl, by decide +kernel, rfl, by decide +kernel, by decide +kernel⟩ rfl (by decide) fun cd A outer s H E hr bs ds Pd m ho hm h hl => ?_
  obtain ⟨rfl, p⟩ := h
  refine HT_cons (HS_asgD (k := 0 + (0 + 0 + 1) + 0 + 12) (P := fun d => ∃ (n t : Nat) (M : Sq.Mx) (fd : List ((Nat × Int) × List Nat)), 1 ≤ n ∧ n ≤ 6 ∧ Sq.Blocks n M t fd ∧ BzM 8 n M ∧ t ≤ 5 ∧ d = .list [mat n M, .int (t : Int)]) (HD_callG (gi := 0) (P' := fun ds => ∃ n : Nat, 1 ≤ n ∧ n ≤ 6 ∧ ds = [.int (n : Int)]) k3 (hr.mono (by decide)) rfl (HDA_cons (k := 0 + (0 + 0 + 1)) (Pa := IsI fun x => 1 ≤ x ∧ x ≤ 6) (HD_add (k := 0) (l := 0 + 0 + 1) (p := fun x => x = 1) (q := fun r => 0 ≤ r ∧ r < 6) (HD_of (HVi HV_int) 0) (HD_callG (gi := 0) (P' := fun ds => ds = [.int 6]) k1 (hr.mono (by decide)) rfl (HDA_cons (k := 0) (Pa := fun d => d = .int 6) (HD_of HV_int 0) fun d hd => HDA_nil (by rw [hd])) (fun ds hds => (by subst hds; exact ⟨rfl, 6, rfl, by decide, by decide, fun r r0 r1 => ⟨r, rfl, r0, r1⟩⟩)) (by show m + 0 + (0 + 0) + 1 ≤ 900000000; omega)) fun i j hi hj => ⟨_, rfl, by omega⟩) fun d hd => HDA_nil (by
      obtain ⟨x, rfl, x1, x2⟩ := hd
      exact ⟨x.toNat, by omega, by omega, by rw [Int.toNat_of_nonneg (by omega)]⟩)) (fun ds hds => (by
      obtain ⟨n, h1, h2, rfl⟩ := hds
      exact ⟨rfl, n, rfl, h1, h2, fun M t fd a b c => ⟨n, t, M, fd, h1, h2, a, b, c, rfl⟩⟩)) (by show m + (0 + (0 + 0 + 1) + 0) + 12 ≤ 900000000; omega)) (HGX_unl (n := 2) (HGXs_cons (HG_name (i := 1)).x (HGXs_cons (HG_name (i := 2)).x HGXs_nil)) xlen2) fun d hd => ?_)
  obtain ⟨n, t, M, fd, h1n, hn, hBl, hB, ht, rfl⟩ := hd
  refine ⟨_, ⟨_, rfl, _, _, _, rfl, rfl, _, _, _, rfl, rfl, rfl, rfl⟩, ?_⟩
  have hs : Sym n M := hBl.sy
  have hB1 : BzM 140 n M := fun i j hi hj => (hB i j hi hj).mono (by decide)
  have n0 := Sq.pos2 n
  have n6 : (2 : Int) ^ n ≤ 64 := pow_le4 (k := 6) hn
  have hlen : ∀ (d : PyData), d = PyData.int (((List.range n).map fun i => PyData.list (rowL n (M i))).length : Nat) → d = .int (n : Int) := fun d e => by rw [e]; simp
  refine HT_cons (HS_parD (i := 3) (j := 4) (k := 0 + (0 + (0 + 0 + 1) + 0)) (HDA_cons (k := 0) (Pa := fun d => d = .int (n : Int)) (HD_of (HV.to (HV_len T.len (HV.to (HV_var (i := 1) (d := mat n M) rfl) (mat_eq n M))) (hlen _ rfl)) 0) fun d hd => HDA_cons (k := 0 + (0 + 0 + 1)) (Pa := IsI fun x => (t : Int) + 3 ≤ x ∧ x < (t : Int) + 7) (HD_add (k := 0) (l := 0 + 0 + 1) (p := fun x => x = (t : Int) + 3) (q := fun r => 0 ≤ r ∧ r < 4) (HD_of (HVi (HV_add (HV_var (i := 2) rfl) HV_int)) 0) (HD_callG (gi := 0) (P' := fun ds => ds = [.int 4]) k1 (hr.mono (by decide)) rfl (HDA_cons (k := 0) (Pa := fun d => d = .int 4) (HD_of HV_int 0) fun d hd => HDA_nil (by rw [hd])) (fun ds hds => (by subst hds; exact ⟨rfl, 4, rfl, by decide, by decide, fun r r0 r1 => ⟨r, rfl, r0, r1⟩⟩)) (by show m + (0 + (0 + 0 + 1) + 0 + 12) + 0 + 0 + (0 + 0) + 1 ≤ 900000000; omega)) fun i j hi hj => ⟨_, rfl, by omega⟩) fun d2 hd2 => HDA_nil ⟨d, d2, rfl, ?_⟩))
  obtain ⟨wi, rfl, w0, w1⟩ := hd2
  obtain ⟨v, rfl⟩ : ∃ v : Nat, wi = (v : Int) := ⟨wi.toNat, by omega⟩
  subst hd
  refine HT_cons (HS_setD (i := 5) (k := 0 + (0 + 0 + 1)) (P := IsI fun x => 3 ≤ x ∧ x < 6) (HD_add (k := 0) (l := 0 + 0 + 1) (p := fun x => x = 3) (q := fun r => 0 ≤ r ∧ r < 3) (HD_of (HVi HV_int) 0) (HD_callG (gi := 0) (P' := fun ds => ds = [.int 3]) k1 (hr.mono (by decide)) rfl (HDA_cons (k := 0) (Pa := fun d => d = .int 3) (HD_of HV_int 0) fun d hd => HDA_nil (by rw [hd])) (fun ds hds => (by subst hds; exact ⟨rfl, 3, rfl, by decide, by decide, fun r r0 r1 => ⟨r, rfl, r0, r1⟩⟩)) (by show m + (0 + (0 + 0 + 1) + 0 + 12) + (0 + (0 + (0 + 0 + 1) + 0)) + 0 + (0 + 0) + 1 ≤ 900000000; omega)) fun i j hi hj => ⟨_, rfl, by omega⟩) fun d hd => ?_)
  obtain ⟨ri, rfl, r0, r1⟩ := hd
  obtain ⟨r, rfl⟩ : ∃ r : Nat, ri = (r : Int) := ⟨ri.toNat, by omega⟩
  refine HT_cons (HS_if (HC_neI (i := Sq.oddN n r M) (j := Sq.nz r (Sq.ns n) M - 2 ^ n * Sq.nz (r - 2) (Sq.ns n) M) (HE_call k4 hr (HA_cons (HV_var (i := 5) rfl) (HA_cons (HV_var (i := 1) rfl) HA_nil)) rfl ⟨r, n, M, rfl, by omega, by omega, h1n, hn, hs, hB1, .inl (by omega), rfl⟩) (HV_sub (HE_call k5 (hr.mono (by decide)) (HA_cons (HV_var (i := 5) rfl) (HA_cons (HV_var (i := 1) rfl) (HA_cons HV_int HA_nil))) rfl ⟨r, n, M, rfl, by omega, by omega, h1n, hn, hs, rfl⟩) (HV_mulS (HE_call k2 (hr.mono (by decide)) (HA_cons (HV_var (i := 3) rfl) HA_nil) rfl ⟨n, rfl, by omega, rfl⟩) (HE_call k5 (hr.mono (by decide)) (HA_cons (d := .int ((r - 2 : Nat) : Int)) (HV.to (HV_sub (HV_var (i := 5) rfl) HV_int) (by congr 1; omega)) (HA_cons (HV_var (i := 1) rfl) (HA_cons HV_int HA_nil))) rfl ⟨r - 2, n, M, rfl, by omega, by omega, h1n, hn, hs, rfl⟩) (by omega))) ?_))
  rw [decide_eq_true (odd_def (by omega)), show (!true) = false from rfl, if_neg (by decide)]
  refine HT_nil ?_
  refine HT_mid (fun en' => ∃ (u7 u8 u9 : Ent) (c : Nat), c ≤ m + 16 ∧ en' = { sl := [.gen, .dat (mat n M), .dat (.int (t : Int)), .dat (.int (n : Int)), .dat (.int (v : Int)), .dat (.int (r : Int)), .un, u7, u8, u9, .un], ct := c }) ?_ ?_
  · refine HS_if (HC_lt (HV_var (i := 3) rfl) HV_int ?_)
    by_cases z : (n : Int) < 6
    · rw [decide_eq_true z, if_pos rfl]
      have hpl : Sq.Plain (n + 1) (wdM n M) := Sq.Plain.wider hBl.plain wd_out wd_in
      refine HT_cons (HS_parD (i := 7) (j := 8) (k := 0 + (0 + 0 + 1) + (0 + 0)) (HDA_cons (k := 0 + (0 + 0 + 1)) (Pa := fun d => ∃ q : Nat, 3 ≤ q ∧ q ≤ 64 ∧ d = .int (q : Int)) (HD_ixL (ds := [.int (r : Int), .int 64, .int 40]) (HV_list (HA_cons (HV_var (i := 5) rfl) (HA_cons HV_int (HA_cons HV_int HA_nil))) (show 3 ≤ 100000 by decide)) (HD_callG (gi := 0) (P' := fun ds => ds = [.int 3]) k1 (hr.mono (by decide)) rfl (HDA_cons (k := 0) (Pa := fun d => d = .int 3) (HD_of HV_int 0) fun d hd => HDA_nil (by rw [hd])) (fun ds hds => (by subst hds; exact ⟨rfl, 3, rfl, by decide, by decide, fun r r0 r1 => ⟨r, rfl, r0, r1⟩⟩)) (by show m + (0 + (0 + 0 + 1) + 0 + 12) + (0 + (0 + (0 + 0 + 1) + 0)) + (0 + (0 + 0 + 1)) + 0 + (0 + 0) + 1 ≤ 900000000; omega)) (fun d hd => by
        simp only [List.mem_cons, List.not_mem_nil, or_false] at hd
        rcases hd with e | e | e
        · exact ⟨r, by omega, by omega, e⟩
        · exact ⟨64, by decide, by decide, e⟩
        · exact ⟨40, by decide, by decide, e⟩)) fun d hd => HDA_cons (k := 0) (Pa := fun d => d = mat (n + 1) (wdM n M)) (HD_of (HV.to (HV_cat (HV_lc (xs := List.range n) (c := fun i => PyData.list (rowL n (M i))) (h := fun i => PyData.list (rowL n (M i) ++ [.int 0])) (own := [("_law_row", 10)]) (f := fName 10) (HI_list (HV.to (HV_var (i := 1) (d := mat n M) rfl) (mat_eq n M))) (blkOk_by (by rfl)) (HG_name (i := 10)) (fun i hi => ⟨_, rfl, HV_cat (HV_var (i := 10) rfl) (HV_list (HA_cons HV_int HA_nil) (show 1 ≤ 100000 by decide)) (by rw [rowL_len]; show n + 1 ≤ 100000; omega)⟩) (by simp; omega)) (HV_list (HA_cons (HV_rep (n := n + 1) (HV_list (HA_cons HV_int HA_nil) (show 1 ≤ 100000 by decide)) (HV.to (HV_add (i := (n : Int)) (j := 1) (HV_var (i := 3) rfl) HV_int) rfl) (by omega)) HA_nil) (show 1 ≤ 100000 by decide)) (by rw [List.length_map, List.length_range]; show n + 1 ≤ 100000; omega)) (wd_mat n M)) 0) fun d2 hd2 => HDA_nil ⟨d, d2, rfl, ?_⟩))
      obtain ⟨q, q3, q64, rfl⟩ := hd
      subst hd2
      refine HT_cons (HS_setV (i := 9) (d := .int (Sq.oddN n q M)) (HE_call k4 hr (HA_cons (HV_var (i := 7) rfl) (HA_cons (HV_var (i := 1) rfl) HA_nil)) rfl ⟨q, n, M, rfl, by omega, q64, h1n, hn, hs, hB1, .inr hBl.plain, rfl⟩) ?_)
      have s1 : Sm (2 ^ q) := Bz.sm (k := 70) (Bz.of_lt (Int.le_of_lt (Sq.pos2 q)) (Int.lt_of_le_of_lt (pow_le4 q64) (by decide))) (by decide)
      have s2 : Sm (2 ^ (q - 1)) := Bz.sm (k := 70) (Bz.of_lt (Int.le_of_lt (Sq.pos2 (q - 1))) (Int.lt_of_le_of_lt (pow_le4 (show q - 1 ≤ 64 by omega)) (by decide))) (by decide)
      have s3 : Bz 400 (Sq.oddN n q M) := odd_bz M q64 hn
      have s4 : Bz 400 (Sq.nz q (Sq.ns n) M) := by
        obtain ⟨b0, b1⟩ := Sq.nz_bound q n M
        refine Bz.of_lt b0 (Int.lt_of_le_of_lt (Int.le_trans b1 (pow_le4 (Nat.mul_le_mul q64 hn))) ?_)
        have : (2 : Int) ^ 400 = 2 ^ (64 * 6) * 2 ^ 16 := by rw [← Int.pow_add]
        rw [this]
        have := Sq.pos2 (64 * 6)
        generalize (2 : Int) ^ (64 * 6) = B at *
        rw [show (2 : Int) ^ 16 = 65536 from by decide]
        omega
      refine HT_one (HS_if (HC_neI (i := Sq.oddN (n + 1) q (wdM n M)) (j := 2 ^ q * Sq.oddN n q M + 2 ^ (q - 1) * (Sq.nz q (Sq.ns n) M - Sq.oddN n q M)) (HE_call k4 hr (HA_cons (HV_var (i := 7) rfl) (HA_cons (HV_var (i := 8) rfl) HA_nil)) rfl ⟨q, n + 1, wdM n M, rfl, by omega, q64, by omega, by omega, wd_sym hs, wd_bz hB1, .inr hpl, rfl⟩) (HV_add (HV_mul (HE_call k2 (hr.mono (by decide)) (HA_cons (HV_var (i := 7) rfl) HA_nil) rfl ⟨q, rfl, by omega, rfl⟩) (HV_var (i := 9) rfl) s1 s3.sm) (HV_mul (HE_call k2 (hr.mono (by decide)) (HA_cons (d := .int ((q - 1 : Nat) : Int)) (HV.to (HV_sub (HV_var (i := 7) rfl) HV_int) (by congr 1; omega)) HA_nil) rfl ⟨q - 1, rfl, by omega, rfl⟩) (HV_sub (HE_call k5 (hr.mono (by decide)) (HA_cons (HV_var (i := 7) rfl) (HA_cons (HV_var (i := 1) rfl) (HA_cons HV_int HA_nil))) rfl ⟨q, n, M, rfl, by omega, q64, h1n, hn, hs, rfl⟩) (HV_var (i := 9) rfl)) s2 (s4.sub s3 (Nat.le_refl _) (Nat.le_refl _)).sm)) ?_))
      rw [decide_eq_true (Sq.odd_wider q3 wd_out wd_in), show (!true) = false from rfl, if_neg (by decide)]
      exact HT_nil ⟨_, _, _, _, by show m + (0 + (0 + 0 + 1) + 0 + 12) + (0 + (0 + (0 + 0 + 1) + 0)) + (0 + (0 + 0 + 1)) + (0 + (0 + 0 + 1) + (0 + 0)) ≤ m + 16; omega, rfl⟩
    · rw [decide_eq_false z, if_neg (by decide)]
      exact HT_nil ⟨_, _, _, _, by show m + (0 + (0 + 0 + 1) + 0 + 12) + (0 + (0 + (0 + 0 + 1) + 0)) + (0 + (0 + 0 + 1)) ≤ m + 16; omega, rfl⟩
  rintro en' ⟨u7, u8, u9, c, hc, rfl⟩
  refine HT_cons (HS_setV (i := 6) (d := .int (Sq.oddN n v M)) (HE_call k4 hr (HA_cons (HV_var (i := 4) rfl) (HA_cons (HV_var (i := 1) rfl) HA_nil)) rfl ⟨v, n, M, rfl, by omega, by omega, h1n, hn, hs, hB1, .inl (by omega), rfl⟩) ?_)
  refine HT_cons (HS_if (HC_neI (i := Sq.oddN n v M) (j := Sq.nz v (Sq.ns n) M - 2 ^ n * Sq.nz (v - 2) (Sq.ns n) M) (HV_var (i := 6) rfl) (HV_sub (HE_call k5 (hr.mono (by decide)) (HA_cons (HV_var (i := 4) rfl) (HA_cons (HV_var (i := 1) rfl) (HA_cons HV_int HA_nil))) rfl ⟨v, n, M, rfl, by omega, by omega, h1n, hn, hs, rfl⟩) (HV_mulS (HE_call k2 (hr.mono (by decide)) (HA_cons (HV_var (i := 3) rfl) HA_nil) rfl ⟨n, rfl, by omega, rfl⟩) (HE_call k5 (hr.mono (by decide)) (HA_cons (d := .int ((v - 2 : Nat) : Int)) (HV.to (HV_sub (HV_var (i := 4) rfl) HV_int) (by congr 1; omega)) (HA_cons (HV_var (i := 1) rfl) (HA_cons HV_int HA_nil))) rfl ⟨v - 2, n, M, rfl, by omega, by omega, h1n, hn, hs, rfl⟩) (by omega))) ?_))
  rw [decide_eq_true (odd_def (by omega)), show (!true) = false from rfl, if_neg (by decide)]
  refine HT_nil ?_
  have s5 : Bz 400 (Sq.oddN n v M) := odd_bz M (by omega) hn
  have s6 : Sm (2 ^ (n - 1)) := Bz.sm (k := 70) (Bz.of_lt (Int.le_of_lt (Sq.pos2 (n - 1))) (Int.lt_of_le_of_lt (pow_le4 (show n - 1 ≤ 64 by omega)) (by decide))) (by decide)
  refine HT_cons (HS_if (HC_neI (i := Sq.oddN n (v + 1) M) (j := Sq.oddN n v M * 2 ^ (n - 1)) (HE_call k4 hr (HA_cons (HV.to (HV_add (i := (v : Int)) (j := 1) (HV_var (i := 4) rfl) HV_int) rfl) (HA_cons (HV_var (i := 1) rfl) HA_nil)) rfl ⟨v + 1, n, M, rfl, by omega, by omega, h1n, hn, hs, hB1, .inl (by omega), rfl⟩) (HV_mul (HV_var (i := 6) rfl) (HE_call k2 (hr.mono (by decide)) (HA_cons (d := .int ((n - 1 : Nat) : Int)) (HV.to (HV_sub (HV_var (i := 3) rfl) HV_int) (by congr 1; omega)) HA_nil) rfl ⟨n - 1, rfl, by omega, rfl⟩) s5.sm s6) ?_))
  rw [decide_eq_true ((hBl.hensel h1n (by omega)).trans (Int.mul_comm _ _)), show (!true) = false from rfl, if_neg (by decide)]
  refine HT_nil ?_
  exact HT_one (HS_retD (k := 0 + (0 + 0 + 54 + 0) + 0) (P := Pd) (HD_eqSS (x := toString (Sq.oddN n v M)) (y := toString (Sq.oddN n v M)) (HD_repr (i := Sq.oddN n v M) T.repr (HD_call (P' := fun ds => ∃ R' : Sq.Mx, Sym n R' ∧ BzM 140 n R' ∧ (∀ u, Sq.nz u (Sq.ns n) R' = Sq.nz u (Sq.ns n) M) ∧ ds = [.int (v : Int), mat n R']) k4 hr (HDA_cons (k := 0) (Pa := fun d => d = .int (v : Int)) (HD_of (HV_var (i := 4) rfl) 0) fun d1 h1 => HDA_cons (k := 0 + 0 + 54) (Pa := fun d => ∃ R' : Sq.Mx, Sym n R' ∧ BzM 140 n R' ∧ (∀ u, Sq.nz u (Sq.ns n) R' = Sq.nz u (Sq.ns n) M) ∧ d = mat n R') (HD_callG (gi := 0) (P' := fun ds => ds = [mat n M]) k6 (hr.mono (by decide)) rfl (HDA_cons (k := 0) (Pa := fun d => d = mat n M) (HD_of (HV_var (i := 1) rfl) 0) fun d hd => HDA_nil (by rw [hd])) (fun ds hds => (by subst hds; exact ⟨rfl, n, M, rfl, h1n, hn, hs, hB, fun R' a b c => ⟨R', a, b, c, rfl⟩⟩)) (by show c + 0 + (0 + 0) + 54 ≤ 900000000; omega)) fun d2 h2 => HDA_nil (by
      obtain ⟨R', a, b, c, rfl⟩ := h2
      exact ⟨R', a, b, c, by rw [h1]⟩)) fun ds hds => (by
      obtain ⟨R', a, b, c, rfl⟩ := hds
      exact ⟨rfl, v, n, R', rfl, by omega, by omega, h1n, hn, a, b, .inl (by omega), _, rfl, odd_congr c⟩)) (odd_log M (by omega) hn)) (HD_of (HV_repr T.repr (HV_var (i := 6) rfl) (odd_log M (by omega) hn)) 0) (by rw [str_self]; exact p)) fun d hd => ⟨by show c + (0 + (0 + 0 + 54 + 0) + 0) ≤ m + 70; omega, hd⟩)
abbrev KGreatR (P : Program) (w : World) (K : PySem.W.Frag) (mg : Str → Option Value) (base : Heap) : Prop := Kn P w K mg base "_law_great_right" 10 (spG 0 70 W_greatR)
end
end WS
set_option Elab.async false
set_option linter.all false
set_option maxRecDepth 100000
set_option maxHeartbeats 4000000
set_option autoImplicit false
namespace WS
open PySem PySem.Spec PyProof.Rows L2
/-! ### the script's seeds, the generator, the law -/
theorem op_powW {X : Cx} : OpR X (binaryOp .Pow) (rI (fun i j => 0 ≤ j ∧ (Builtin.Int.intBits i : Int) * j ≤ 2 ^ 27) fun i j => .int (i ^ j.toNat)) := opI fun _ _ _ _ _ _ _ hc q => pow_int hc.1 hc.2 q
theorem seqL_keep {K : PySem.W.Frag} {H H' : Hp} {a : Addr} {xs : List V} (h : SqL K H a xs) (e : ∀ o, H a = some o → H' a = some o) : SqL K H' a xs := by
  rcases h with (h | ⟨o, h⟩) | h
  · exact .inl (.inl (e _ h))
  · exact .inl (.inr ⟨o, e _ h⟩)
  · exact .inr h
/-- what stood is kept by what draws from g -/
theorem seqL_gen {K : PySem.W.Frag} {H H1 H2 : Hp} {a g : Addr} {xs : List V} (h : SqL K H a xs) (g0 : H g = none) (s : Same H H1) (e : ∀ b o, b ≠ g → H1 b = some o → H2 b = some o) : SqL K H2 a xs :=
  seqL_keep h fun o q => e a o (fun z => by rw [z, g0] at q; cases q) (s a o q)
def spCell (K : PySem.W.Frag) : Sp := fun vs H Q _ => ∃ (a : Addr) (ns : List Int) (i : Nat), vs = [.ref a, .int (i : Int)] ∧ SqL K H a (ns.map V.int) ∧ ∀ (v : Int) (H' : Hp), Same H H' → Q (.int v) H'
def spGen (K : PySem.W.Frag) : Sp := fun vs H Q _ => ∃ (a : Addr) (ns : List Int) (i : Nat), vs = [.ref a, .int (i : Int)] ∧ SqL K H a (ns.map V.int) ∧
  ∀ (g : Addr) (x y : Int) (H' : Hp), Same H H' → H g = none → H' g = some (.lst [.int x, .int y, .int (1000 * (i : Int))]) → 0 ≤ x → x.natAbs < 2 ^ 2000 → y.natAbs < 2 ^ 40 → Q (.ref g) H'
def spLaw (K : PySem.W.Frag) : Sp := fun vs H Q _ => ∃ (a : Addr) (ns : List Int), vs = [.ref a] ∧ SqL K H a (ns.map V.int) ∧ ∀ H', Q (.bl true) H'
theorem big_ten : ((10 : Int) ^ (60 : Int).toNat) ^ (10 : Int).toNat = ((10 ^ 600 : Nat) : Int) := by decide +kernel
theorem big_lt : (10 ^ 600 : Nat) < 2 ^ 2000 := by decide +kernel
theorem cut_ints (ns : List Int) (lo hi : Option Int) : ∃ ms : List Int, cutV (ns.map V.int) lo hi = ms.map V.int := by
  unfold cutV
  exact ⟨_, by rw [← List.map_drop, ← List.map_take]⟩
section
variable {P : Program} {w : World} {K : PySem.W.Frag} {mg : Str → Option Value} {base : Heap} {C : Addr}
theorem ok_cell {f : Addr} {fd : FuncData} (F : Fun K "_law_cell" "_law_cell" (topS 46) f fd) (T : Gs mg) : FnOk P w K mg base CX0 1 f fd ["_law_script", "_law_index"] (spCell K) := by
  refine F.ok (N := ["_law_script", "_law_index"]) ⟨rfl, rfl, rfl, by decide +kernel, rfl, by decide +kernel, by decide +kernel⟩ (fun vs H Q E h => ?_) (fun cd A outer s H vs Q E hr h => ?_)
  · obtain ⟨a, ns, i, rfl, _⟩ := h; rfl
  · obtain ⟨a, ns, i, rfl, hS, k⟩ := h
    refine ⟨_, pss_cons (ps_if (pt_cmpR op_lt (pv 1) (pe_callB call_len_seq (by rfl) T.len PySem.boot_len (pa_cons (pv 0) pa_nil)) (nomark _)) (pss_one (ps_ret (pe_ix ix_list (pv 0) (pv 1) (fun _ _ => rfl)))) pss_nil)
      (pss_one (ps_ret (pe_op op_mod (pe_callB (cr_sum rfl) (by rfl) T.sum PyProof.Rows.boot_sum (pa_cons (pe_slice sl_list (pv 0) po_none (po_some pe_int)) pa_nil)) pe_int))), ?_⟩
    refine ⟨_, rfl, _, rfl, a, _, rfl, .inl hS, _, _, rfl, rfl, _, rfl, ?_⟩
    refine ite2 (fun z => ?_) (fun z => ?_)
    · have z := of_decide_eq_true z
      have hi : i < ns.length := by rw [List.length_map] at z; omega
      refine ⟨_, rfl, _, rfl, a, _, _, .int ns[i], rfl, rfl, hS, atI_of (by omega) ?_, k _ _ (Same.refl _)⟩
      rw [Int.toNat_natCast, List.getElem?_map, List.getElem?_eq_getElem hi]; rfl
    · obtain ⟨ms, hms⟩ := cut_ints ns none (some 1)
      refine ⟨_, rfl, _, rfl, a, _, rfl, hS, fun p hp => ?_⟩
      exact ⟨p, ms, rfl, SqL.of (by rw [upd_same, hms]), _, _, rfl, rfl, show (0 : Int) < 1000003 by decide, k _ _ fun b o e => by rw [upd_ne (ne_of_none e hp)]; exact e⟩
abbrev KCell (P : Program) (w : World) (K : PySem.W.Frag) (mg : Str → Option Value) (base : Heap) : Prop := Kn P w K mg base "_law_cell" 1 (spCell K)
theorem ok_gen {f : Addr} {fd : FuncData} (F : Fun K "_law_generator" "_law_generator" (topS 47) f fd) (T : Gs mg) (k1 : KCell P w K mg base) : FnOk P w K mg base CX0 2 f fd ["_law_script", "_law_index"] (spGen K) := by
  obtain ⟨fG, fdG, psG, okG, hmG, hkG, hbG⟩ := k1
  have S : FnScope ["_law_script", "_law_index", "_law_seed"] ["_law_script", "_law_index"] (defScope (topS 47)) := ⟨rfl, rfl, rfl, by decide +kernel, rfl, by decide +kernel, by decide +kernel⟩
  refine F.ok S (fun vs H Q E h => ?_) (fun cd A outer s H vs Q E hr h => ?_)
  · obtain ⟨a, ns, i, rfl, _⟩ := h; rfl
  · obtain ⟨a, ns, i, rfl, hS, k⟩ := h
    refine ⟨_, pss_cons (ps_set (i := 2) S.nd rfl (Or.inl rfl) (pe_call okG hr rfl hmG hkG hbG .nil pass0 (pa_cons (pv 0) (pa_cons (pv 1) pa_nil))))
      (pss_one (ps_ret (pe_lst (pa_cons (pe_op op_mod (pe_callTy call_int1 (by rfl) T.int PyProof.Rows.boot_int (pa_cons (pe_callB (call_max2 rfl) (by rfl) T.max PyProof.Rows.boot_max (pa_cons (pe_op op_sub (pv 2) (pe_op op_pow pe_int pe_int)) (pa_cons pe_int pa_nil))) pa_nil)) (pe_op op_powW (pe_op op_pow pe_int pe_int) pe_int))
        (pa_cons (pe_op op_mod (pe_callTy call_int1 (by rfl) T.int PyProof.Rows.boot_int (pa_cons (pv 2) pa_nil)) pe_int) (pa_cons (pe_op op_mul pe_int (pv 1)) pa_nil)))))), ?_⟩
    refine ⟨_, rfl, _, rfl, a, ns, i, rfl, hS, fun v H1 s1 => ?_⟩
    refine ⟨_, rfl, _, _, rfl, rfl, ⟨by decide, by decide, by decide⟩, _, _, rfl, rfl, _, _, rfl, .inl ⟨_, rfl, ?_⟩⟩
    refine ⟨_, _, rfl, rfl, ⟨by decide, by decide, by decide⟩, _, _, rfl, rfl, ⟨by decide, by decide +kernel⟩, _, _, rfl, rfl, (show (0 : Int) < ((10 : Int) ^ (60 : Int).toNat) ^ (10 : Int).toNat by rw [big_ten]; decide +kernel), ?_⟩
    refine ⟨_, rfl, .inl ⟨_, rfl, _, _, rfl, rfl, (show (0 : Int) < 2147483647 by decide), _, rfl, _, _, rfl, rfl, .inl (by decide), (show 3 ≤ sizeLine by decide), fun p hp => ?_⟩⟩
    have b0 := Int.emod_nonneg (if (0 : Int) > v - 10 ^ (18 : Int).toNat then 0 else v - 10 ^ (18 : Int).toNat) (b := ((10 ^ 600 : Nat) : Int)) (by decide +kernel)
    have b1 := Int.emod_lt_of_pos (if (0 : Int) > v - 10 ^ (18 : Int).toNat then 0 else v - 10 ^ (18 : Int).toNat) (b := ((10 ^ 600 : Nat) : Int)) (by decide +kernel)
    rw [← big_ten] at b0 b1
    refine k p _ (v % 2147483647) _ (fun b o e => by rw [upd_ne (ne_of_none (s1 _ _ e) hp)]; exact s1 _ _ e) ?_ upd_same b0 ?_ ?_
    · cases q : H p with
      | none => rfl
      | some u => rw [s1 _ _ q] at hp; cases hp
    · rw [big_ten] at b0 b1 ⊢
      exact Nat.lt_trans (by omega) big_lt
    · omega
abbrev KGen (P : Program) (w : World) (K : PySem.W.Frag) (mg : Str → Option Value) (base : Heap) : Prop := Kn P w K mg base "_law_generator" 2 (spGen K)
end
end WS
set_option Elab.async false
set_option linter.all false
set_option maxRecDepth 100000
set_option maxHeartbeats 4000000
set_option autoImplicit false
namespace WS
open PySem PySem.Spec PyProof.Rows L2
def M1 (a : Int) : Sq.Mx := fun _ _ => a
def M2 (a b c d : Int) : Sq.Mx := fun i j => if i = 0 then (if j = 0 then a else b) else (if j = 0 then c else d)
theorem n_a : Sq.oddN 2 3 (M2 0 1 1 0) = 16 := by decide +kernel
theorem n_b : Sq.oddN 2 2 (M2 1 0 0 1) = 0 := by decide +kernel
theorem n_c : Sq.oddN 1 1 (M1 0) = 1 := by decide +kernel
theorem n_d : Sq.oddN 1 64 (M1 0) = 2 ^ 63 := by
  rw [odd_def (by decide), Sq.nz_null (M := M1 0) (fun _ _ _ _ => rfl), Sq.nz_null (M := M1 0) (fun _ _ _ _ => rfl)]
  decide +kernel
theorem n_e : Sq.oddN 1 1 (M1 1) = 0 := by decide +kernel
theorem n_f : Sq.oddN 1 2 (M1 2) = 0 := by decide +kernel
theorem n_g : Sq.oddN 1 1 (M1 2) = 1 := by decide +kernel
theorem m1_sym (a : Int) : Sym 1 (M1 a) := fun _ _ _ _ => rfl
theorem m1_bz {k : Nat} {a : Int} (h : Bz k a) : BzM k 1 (M1 a) := fun _ _ _ _ => h
theorem m2_sym (a b d : Int) : Sym 2 (M2 a b b d) := fun i j _ _ => by
  unfold M2
  by_cases c1 : i = 0 <;> by_cases c2 : j = 0 <;> simp [c1, c2]
theorem m2_bz {k : Nat} {a b c d : Int} (h1 : Bz k a) (h2 : Bz k b) (h3 : Bz k c) (h4 : Bz k d) : BzM k 2 (M2 a b c d) := fun i j _ _ => by
  unfold M2
  split <;> split <;> assumption
section
variable {Z : Ctx} {bs : Bs} {en : En} {a b : Expr} {pos : Pos}
theorem HV_pow {i j : Int} (ha : HV Z bs a en (.int i)) (hb : HV Z bs b en (.int j)) (h : 0 ≤ j ∧ j ≤ 1000000 ∧ i.natAbs < 2 ^ 64) : HV Z bs (.BinOp a .Pow b pos) en (.int (i ^ j.toNat)) := HE_I (g := fun i j => i ^ j.toNat) (fun _ => op_pow) ha hb h
end
section
variable {P : Program} {w : World} {K : PySem.W.Frag} {mg : Str → Option Value} {base : Heap} {C : Addr}
theorem ok_law {f : Addr} {fd : FuncData} (F : Fun K "law" "law" (topS 62) f fd) (T : Gs mg) (kG : KGen P w K mg base) (k1 : KSmallR P w K mg base) (k2 : KGreatR P w K mg base) (k3 : KOdd P w K mg base) : FnOk P w K mg base CX0 11 f fd ["_law_script"] (spLaw K) := by
  obtain ⟨fG, fdG, psG, okG, hmG, hkG, hbG⟩ := kG
  obtain ⟨fS, fdS, psS, okS, hmS, hkS, hbS⟩ := k1
  obtain ⟨fR, fdR, psR, okR, hmR, hkR, hbR⟩ := k2
  have S : FnScope ["_law_script", "_law_index", "_law_told", "_law_generator_here"] ["_law_script"] (defScope (topS 62)) := ⟨rfl, rfl, rfl, by decide +kernel, rfl, by decide +kernel, by decide +kernel⟩
  refine F.ok S (fun vs H Q E h => ?_) (fun cd A outer s H vs Q E hr h => ?_)
  · obtain ⟨a, ns, rfl, _⟩ := h; rfl
  · obtain ⟨a, ns, rfl, hS, k⟩ := h
    refine ⟨_, pss_cons (ps_for PassesOwn.never rfl (pi_range1 (by rfl) T.range (pa_cons pe_int pa_nil)) (pg_name (i := 1) S.nd rfl (Or.inl rfl))
        (pss_cons (ps_set (i := 3) S.nd rfl (Or.inl rfl) (pe_call okG (hr.mono (by decide)) rfl hmG hkG hbG .nil pass0 (pa_cons (pv 0) (pa_cons (pv 1) pa_nil))))
          (pss_one (ps_if (PW.pt (pw_or (pt_not (pt_val (pe_call okS hr rfl hmS hkS hbS .nil pass0 (pa_cons (pv 3) pa_nil)))) (pw_or1 (pt_not (pt_val (pe_call okR hr rfl hmR hkR hbR .nil pass0 (pa_cons (pv 3) pa_nil))))))) (pss_one (ps_ret pe_bl)) pss_nil))))
      (pss_tS (ctx0 P w K mg base ["_law_script", "_law_index", "_law_told", "_law_generator_here"] "law" (defScope (topS 62)) f cd A outer s H E S.nd (Room.un200 hr)) _ ()), ?_⟩
    refine ⟨2, rfl, by decide, by decide, for_range (fun i σ H' => ∃ (b : Addr) (v1 v2 v3 : Option V), σ = [some (.ref b), v1, v2, v3] ∧ SqL K H' b (ns.map V.int)) ⟨a, none, none, none, rfl, hS⟩ ?_ ?_⟩
    · rintro i σ H' hi ⟨b, v1, v2, v3, rfl, hS'⟩
      have hi : i < 2 := hi
      refine ⟨_, rfl, _, rfl, b, ns, i, ?_, hS', fun g x y H1 s1 g0 g1 x0 x1 y1 => ?_⟩
      · show [V.ref b, V.int (0 + (i : Int))] = _
        rw [Int.zero_add]
      have hG : Gen 1000 H1 g := ⟨x, y, 1000 * i, g1, x0, x1, y1, by omega, by omega⟩
      refine ⟨_, rfl, fun _ => none, g, [], [], fun d => d = .bool true, 1000, rfl, (fun _ _ h => nomatch h), rfl, hG, by decide, .nil, rfl, ⟨rfl, rfl⟩, fun v d F2 H2 G2 rv pv => ?_⟩
      subst pv
      cases rv
      refine ⟨true, rfl, ?_⟩
      refine ⟨_, rfl, fun _ => none, g, [], [], fun d => d = .bool true, 1000 + 66, rfl, (fun _ _ h => nomatch h), rfl, G2.gn, by decide, .nil, rfl, ⟨rfl, rfl⟩, fun v d F3 H3 G3 rv pv => ?_⟩
      subst pv
      cases rv
      refine ⟨true, rfl, ?_⟩
      exact ⟨b, _, _, _, rfl, seqL_gen hS' g0 s1 fun c o n e => G3.h c o n (G2.h c o n e)⟩
    · rintro σ H' ⟨b, v1, v2, v3, rfl, hS'⟩
      refine (show HT (ctx0 P w K mg base ["_law_script", "_law_index", "_law_told", "_law_generator_here"] "law" (defScope (topS 62)) f cd A outer s H E S.nd (Room.un200 hr)) ⟨fun _ => none, H', none, none⟩ _ { sl := [.un, .un, .un, .un] } ⟨fun _ => False, fun _ d => d = .bool true⟩ from ?_) _ (fun _ => none) H' ?_ _ (fun _ _ _ _ _ _ h => h.elim) (fun en' σ' v d F' H2 R' rv e => ?_)
      · refine HT_cons (HS_setV (i := 2) (d := dI [16, 0, 1, 2 ^ 63, 0]) (HV_list
          (HA_cons (HE_call k3 (hr.mono (by decide)) (HA_cons HV_int (HA_cons (HV_list (HA_cons (HV_list (HA_cons HV_int (HA_cons HV_int HA_nil)) (show 2 ≤ 100000 by decide)) (HA_cons (HV_list (HA_cons HV_int (HA_cons HV_int HA_nil)) (show 2 ≤ 100000 by decide)) HA_nil)) (show 2 ≤ 100000 by decide)) HA_nil)) rfl ⟨3, 2, M2 0 1 1 0, rfl, by decide, by decide, by decide, by decide, m2_sym _ _ _, m2_bz (bz0 _) (bz1 (by decide)) (bz1 (by decide)) (bz0 _), .inl (by decide), by rw [n_a]⟩)
          (HA_cons (HE_call k3 (hr.mono (by decide)) (HA_cons HV_int (HA_cons (HV_list (HA_cons (HV_list (HA_cons HV_int (HA_cons HV_int HA_nil)) (show 2 ≤ 100000 by decide)) (HA_cons (HV_list (HA_cons HV_int (HA_cons HV_int HA_nil)) (show 2 ≤ 100000 by decide)) HA_nil)) (show 2 ≤ 100000 by decide)) HA_nil)) rfl ⟨2, 2, M2 1 0 0 1, rfl, by decide, by decide, by decide, by decide, m2_sym _ _ _, m2_bz (bz1 (by decide)) (bz0 _) (bz0 _) (bz1 (by decide)), .inl (by decide), by rw [n_b]⟩)
          (HA_cons (HE_call k3 (hr.mono (by decide)) (HA_cons HV_int (HA_cons (HV_list (HA_cons (HV_list (HA_cons HV_int HA_nil) (show 1 ≤ 100000 by decide)) HA_nil) (show 1 ≤ 100000 by decide)) HA_nil)) rfl ⟨1, 1, M1 0, rfl, by decide, by decide, by decide, by decide, m1_sym _, m1_bz (bz0 _), .inl (by decide), by rw [n_c]⟩)
          (HA_cons (HE_call k3 (hr.mono (by decide)) (HA_cons HV_int (HA_cons (HV_list (HA_cons (HV_list (HA_cons HV_int HA_nil) (show 1 ≤ 100000 by decide)) HA_nil) (show 1 ≤ 100000 by decide)) HA_nil)) rfl ⟨64, 1, M1 0, rfl, by decide, by decide, by decide, by decide, m1_sym _, m1_bz (bz0 _), .inr (fun i hi => .ze fun j hj => rfl), by rw [n_d]⟩)
          (HA_cons (HE_call k3 (hr.mono (by decide)) (HA_cons HV_int (HA_cons (HV_list (HA_cons (HV_list (HA_cons HV_int HA_nil) (show 1 ≤ 100000 by decide)) HA_nil) (show 1 ≤ 100000 by decide)) HA_nil)) rfl ⟨1, 1, M1 1, rfl, by decide, by decide, by decide, by decide, m1_sym _, m1_bz (bz1 (by decide)), .inl (by decide), by rw [n_e]⟩) HA_nil))))) (show 5 ≤ 100000 by decide)) ?_)
        refine HT_one (HS_ret (P := fun d => d = .bool true) (HE_and (HV.he (HV_eqD (d := dI [16, 0, 1, 2 ^ 63, 0]) (d' := dI [16, 0, 1, 2 ^ 63, 0]) (HV_var (i := 2) rfl) (HV_list (HA_cons HV_int (HA_cons HV_int (HA_cons HV_int (HA_cons (HV.to (HV_pow HV_int HV_int (by decide)) rfl) (HA_cons HV_int HA_nil))))) (show 5 ≤ 100000 by decide)) (fl_dI _).sh (fl_dI _).sh) ⟨true, by rw [(fl_dI _).eqv], ?_⟩)) fun d q => q)
        rw [if_pos rfl]
        refine HE_and (HV.he (HV_eqI (i := 0) (j := 0) (HE_call k3 (hr.mono (by decide)) (HA_cons HV_int (HA_cons (HV_list (HA_cons (HV_list (HA_cons HV_int HA_nil) (show 1 ≤ 100000 by decide)) HA_nil) (show 1 ≤ 100000 by decide)) HA_nil)) rfl ⟨2, 1, M1 2, rfl, by decide, by decide, by decide, by decide, m1_sym _, m1_bz (bz2 (by decide)), .inl (by decide), by rw [n_f]⟩) HV_int) ⟨true, rfl, ?_⟩)
        rw [if_pos rfl]
        refine HE_and1 (HV.he (P := fun d => d = .bool true) (HV_eqI (i := 1) (j := 1) ?_ HV_int) rfl)
        exact (HE_call k3 (hr.mono (by decide)) (HA_cons HV_int (HA_cons (HV_list (HA_cons (HV_list (HA_cons HV_int HA_nil) (show 1 ≤ 100000 by decide)) HA_nil) (show 1 ≤ 100000 by decide)) HA_nil)) rfl ⟨1, 1, M1 2, rfl, by decide, by decide, by decide, by decide, m1_sym _, m1_bz (bz2 (by decide)), .inl (by decide), by rw [n_g]⟩)
      · refine ⟨⟨(fun _ h => nomatch h), (fun _ h => nomatch h), .inl rfl⟩, Same.refl _, (fun _ _ h => nomatch h), fun a o h _ => h, fun _ _ _ => rfl, (fun _ h => nomatch h), (fun _ h => nomatch h), rfl, fun i e h => ?_, trivial⟩
        have : e = .un := List.eq_of_mem_replicate (n := 4) (List.mem_of_getElem? h)
        subst this
        trivial
      · subst e
        cases rv
        exact k _
end
end WS
set_option Elab.async false
set_option linter.all false
set_option maxRecDepth 100000
set_option maxHeartbeats 0
set_option autoImplicit false
namespace WS
open PySem PySem.Spec PyProof.Rows L2
theorem fun_of {K : PySem.W.Frag} {x qual : Str} {st : Stmt} {f : Addr} {fd : FuncData} (F : FunD K x qual (defArgs st) (defBody st) (defScope st) [] [] f fd) : Fun K x qual st f fd := by
  obtain ⟨⟨oc, od, dV, kV, doc, pm, an, cdv, ct, osl, e, lk, hcd, hD, _⟩, kp⟩ := F
  rcases hD with ⟨_, rfl⟩ | ⟨h, _⟩
  · exact ⟨⟨oc, od, kV, doc, pm, an, cdv, ct, osl, e, lk, hcd⟩, kp⟩
  · exact absurd rfl h
theorem facts_all {P : Program} {w : World} {K : PySem.W.Frag} {h : Heap} {mg : Str → Option Value} {f : Addr} (X : K.In h) (G : h.Ns mainGlobals mg) (hfa : mg ("law" : Str) = some (.ref f)) (c : He.SaysD hFa hFn K) :
    ∃ fd : FuncData, (∀ (s : Shared) (v : Value), BindsTo s fd ⟨[v], []⟩ [("_law_script", v)]) ∧ ∀ base : Heap, K.In base → base.Ns mainGlobals mg → FnOk P w K mg base CX0 11 f fd ["_law_script"] (spLaw K) := by
  have T : Gs mg := ⟨He.free_ok X G (c.fact 0 (f := .free "len") rfl), He.free_ok X G (c.fact 1 (f := .free "range") rfl), He.free_ok X G (c.fact 2 (f := .free "sum") rfl), He.free_ok X G (c.fact 3 (f := .free "enumerate") rfl), He.free_ok X G (c.fact 4 (f := .free "isinstance") rfl), He.free_ok X G (c.fact 5 (f := .free "int") rfl), He.free_ok X G (c.fact 6 (f := .free "bool") rfl), He.free_ok X G (c.fact 7 (f := .free "list") rfl), He.free_ok X G (c.fact 8 (f := .free "max") rfl), He.free_ok X G (c.fact 9 (f := .free "min") rfl), He.free_ok X G (c.fact 10 (f := .free "abs") rfl), He.free_ok X G (c.fact 11 (f := .free "zip") rfl), He.free_ok X G (c.fact 12 (f := .free "sorted") rfl), He.free_ok X G (c.fact 13 (f := .free "repr") rfl), (by obtain ⟨t, e⟩ := He.int_ok X G (c.fact 14 (f := .int "MOST_WIDTH" 64) rfl); exact ⟨_, e, ⟨t, rfl⟩⟩), (by obtain ⟨t, e⟩ := He.int_ok X G (c.fact 15 (f := .int "MOST_UNKNOWNS" 6) rfl); exact ⟨_, e, ⟨t, rfl⟩⟩)⟩
  have S : Spl K (He.ga K "Splitting") := ⟨He.cls_ok (c.fact 17 (f := .cls "Splitting") rfl), He.noat_ok (c.fact 19 (f := .noat "Splitting" "width") rfl), He.noat_ok (c.fact 20 (f := .noat "Splitting" "size") rfl), He.noat_ok (c.fact 21 (f := .noat "Splitting" "rows") rfl), He.noat_ok (c.fact 22 (f := .noat "Splitting" "change") rfl), He.noat_ok (c.fact 23 (f := .noat "Splitting" "left") rfl), He.noat_ok (c.fact 24 (f := .noat "Splitting" "found") rfl)⟩
  obtain ⟨fd0, E0⟩ := c.def_ 0 (d := dG "is_whole" 8) rfl
  have F0 := fun_of (st := topS 8) E0
  have b0 := F0.binds (ps := ["value"]) fun _ _ _ _ _ _ us hl => match us, hl with | [_], _ => rfl
  obtain ⟨fd1, E1⟩ := c.def_ 1 (d := dG "is_between" 9) rfl
  have F1 := fun_of (st := topS 9) E1
  have b1 := F1.binds (ps := ["value", "low", "high"]) fun _ _ _ _ _ _ us hl => match us, hl with | [_, _, _], _ => rfl
  obtain ⟨fd2, E2⟩ := c.def_ 2 (d := dG "power_of_two" 10) rfl
  have F2 := fun_of (st := topS 10) E2
  have b2 := F2.binds (ps := ["many"]) fun _ _ _ _ _ _ us hl => match us, hl with | [_], _ => rfl
  obtain ⟨fd3, E3⟩ := c.def_ 3 (d := dG "twos" 11) rfl
  have F3 := fun_of (st := topS 11) E3
  have b3 := F3.binds (ps := ["number"]) fun _ _ _ _ _ _ us hl => match us, hl with | [_], _ => rfl
  obtain ⟨fd4, E4⟩ := c.def_ 4 (d := dG "is_width" 12) rfl
  have F4 := fun_of (st := topS 12) E4
  have b4 := F4.binds (ps := ["value"]) fun _ _ _ _ _ _ us hl => match us, hl with | [_], _ => rfl
  obtain ⟨fd5, E5⟩ := c.def_ 5 (d := dG "check_width" 13) rfl
  have F5 := fun_of (st := topS 13) E5
  have b5 := F5.binds (ps := ["width"]) fun _ _ _ _ _ _ us hl => match us, hl with | [_], _ => rfl
  obtain ⟨fd6, E6⟩ := c.def_ 6 (d := dG "is_word" 14) rfl
  have F6 := fun_of (st := topS 14) E6
  have b6 := F6.binds (ps := ["width", "value"]) fun _ _ _ _ _ _ us hl => match us, hl with | [_, _], _ => rfl
  obtain ⟨fd7, E7⟩ := c.def_ 7 (d := dG "check_word" 15) rfl
  have F7 := fun_of (st := topS 15) E7
  have b7 := F7.binds (ps := ["width", "word"]) fun _ _ _ _ _ _ us hl => match us, hl with | [_, _], _ => rfl
  obtain ⟨fd8, E8⟩ := c.def_ 8 (d := dG "is_row" 16) rfl
  have F8 := fun_of (st := topS 16) E8
  have b8 := F8.binds (ps := ["value", "size"]) fun _ _ _ _ _ _ us hl => match us, hl with | [_, _], _ => rfl
  obtain ⟨fd9, E9⟩ := c.def_ 9 (d := dG "are_rows" 17) rfl
  have F9 := fun_of (st := topS 17) E9
  have b9 := F9.binds (ps := ["value"]) fun _ _ _ _ _ _ us hl => match us, hl with | [_], _ => rfl
  obtain ⟨fd10, E10⟩ := c.def_ 10 (d := dG "turned_over" 18) rfl
  have F10 := fun_of (st := topS 18) E10
  have b10 := F10.binds (ps := ["rows"]) fun _ _ _ _ _ _ us hl => match us, hl with | [_], _ => rfl
  obtain ⟨fd11, E11⟩ := c.def_ 11 (d := dG "is_form_value" 19) rfl
  have F11 := fun_of (st := topS 19) E11
  have b11 := F11.binds (ps := ["value"]) fun _ _ _ _ _ _ us hl => match us, hl with | [_], _ => rfl
  obtain ⟨fd12, E12⟩ := c.def_ 12 (d := dG "check_form" 20) rfl
  have F12 := fun_of (st := topS 20) E12
  have b12 := F12.binds (ps := ["form"]) fun _ _ _ _ _ _ us hl => match us, hl with | [_], _ => rfl
  obtain ⟨fd13, E13⟩ := c.def_ 13 (d := dG "product_of" 21) rfl
  have F13 := fun_of (st := topS 21) E13
  have b13 := F13.binds (ps := ["one", "other"]) fun _ _ _ _ _ _ us hl => match us, hl with | [_, _], _ => rfl
  obtain ⟨fd14, E14⟩ := c.def_ 14 (d := dG "changed_by" 22) rfl
  have F14 := fun_of (st := topS 22) E14
  have b14 := F14.binds (ps := ["form", "change"]) fun _ _ _ _ _ _ us hl => match us, hl with | [_, _], _ => rfl
  obtain ⟨fd15, E15⟩ := c.def_ 15 (d := dG "table_by" 23) rfl
  have F15 := fun_of (st := topS 23) E15
  have b15 := F15.binds (ps := ["width", "form"]) fun _ _ _ _ _ _ us hl => match us, hl with | [_, _], _ => rfl
  obtain ⟨fd16, E16⟩ := c.def_ 16 (d := dG "inverse_of" 24) rfl
  have F16 := fun_of (st := topS 24) E16
  have b16 := F16.binds (ps := ["odd", "width"]) fun _ _ _ _ _ _ us hl => match us, hl with | [_, _], _ => rfl
  obtain ⟨fd17, E17⟩ := c.def_ 17 (d := dG "size_of" 26) rfl
  have F17 := fun_of (st := topS 26) E17
  have b17 := F17.binds (ps := ["pieces"]) fun _ _ _ _ _ _ us hl => match us, hl with | [_], _ => rfl
  obtain ⟨fd18, E18⟩ := c.def_ 18 (d := dG "unit_lists" 28) rfl
  have F18 := fun_of (st := topS 28) E18
  have b18 := F18.binds (ps := ["size"]) fun _ _ _ _ _ _ us hl => match us, hl with | [_], _ => rfl
  obtain ⟨fd19, E19⟩ := c.def_ 19 (d := dG "root_of" 29) rfl
  have F19 := fun_of (st := topS 29) E19
  have b19 := F19.binds (ps := ["number", "width"]) fun _ _ _ _ _ _ us hl => match us, hl with | [_, _], _ => rfl
  obtain ⟨fd20, E20⟩ := c.def_ 20 (d := dG "root_by_steps" 30) rfl
  have F20 := fun_of (st := topS 30) E20
  have b20 := F20.binds (ps := ["first", "second", "third", "start", "width"]) fun _ _ _ _ _ _ us hl => match us, hl with | [_, _, _, _, _], _ => rfl
  obtain ⟨fd21, E21⟩ := c.def_ 21 (d := dS "go" "Splitting.go" 2) rfl
  have F21 := fun_of (st := inClass clS 2) E21
  have b21 := F21.binds (ps := ["self", "step"]) fun _ _ _ _ _ _ us hl => match us, hl with | [_, _], _ => rfl
  obtain ⟨fd22, E22⟩ := c.def_ 22 (d := dS "keep" "Splitting.keep" 6) rfl
  have F22 := fun_of (st := inClass clS 6) E22
  have b22 := F22.binds (ps := ["self", "piece", "places"]) fun _ _ _ _ _ _ us hl => match us, hl with | [_, _, _], _ => rfl
  obtain ⟨fd23, E23⟩ := c.def_ 23 (d := dS "least" "Splitting.least" 1) rfl
  have F23 := fun_of (st := inClass clS 1) E23
  have b23 := F23.binds (ps := ["self"]) fun _ _ _ _ _ _ us hl => match us, hl with | [_], _ => rfl
  obtain ⟨fd24, E24⟩ := c.def_ 24 (d := dS "take_square" "Splitting.take_square" 3) rfl
  have F24 := fun_of (st := inClass clS 3) E24
  have b24 := F24.binds (ps := ["self", "scale", "place"]) fun _ _ _ _ _ _ us hl => match us, hl with | [_, _, _], _ => rfl
  obtain ⟨fd25, E25⟩ := c.def_ 25 (d := dS "pair_step" "Splitting.pair_step" 4) rfl
  have F25 := fun_of (st := inClass clS 4) E25
  have b25 := F25.binds (ps := ["self", "scale", "place", "at"]) fun _ _ _ _ _ _ us hl => match us, hl with | [_, _, _, _], _ => rfl
  obtain ⟨fd26, E26⟩ := c.def_ 26 (d := dS "take_pair" "Splitting.take_pair" 5) rfl
  have F26 := fun_of (st := inClass clS 5) E26
  have b26 := F26.binds (ps := ["self", "scale", "place", "at"]) fun _ _ _ _ _ _ us hl => match us, hl with | [_, _, _, _], _ => rfl
  obtain ⟨fd27, E27⟩ := c.def_ 27 (d := dS "walk" "Splitting.walk" 7) rfl
  have F27 := fun_of (st := inClass clS 7) E27
  have b27 := F27.binds (ps := ["self"]) fun _ _ _ _ _ _ us hl => match us, hl with | [_], _ => rfl
  obtain ⟨fd28, E28⟩ := c.def_ 28 (d := dS "told" "Splitting.told" 8) rfl
  have F28 := fun_of (st := inClass clS 8) E28
  have b28 := F28.binds (ps := ["self"]) fun _ _ _ _ _ _ us hl => match us, hl with | [_], _ => rfl
  obtain ⟨fd29, E29⟩ := c.def_ 29 (d := dS "__init__" "Splitting.__init__" 0) rfl
  have F29 := fun_of (st := inClass clS 0) E29
  have b29 := F29.binds (ps := ["self", "width", "form"]) fun _ _ _ _ _ _ us hl => match us, hl with | [_, _, _], _ => rfl
  obtain ⟨fd30, E30⟩ := c.def_ 30 (d := dG "way_of" 32) rfl
  have F30 := fun_of (st := topS 32) E30
  have b30 := F30.binds (ps := ["width", "form"]) fun _ _ _ _ _ _ us hl => match us, hl with | [_, _], _ => rfl
  obtain ⟨fd31, E31⟩ := c.def_ 31 (d := dG "every_pieces" 33) rfl
  have F31 := fun_of (st := topS 33) E31
  have b31 := F31.binds (ps := ["form"]) fun _ _ _ _ _ _ us hl => match us, hl with | [_], _ => rfl
  obtain ⟨fd32, E32⟩ := c.def_ 32 (d := dG "piece_part" 35) rfl
  have F32 := fun_of (st := topS 35) E32
  have b32 := F32.binds (ps := ["width", "many", "odd", "piece"]) fun _ _ _ _ _ _ us hl => match us, hl with | [_, _, _, _], _ => rfl
  obtain ⟨fd33, E33⟩ := c.def_ 33 (d := dG "whole_part" 36) rfl
  have F33 := fun_of (st := topS 36) E33
  have b33 := F33.binds (ps := ["half", "turn"]) fun _ _ _ _ _ _ us hl => match us, hl with | [_, _], _ => rfl
  obtain ⟨fd34, E34⟩ := c.def_ 34 (d := dG "turns_table" 37) rfl
  have F34 := fun_of (st := topS 37) E34
  have b34 := F34.binds (ps := ["width", "pieces", "size", "last"]) fun _ _ _ _ _ _ us hl => match us, hl with | [_, _, _, _], _ => rfl
  obtain ⟨fd35, E35⟩ := c.def_ 35 (d := dG "count_by" 38) rfl
  have F35 := fun_of (st := topS 38) E35
  have b35 := F35.binds (ps := ["width", "table", "word"]) fun _ _ _ _ _ _ us hl => match us, hl with | [_, _, _], _ => rfl
  obtain ⟨fd36, E36⟩ := c.def_ 36 (d := dG "count_of" 39) rfl
  have F36 := fun_of (st := topS 39) E36
  have b36 := F36.binds (ps := ["width", "pieces", "size", "word"]) fun _ _ _ _ _ _ us hl => match us, hl with | [_, _, _, _], _ => rfl
  obtain ⟨fd37, E37⟩ := c.def_ 37 (d := dG "how_often" 40) rfl
  have F37 := fun_of (st := topS 40) E37
  have b37 := F37.binds (ps := ["width", "form", "word"]) fun _ _ _ _ _ _ us hl => match us, hl with | [_, _, _], _ => rfl
  obtain ⟨fd38, E38⟩ := c.def_ 38 (d := dG "odd_noughts_of" 41) rfl
  have F38 := fun_of (st := topS 41) E38
  have b38 := F38.binds (ps := ["width", "pieces", "size"]) fun _ _ _ _ _ _ us hl => match us, hl with | [_, _, _], _ => rfl
  obtain ⟨fd39, E39⟩ := c.def_ 39 (d := dG "odd_noughts" 42) rfl
  have F39 := fun_of (st := topS 42) E39
  have b39 := F39.binds (ps := ["width", "form"]) fun _ _ _ _ _ _ us hl => match us, hl with | [_, _], _ => rfl
  obtain ⟨fd40, E40⟩ := c.def_ 40 (d := dG "_law_hash" 44) rfl
  have F40 := fun_of (st := topS 44) E40
  have b40 := F40.binds (ps := ["_law_seed", "_law_index"]) fun _ _ _ _ _ _ us hl => match us, hl with | [_, _], _ => rfl
  obtain ⟨fd41, E41⟩ := c.def_ 41 (d := dG "_law_random" 45) rfl
  have F41 := fun_of (st := topS 45) E41
  have b41 := F41.binds (ps := ["_law_generator_here", "_law_bound"]) fun _ _ _ _ _ _ us hl => match us, hl with | [_, _], _ => rfl
  obtain ⟨fd42, E42⟩ := c.def_ 42 (d := dG "_law_two" 48) rfl
  have F42 := fun_of (st := topS 48) E42
  have b42 := F42.binds (ps := ["_law_many"]) fun _ _ _ _ _ _ us hl => match us, hl with | [_], _ => rfl
  obtain ⟨fd43, E43⟩ := c.def_ 43 (d := dG "_law_copied" 53) rfl
  have F43 := fun_of (st := topS 53) E43
  have b43 := F43.binds (ps := ["_law_rows"]) fun _ _ _ _ _ _ us hl => match us, hl with | [_], _ => rfl
  obtain ⟨fd44, E44⟩ := c.def_ 44 (d := dG "_law_lists" 55) rfl
  have F44 := fun_of (st := topS 55) E44
  have b44 := F44.binds (ps := ["_law_size", "_law_whole"]) fun _ _ _ _ _ _ us hl => match us, hl with | [_, _], _ => rfl
  obtain ⟨fd45, E45⟩ := c.def_ 45 (d := dG "_law_value" 54) rfl
  have F45 := fun_of (st := topS 54) E45
  have b45 := F45.binds (ps := ["_law_rows", "_law_found"]) fun _ _ _ _ _ _ us hl => match us, hl with | [_, _], _ => rfl
  obtain ⟨fd46, E46⟩ := c.def_ 46 (d := dG "_law_listed" 56) rfl
  have F46 := fun_of (st := topS 56) E46
  have b46 := F46.binds (ps := ["_law_rows", "_law_width_there"]) fun _ _ _ _ _ _ us hl => match us, hl with | [_, _], _ => rfl
  obtain ⟨fd47, E47⟩ := c.def_ 47 (d := dG "_law_drawn" 50) rfl
  have F47 := fun_of (st := topS 50) E47
  have b47 := F47.binds (ps := ["_law_generator_here", "_law_size", "_law_wide"]) fun _ _ _ _ _ _ us hl => match us, hl with | [_, _, _], _ => rfl
  obtain ⟨fd48, E48⟩ := c.def_ 48 (d := dG "_law_pieced" 51) rfl
  have F48 := fun_of (st := topS 51) E48
  have b48 := F48.binds (ps := ["_law_generator_here", "_law_size", "_law_deep"]) fun _ _ _ _ _ _ us hl => match us, hl with | [_, _, _], _ => rfl
  obtain ⟨fd49, E49⟩ := c.def_ 49 (d := dG "_law_form" 52) rfl
  have F49 := fun_of (st := topS 52) E49
  have b49 := F49.binds (ps := ["_law_generator_here", "_law_size", "_law_deep"]) fun _ _ _ _ _ _ us hl => match us, hl with | [_, _, _], _ => rfl
  obtain ⟨fd50, E50⟩ := c.def_ 50 (d := dG "_law_small" 57) rfl
  have F50 := fun_of (st := topS 57) E50
  have b50 := F50.binds (ps := ["_law_generator_here"]) fun _ _ _ _ _ _ us hl => match us, hl with | [_], _ => rfl
  obtain ⟨fd51, E51⟩ := c.def_ 51 (d := dG "_law_moved" 58) rfl
  have F51 := fun_of (st := topS 58) E51
  have b51 := F51.binds (ps := ["_law_generator_here", "_law_rows"]) fun _ _ _ _ _ _ us hl => match us, hl with | [_, _], _ => rfl
  obtain ⟨fd52, E52⟩ := c.def_ 52 (d := dG "_law_small_right" 59) rfl
  have F52 := fun_of (st := topS 59) E52
  have b52 := F52.binds (ps := ["_law_generator_here"]) fun _ _ _ _ _ _ us hl => match us, hl with | [_], _ => rfl
  obtain ⟨fd53, E53⟩ := c.def_ 53 (d := dG "_law_scales" 60) rfl
  have F53 := fun_of (st := topS 60) E53
  have b53 := F53.binds (ps := ["_law_generator_here", "_law_size"]) fun _ _ _ _ _ _ us hl => match us, hl with | [_, _], _ => rfl
  obtain ⟨fd54, E54⟩ := c.def_ 54 (d := dG "_law_great_right" 61) rfl
  have F54 := fun_of (st := topS 61) E54
  have b54 := F54.binds (ps := ["_law_generator_here"]) fun _ _ _ _ _ _ us hl => match us, hl with | [_], _ => rfl
  obtain ⟨fd55, E55⟩ := c.def_ 55 (d := dG "_law_cell" 46) rfl
  have F55 := fun_of (st := topS 46) E55
  have b55 := F55.binds (ps := ["_law_script", "_law_index"]) fun _ _ _ _ _ _ us hl => match us, hl with | [_, _], _ => rfl
  obtain ⟨fd56, E56⟩ := c.def_ 56 (d := dG "_law_generator" 47) rfl
  have F56 := fun_of (st := topS 47) E56
  have b56 := F56.binds (ps := ["_law_script", "_law_index"]) fun _ _ _ _ _ _ us hl => match us, hl with | [_, _], _ => rfl
  obtain ⟨fd57, E57⟩ := c.def_ 57 (d := dG "law" 62) rfl
  have F57 := fun_of (st := topS 62) E57
  have b57 := F57.binds (ps := ["_law_script"]) fun _ _ _ _ _ _ us hl => match us, hl with | [_], _ => rfl
  have bA : ∀ (s : Shared) (v : Value), BindsTo s fd57 ⟨[v], []⟩ [("_law_script", v)] := by
    obtain ⟨oc, od, kV, doc, pm, an, cdv, ct, osl, e, _, _⟩ := F57.ex
    subst e
    exact fun s v => .of_eq rfl
  have e := hfa.symm.trans (He.glo_ok X G (c.fact 81 (f := .glo "law") rfl))
  cases e
  refine ⟨fd57, fun s v => bA s v, fun base _ _ => ?_⟩
  have k_is_whole : KWhole P w K mg base := ⟨_, _, _, ok_whole F0 T, He.glo_ok X G (c.fact 33 (f := .glo "is_whole") rfl), F0.kp, b0⟩
  have k_is_between : KBetween P w K mg base := ⟨_, _, _, ok_between F1 T k_is_whole, He.glo_ok X G (c.fact 34 (f := .glo "is_between") rfl), F1.kp, b1⟩
  have k_power_of_two : KPow P w K mg base := ⟨_, _, _, ok_pow F2 , He.glo_ok X G (c.fact 35 (f := .glo "power_of_two") rfl), F2.kp, b2⟩
  have k_twos : KTwos P w K mg base := ⟨_, _, _, ok_twos F3 , He.glo_ok X G (c.fact 36 (f := .glo "twos") rfl), F3.kp, b3⟩
  have k_is_width : KIsWidth P w K mg base := ⟨_, _, _, ok_isWidth F4 T k_is_between, He.glo_ok X G (c.fact 37 (f := .glo "is_width") rfl), F4.kp, b4⟩
  have k_check_width : KCkWidth P w K mg base := ⟨_, _, _, ok_ckWidth F5 k_is_width, He.glo_ok X G (c.fact 38 (f := .glo "check_width") rfl), F5.kp, b5⟩
  have k_is_word : KIsWord P w K mg base := ⟨_, _, _, ok_isWord F6 k_is_between k_power_of_two, He.glo_ok X G (c.fact 39 (f := .glo "is_word") rfl), F6.kp, b6⟩
  have k_check_word : KCkWord P w K mg base := ⟨_, _, _, ok_ckWord F7 k_is_word, He.glo_ok X G (c.fact 40 (f := .glo "check_word") rfl), F7.kp, b7⟩
  have k_is_row : KIsRow P w K mg base := ⟨_, _, _, ok_isRow F8 T k_is_whole, He.glo_ok X G (c.fact 41 (f := .glo "is_row") rfl), F8.kp, b8⟩
  have k_are_rows : KAreRows P w K mg base := ⟨_, _, _, ok_areRows F9 T k_is_row, He.glo_ok X G (c.fact 42 (f := .glo "are_rows") rfl), F9.kp, b9⟩
  have k_turned_over : KTurned P w K mg base := ⟨_, _, _, ok_turned F10 T, He.glo_ok X G (c.fact 43 (f := .glo "turned_over") rfl), F10.kp, b10⟩
  have k_is_form_value : KIsForm P w K mg base := ⟨_, _, _, ok_isForm F11 k_are_rows k_turned_over, He.glo_ok X G (c.fact 44 (f := .glo "is_form_value") rfl), F11.kp, b11⟩
  have k_check_form : KCkForm P w K mg base := ⟨_, _, _, ok_ckForm F12 k_is_form_value, He.glo_ok X G (c.fact 45 (f := .glo "check_form") rfl), F12.kp, b12⟩
  have k_product_of : KProd P w K mg base := ⟨_, _, _, ok_prod F13 T k_turned_over, He.glo_ok X G (c.fact 46 (f := .glo "product_of") rfl), F13.kp, b13⟩
  have k_changed_by : KChanged P w K mg base := ⟨_, _, _, ok_changed F14 k_turned_over k_product_of, He.glo_ok X G (c.fact 47 (f := .glo "changed_by") rfl), F14.kp, b14⟩
  have k_table_by : KTable P w K mg base := ⟨_, _, _, ok_table F15 T k_power_of_two, He.glo_ok X G (c.fact 48 (f := .glo "table_by") rfl), F15.kp, b15⟩
  have k_inverse_of : KInv P w K mg base := ⟨_, _, _, ok_inv F16 k_power_of_two, He.glo_ok X G (c.fact 49 (f := .glo "inverse_of") rfl), F16.kp, b16⟩
  have k_size_of : KSize P w K mg base := ⟨_, _, _, ok_size F17 T, He.glo_ok X G (c.fact 50 (f := .glo "size_of") rfl), F17.kp, b17⟩
  have k_unit_lists : KUnit P w K mg base := ⟨_, _, _, ok_unit F18 T, He.glo_ok X G (c.fact 51 (f := .glo "unit_lists") rfl), F18.kp, b18⟩
  have k_root_of : KRoot P w K mg base := ⟨_, _, _, ok_root F19 T, He.glo_ok X G (c.fact 52 (f := .glo "root_of") rfl), F19.kp, b19⟩
  have k_root_by_steps : KRbs P w K mg base := ⟨_, _, _, ok_rbs F20 k_inverse_of, He.glo_ok X G (c.fact 53 (f := .glo "root_by_steps") rfl), F20.kp, b20⟩
  have m_go : KMeth P w K mg base (He.ga K "Splitting") "go" 4 1 W_go := ⟨_, _, _, ok_go F21 T S k_product_of k_changed_by k_table_by, He.meth_ok (c.fact 25 (f := .meth "Splitting" "go") rfl), b21⟩
  have m_keep : KMeth P w K mg base (He.ga K "Splitting") "keep" 1 2 W_keep := ⟨_, _, _, ok_keep F22 T S, He.meth_ok (c.fact 26 (f := .meth "Splitting" "keep") rfl), b22⟩
  have m_least : KMeth P w K mg base (He.ga K "Splitting") "least" 2 0 W_least := ⟨_, _, _, ok_least F23 T S k_twos, He.meth_ok (c.fact 27 (f := .meth "Splitting" "least") rfl), b23⟩
  have m_take_square : KMeth P w K mg base (He.ga K "Splitting") "take_square" 5 2 W_sq := ⟨_, _, _, ok_sq F24 T S k_inverse_of k_unit_lists k_root_of m_go m_keep, He.meth_ok (c.fact 28 (f := .meth "Splitting" "take_square") rfl), b24⟩
  have m_pair_step : KMeth P w K mg base (He.ga K "Splitting") "pair_step" 4 3 W_pstep := ⟨_, _, _, ok_pstep F25 T S k_inverse_of k_unit_lists k_root_by_steps, He.meth_ok (c.fact 29 (f := .meth "Splitting" "pair_step") rfl), b25⟩
  have m_take_pair : KMeth P w K mg base (He.ga K "Splitting") "take_pair" 5 3 W_pair := ⟨_, _, _, ok_pair F26 T S k_inverse_of k_unit_lists m_pair_step m_go m_keep, He.meth_ok (c.fact 30 (f := .meth "Splitting" "take_pair") rfl), b26⟩
  have m_walk : KMeth P w K mg base (He.ga K "Splitting") "walk" 6 0 W_walk := ⟨_, _, _, ok_walk F27 T S m_least m_take_square m_take_pair, He.meth_ok (c.fact 31 (f := .meth "Splitting" "walk") rfl), b27⟩
  have m_told : KMeth P w K mg base (He.ga K "Splitting") "told" 3 0 W_told := ⟨_, _, _, ok_told F28 T S k_unit_lists k_product_of, He.meth_ok (c.fact 32 (f := .meth "Splitting" "told") rfl), b28⟩
  have c_Splitting : KnC P w K mg base "Splitting" (He.ga K "Splitting") 3 (spI 2 (He.ga K "Splitting") W_init) := ⟨_, _, _, ok_init F29 T S k_unit_lists k_table_by, He.mkr_ok (c.fact 18 (f := .mkr "Splitting") rfl), He.glo_ok X G (c.fact 16 (f := .glo "Splitting") rfl), b29⟩
  have k_way_of : KWay P w K mg base := ⟨_, _, _, ok_way F30 T S c_Splitting m_walk m_told, He.glo_ok X G (c.fact 54 (f := .glo "way_of") rfl), F30.kp, b30⟩
  have k_every_pieces : KEvery P w K mg base := ⟨_, _, _, ok_every F31 T k_way_of, He.glo_ok X G (c.fact 55 (f := .glo "every_pieces") rfl), F31.kp, b31⟩
  have k_piece_part : KPpart P w K mg base := ⟨_, _, _, ok_ppart F32 T, He.glo_ok X G (c.fact 56 (f := .glo "piece_part") rfl), F32.kp, b32⟩
  have k_whole_part : KWpart P w K mg base := ⟨_, _, _, ok_wpart F33 T k_power_of_two, He.glo_ok X G (c.fact 57 (f := .glo "whole_part") rfl), F33.kp, b33⟩
  have k_turns_table : KTbl P w K mg base := ⟨_, _, _, ok_tbl F34 T k_size_of k_power_of_two k_piece_part, He.glo_ok X G (c.fact 58 (f := .glo "turns_table") rfl), F34.kp, b34⟩
  have k_count_by : KCby P w K mg base := ⟨_, _, _, ok_cby F35 T k_power_of_two k_whole_part, He.glo_ok X G (c.fact 59 (f := .glo "count_by") rfl), F35.kp, b35⟩
  have k_count_of : KCof P w K mg base := ⟨_, _, _, ok_cof F36 k_turns_table k_count_by, He.glo_ok X G (c.fact 60 (f := .glo "count_of") rfl), F36.kp, b36⟩
  have k_how_often : KOften P w K mg base := ⟨_, _, _, ok_often F37 T k_check_width k_check_form k_check_word k_way_of k_count_of, He.glo_ok X G (c.fact 61 (f := .glo "how_often") rfl), F37.kp, b37⟩
  have k_odd_noughts_of : KOof P w K mg base := ⟨_, _, _, ok_oof F38 k_count_of k_power_of_two, He.glo_ok X G (c.fact 62 (f := .glo "odd_noughts_of") rfl), F38.kp, b38⟩
  have k_odd_noughts : KOdd P w K mg base := ⟨_, _, _, ok_odd F39 T k_check_width k_check_form k_every_pieces k_odd_noughts_of, He.glo_ok X G (c.fact 63 (f := .glo "odd_noughts") rfl), F39.kp, b39⟩
  have k__law_hash : KHash P w K mg base := ⟨_, _, _, ok_hash F40 T, He.glo_ok X G (c.fact 64 (f := .glo "_law_hash") rfl), F40.kp, b40⟩
  have k__law_random : KRand P w K mg base := ⟨_, _, _, ok_rand F41 T k__law_hash, He.glo_ok X G (c.fact 65 (f := .glo "_law_random") rfl), F41.kp, b41⟩
  have k__law_two : KTwo P w K mg base := ⟨_, _, _, ok_two F42 T, He.glo_ok X G (c.fact 66 (f := .glo "_law_two") rfl), F42.kp, b42⟩
  have k__law_copied : KCopied P w K mg base := ⟨_, _, _, ok_copied F43 T, He.glo_ok X G (c.fact 67 (f := .glo "_law_copied") rfl), F43.kp, b43⟩
  have k__law_lists : KLists P w K mg base := ⟨_, _, _, ok_lists F44 T, He.glo_ok X G (c.fact 68 (f := .glo "_law_lists") rfl), F44.kp, b44⟩
  have k__law_value : KVal P w K mg base := ⟨_, _, _, ok_val F45 T, He.glo_ok X G (c.fact 69 (f := .glo "_law_value") rfl), F45.kp, b45⟩
  have k__law_listed : KListed P w K mg base := ⟨_, _, _, ok_listed F46 T k__law_two k__law_lists k__law_value, He.glo_ok X G (c.fact 70 (f := .glo "_law_listed") rfl), F46.kp, b46⟩
  have k__law_drawn : KDrawn P w K mg base := ⟨_, _, _, ok_drawn F47 T k__law_random, He.glo_ok X G (c.fact 71 (f := .glo "_law_drawn") rfl), F47.kp, b47⟩
  have k__law_pieced : KPieced P w K mg base := ⟨_, _, _, ok_pieced F48 T k__law_random k__law_two, He.glo_ok X G (c.fact 72 (f := .glo "_law_pieced") rfl), F48.kp, b48⟩
  have k__law_form : KForm P w K mg base := ⟨_, _, _, ok_form F49 T k__law_random k__law_pieced k__law_drawn, He.glo_ok X G (c.fact 73 (f := .glo "_law_form") rfl), F49.kp, b49⟩
  have k__law_small : KSmall P w K mg base := ⟨_, _, _, ok_small F50 T k__law_random k__law_form, He.glo_ok X G (c.fact 74 (f := .glo "_law_small") rfl), F50.kp, b50⟩
  have k__law_moved : KMoved P w K mg base := ⟨_, _, _, ok_moved F51 T k__law_random, He.glo_ok X G (c.fact 75 (f := .glo "_law_moved") rfl), F51.kp, b51⟩
  have k__law_small_right : KSmallR P w K mg base := ⟨_, _, _, ok_smallR F52 T k__law_small k__law_copied k__law_listed k_odd_noughts k__law_moved, He.glo_ok X G (c.fact 76 (f := .glo "_law_small_right") rfl), F52.kp, b52⟩
  have k__law_scales : KScales P w K mg base := ⟨_, _, _, ok_scales F53 T k__law_random k__law_two, He.glo_ok X G (c.fact 77 (f := .glo "_law_scales") rfl), F53.kp, b53⟩
  have k__law_great_right : KGreatR P w K mg base := ⟨_, _, _, ok_greatR F54 T k__law_random k__law_two k__law_scales k_odd_noughts k_how_often k__law_moved, He.glo_ok X G (c.fact 78 (f := .glo "_law_great_right") rfl), F54.kp, b54⟩
  have k__law_cell : KCell P w K mg base := ⟨_, _, _, ok_cell F55 T, He.glo_ok X G (c.fact 79 (f := .glo "_law_cell") rfl), F55.kp, b55⟩
  have k__law_generator : KGen P w K mg base := ⟨_, _, _, ok_gen F56 T k__law_cell, He.glo_ok X G (c.fact 80 (f := .glo "_law_generator") rfl), F56.kp, b56⟩
  exact ok_law F57 T k__law_generator k__law_small_right k__law_great_right k_odd_noughts
end WS
open PySem PySem.W PySem.Calls PyProof.Rows
theorem PySem.Challenge.cw_wordsquares_k35_whole_noughts_with_an_od_holds : PySem.Challenge.rw_wordsquares_k35_whole_noughts_with_an_od.Holds := by
  w_on; o_law
  refine HandSHeadRun.head_any (r := OpenLaw.row PySem.Challenge.rw_wordsquares_k35_whole_noughts_with_an_od) (q := view (OpenLaw.row PySem.Challenge.rw_wordsquares_k35_whole_noughts_with_an_od).prog [62]) (H := WS.hk) (ob := WS.hob) (M := 20000) (loose := WS.hNm) (d := HandSHeadRun.topDef (OpenLaw.row PySem.Challenge.rw_wordsquares_k35_whole_noughts_with_an_od).prog 62) (kwd := []) WS.hob_eq
    (by kernel_rfl) (fun s => by kernel_rfl) WS.hrun (by kernel_rfl) (by kernel_rfl) (by kernel_rfl) (by rfl) (by first | assumption | decide +kernel) (by decide +kernel) ⟨rfl, rfl, rfl, rfl, rfl, by decide +kernel⟩ ?hw ?hc
  case hw => w_witness2
  case hc =>
    refine L2.walk_ofE (l := PySem.Challenge.rw_wordsquares_k35_whole_noughts_with_an_od) (n := 63) (k := 11) (x := "_law_script") (CX := L2.CX0) rfl (by decide) (by kernel_rfl) ⟨rfl, by decide, by decide⟩ ?F (fun _ _ _ _ z => z)
    intro w mg fa h Y G hmg0
    obtain ⟨K, KX, c⟩ := Y
    have hmg : mg ("law" : PySem.Str) = some (.ref fa) := by
      have e : (HandSHeadRun.topDef (OpenLaw.row PySem.Challenge.rw_wordsquares_k35_whole_noughts_with_an_od).prog 62).name = ("law" : PySem.Str) := by kernel_rfl
      rw [← e]
      exact hmg0
    obtain ⟨fd, hb, hF⟩ := WS.facts_all (P := (PySem.Challenge.rw_wordsquares_k35_whole_noughts_with_an_od).prog) (w := w) KX G hmg c
    exact ⟨K, fd, WS.spLaw K, KX, hb, fun H a ns hl _ hS => ⟨a, ns, rfl, hS, fun _ => rfl⟩, hF⟩
