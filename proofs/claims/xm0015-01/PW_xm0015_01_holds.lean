import PyProof.Rows.All
import Wide.All
import OpenK.AllK
import Wide.FinOn
import Lean
import PySem.Challenge.RW_xm0015_01
open PySem PySem.W PySem.Calls PyProof.Rows
set_option Elab.async false
set_option maxRecDepth 100000
set_option maxHeartbeats 8000000
namespace Mine
open_top hd for PySem.Challenge.rw_xm0015_01
def S (l : List Nat) : Str := ⟨l.toArray⟩
theorem S_cps (l : List Nat) : (S l).cps.toList = l := rfl
theorem S_len (l : List Nat) : (S l).length = l.length := by simp [S, Str.length]
theorem len_is (x : Str) : x.length = x.cps.toList.length := by simp [Str.length]
theorem S_add (a b : List Nat) : S a ++ S b = S (a ++ b) := by
  refine Str.ext' ?_
  simp [S, Str.cps_append]
theorem S_self (x : Str) : S x.cps.toList = x := by
  cases x; simp [S]
def sgn (x : Str) (n : Int) : Str := S [x.cps.toList.getD (n - 1).toNat 0]
def lft (x : Str) (n : Int) : Str := S (x.cps.toList.take n.toNat)
def rgt (x : Str) (n : Int) : Str := S (x.cps.toList.drop (x.cps.toList.length - n.toNat))
theorem sgn_len (x : Str) (n : Int) : (sgn x n).length = 1 := rfl
theorem lft_len (x : Str) (n : Int) (h0 : 0 ≤ n) (h1 : n ≤ x.length) : ((lft x n).length : Int) = n := by
  rw [len_is] at h1
  rw [lft, S_len, List.length_take]; omega
theorem rgt_len (x : Str) (n : Int) (h0 : 0 ≤ n) (h1 : n ≤ x.length) : ((rgt x n).length : Int) = n := by
  rw [len_is] at h1
  rw [rgt, S_len, List.length_drop]; omega
theorem lft_is (x : Str) (n : Int) (h0 : 0 ≤ n) (h1 : n ≤ x.length) : Txt.slice x none (some n) = lft x n := by
  have h := slice_closes_toL h0 h1
  have h' := eq_of_beq h
  rw [h', lft, S]
  simp
theorem rgt_is (x : Str) (n : Int) (h0 : 0 ≤ n) (h1 : n ≤ x.length) : Txt.slice x (some (max (x.length - n) 0)) none = rgt x n := by
  have h := slice_closes_fromL (x := x) (i := max (x.length - n) 0) (b := x.length) (by omega) (by omega) rfl
  have h' := eq_of_beq h
  rw [h', rgt, S]
  have e : x.cps.toList.length = x.length := (len_is x).symm
  rw [List.take_of_length_le (by rw [List.length_drop]; omega)]
  congr 3
  omega
theorem sgn_is (x : Str) (n : Int) (h0 : 1 ≤ n) (h1 : n ≤ x.length) : Txt.slice x (some (n - 1)) (some (n - 1 + 1)) = sgn x n := by
  have h := slice_closesL (x := x) (i := n - 1) (j := n - 1 + 1) (by omega) (by omega) (by omega)
  have h' := eq_of_beq h
  rw [h', sgn, S]
  have e : x.cps.toList.length = x.length := (len_is x).symm
  have e1 : (n - 1 + 1 - (n - 1)).toNat = 1 := by omega
  rw [e1]
  have e2 : (n - 1).toNat < x.cps.toList.length := by omega
  rw [List.drop_eq_getElem_cons e2, List.getD_eq_getElem?_getD, List.getElem?_eq_getElem e2]
  rfl
def weaveL (a c : List Nat) : Nat → List Nat
  | 0 => []
  | k + 1 => weaveL a c k ++ [a.getD k 0, c.getD k 0]
def shufL (b : Bool) (l : List Nat) : List Nat :=
  if b then weaveL (l.drop (l.length - l.length / 2)) (l.take (l.length / 2)) (l.length / 2) else weaveL (l.take (l.length / 2)) (l.drop (l.length - l.length / 2)) (l.length / 2)
def shuf (b : Bool) (x : Str) : Str := S (shufL b x.cps.toList)
theorem weaveL_len (a c : List Nat) : ∀ k, (weaveL a c k).length = 2 * k
  | 0 => rfl
  | k + 1 => by rw [weaveL, List.length_append, weaveL_len a c k]; simp; omega
theorem empty_is : Str.ofString "" = S [] := by decide +kernel
theorem join_fold : ∀ (l : List Nat) (acc : Array Nat), (l.map fun c => S [c]).foldl (fun acc p => acc ++ (S []).cps ++ p.cps) acc = acc ++ l.toArray
  | [], acc => by simp
  | c :: r, acc => by
    rw [List.map_cons, List.foldl_cons, join_fold r]
    simp [S]
theorem join_ones (l : List Nat) : Txt.join (Str.ofString "") (l.map fun c => S [c]) = S l := by
  rw [empty_is]
  cases l with
  | nil => rfl
  | cons c r =>
    show (⟨(r.map fun c => S [c]).foldl (fun acc p => acc ++ (S []).cps ++ p.cps) (S [c]).cps⟩ : Str) = S (c :: r)
    rw [join_fold]
    simp [S]
theorem join_eq {ts : List Str} (l : List Nat) (h : ts = l.map fun c => S [c]) : Txt.join (Str.ofString "") ts = S l := by
  rw [h, join_ones]
theorem empty_len : (Str.ofString "").length = 0 := by rw [empty_is]; rfl
def everyL (l : List Nat) (o : Nat) : Nat → List Nat
  | 0 => []
  | k + 1 => everyL l o k ++ [l.getD (2 * k + o) 0]
theorem everyL_len (l : List Nat) (o : Nat) : ∀ k, (everyL l o k).length = k
  | 0 => rfl
  | k + 1 => by rw [everyL, List.length_append, everyL_len l o k]; rfl
def pickL (b : Bool) (l : List Nat) : List Nat := if b then everyL l 1 (l.length / 2) ++ everyL l 0 (l.length / 2) else everyL l 0 (l.length / 2) ++ everyL l 1 (l.length / 2)
def pick (b : Bool) (x : Str) : Str := S (pickL b x.cps.toList)
def PickP (x : Str) (i : Nat) (c : Str × Nat × Str × Nat) : Prop := c.1 = S (everyL x.cps.toList 0 i) ∧ c.2.2.1 = S (everyL x.cps.toList 1 i) ∧ (c.1.length : Int) = i ∧ (c.2.2.1.length : Int) = i
theorem pick_start (x : Str) (t u : Nat) : PickP x 0 (Str.ofString "", t, Str.ofString "", u) := by
  refine ⟨empty_is, empty_is, ?_, ?_⟩ <;> (show (((Str.ofString "").length : Nat) : Int) = 0) <;> rw [empty_len] <;> rfl
theorem pick_turn {x a c : Str} {t' u' : Nat} {i : Nat} {k : Int} (hk : k = 1 + (i : Int) * 2) (h1 : a = S (everyL x.cps.toList 0 i)) (h2 : c = S (everyL x.cps.toList 1 i)) (h3 : (a.length : Int) = i) (h4 : (c.length : Int) = i) :
    PickP x (i + 1) (a ++ sgn x k, t', c ++ sgn x (k + 1), u') := by
  have e1 : (k - 1).toNat = 2 * i + 0 := by omega
  have e2 : (k + 1 - 1).toNat = 2 * i + 1 := by omega
  refine ⟨?_, ?_, ?_, ?_⟩
  · show a ++ sgn x k = _
    rw [h1, sgn, S_add, everyL, e1]
  · show c ++ sgn x (k + 1) = _
    rw [h2, sgn, S_add, everyL, e2]
  · show ((a ++ sgn x k).length : Int) = _
    rw [Str.length_append, sgn_len]; omega
  · show ((c ++ sgn x (k + 1)).length : Int) = _
    rw [Str.length_append, sgn_len]; omega
theorem size_two (x : Str) (h : (x.length : Int) % 2 = 0) (h4 : 4 ≤ x.length) : Builtin.Range.rangeSize 1 x.length 2 = ((x.length / 2 : Nat) : Int) := by
  unfold Builtin.Range.rangeSize
  simp only [show (2 : Int) > 0 by decide, if_true]
  split <;> omega
theorem small_gen (L : Int) (n : Nat) (e : Builtin.Range.rangeSize 1 L 2 = (n : Int)) (hn : n ≤ 10) (h4 : 0 ≤ L) (h10 : L ≤ 10) : Builtin.Range.small 1 L 2 = true := by
  unfold Builtin.Range.small
  rw [e]
  simp only [Builtin.Range.rangeFitsLong, Bool.and_eq_true, Bool.or_eq_true, decide_eq_true_eq, beq_iff_eq]
  refine ⟨by omega, Or.inr ?_⟩
  rw [if_pos (by decide)]
  simp only [Bool.and_eq_true, decide_eq_true_eq]
  omega
theorem small_two (x : Str) (h : (x.length : Int) % 2 = 0) (h4 : 4 ≤ x.length) (h10 : x.length ≤ 10) : Builtin.Range.small 1 x.length 2 = true :=
  small_gen _ (x.length / 2) (size_two x h h4) (by omega) (by omega) (by omega)
theorem pick_t {b : Bool} {x a c : Str} (hb : b = true) (h1 : a = S (everyL x.cps.toList 0 (x.length / 2))) (h2 : c = S (everyL x.cps.toList 1 (x.length / 2))) : c ++ a = pick b x := by
  rw [h1, h2, hb, S_add, len_is]; rfl
theorem pick_f {b : Bool} {x a c : Str} (hb : b = false) (h1 : a = S (everyL x.cps.toList 0 (x.length / 2))) (h2 : c = S (everyL x.cps.toList 1 (x.length / 2))) : a ++ c = pick b x := by
  rw [h1, h2, hb, S_add, len_is]; rfl
def goalZ (b : Bool) (n k : Int) : Int := if b then (2 * k + 2).fmod (n + 1) - 1 else if k < n - 1 then (2 * k).fmod (n - 1) else k
def dueL (b : Bool) (l : List Nat) : Nat → List Nat
  | 0 => l
  | k + 1 => (dueL b l k).set (goalZ b l.length k).toNat (l.getD k 0)
theorem dueL_len (b : Bool) (l : List Nat) : ∀ k, (dueL b l k).length = l.length
  | 0 => rfl
  | k + 1 => by rw [dueL, List.length_set, dueL_len b l k]
theorem ex4 {l : List Nat} (h : l.length = 4) : ∃ a b c d, l = [a, b, c, d] := by
  match l, h with
  | [a, b, c, d], _ => exact ⟨a, b, c, d, rfl⟩
theorem ex6 {l : List Nat} (h : l.length = 6) : ∃ a b c d e f, l = [a, b, c, d, e, f] := by
  match l, h with
  | [a, b, c, d, e, f], _ => exact ⟨a, b, c, d, e, f, rfl⟩
theorem ex8 {l : List Nat} (h : l.length = 8) : ∃ a b c d e f g i, l = [a, b, c, d, e, f, g, i] := by
  match l, h with
  | [a, b, c, d, e, f, g, i], _ => exact ⟨a, b, c, d, e, f, g, i, rfl⟩
theorem ex10 {l : List Nat} (h : l.length = 10) : ∃ a b c d e f g i j k, l = [a, b, c, d, e, f, g, i, j, k] := by
  match l, h with
  | [a, b, c, d, e, f, g, i, j, k], _ => exact ⟨a, b, c, d, e, f, g, i, j, k, rfl⟩
def Ok (x : Str) : Prop := (x.length : Int) % 2 = 0 ∧ 4 ≤ x.length ∧ x.length ≤ 10
theorem sizes {n : Nat} (h0 : (n : Int) % 2 = 0) (h4 : 4 ≤ n) (h10 : n ≤ 10) : n = 4 ∨ n = 6 ∨ n = 8 ∨ n = 10 := by omega
theorem dueL_shuf (b : Bool) {l : List Nat} (h : l.length = 4 ∨ l.length = 6 ∨ l.length = 8 ∨ l.length = 10) : dueL b l l.length = shufL b l := by
  rcases h with h | h | h | h
  · obtain ⟨_, _, _, _, rfl⟩ := ex4 h
    cases b <;> kernel_rfl
  · obtain ⟨_, _, _, _, _, _, rfl⟩ := ex6 h
    cases b <;> kernel_rfl
  · obtain ⟨_, _, _, _, _, _, _, _, rfl⟩ := ex8 h
    cases b <;> kernel_rfl
  · obtain ⟨_, _, _, _, _, _, _, _, _, _, rfl⟩ := ex10 h
    cases b <;> kernel_rfl
theorem pickL_shuf (b : Bool) {l : List Nat} (h : l.length = 4 ∨ l.length = 6 ∨ l.length = 8 ∨ l.length = 10) : pickL b (shufL b l) = l := by
  rcases h with h | h | h | h
  · obtain ⟨_, _, _, _, rfl⟩ := ex4 h
    cases b <;> kernel_rfl
  · obtain ⟨_, _, _, _, _, _, rfl⟩ := ex6 h
    cases b <;> kernel_rfl
  · obtain ⟨_, _, _, _, _, _, _, _, rfl⟩ := ex8 h
    cases b <;> kernel_rfl
  · obtain ⟨_, _, _, _, _, _, _, _, _, _, rfl⟩ := ex10 h
    cases b <;> kernel_rfl
theorem due_end (b : Bool) (x : Str) (h0 : (x.length : Int) % 2 = 0) (h4 : 4 ≤ x.length) (h10 : x.length ≤ 10) : S (dueL b x.cps.toList x.length) = shuf b x := by
  rw [len_is] at h0 h4 h10 ⊢
  rw [dueL_shuf b (sizes h0 h4 h10), shuf]
theorem pick_shuf (b : Bool) (x : Str) (h0 : (x.length : Int) % 2 = 0) (h4 : 4 ≤ x.length) (h10 : x.length ≤ 10) : pick b (shuf b x) = x := by
  rw [len_is] at h0 h4 h10
  rw [pick, shuf, S_cps, pickL_shuf b (sizes h0 h4 h10), S_self]
theorem shuf_len (b : Bool) (x : Str) (h0 : (x.length : Int) % 2 = 0) : (shuf b x).length = x.length := by
  rw [len_is] at h0 ⊢
  rw [len_is x, shuf, S_cps, shufL]
  cases b <;> simp only [Bool.false_eq_true, if_false, if_true, weaveL_len] <;> omega
theorem item_is (x : Str) (k : Int) (h0 : 0 ≤ k) (h1 : k < x.length) : Txt.item x k = S [x.cps.toList.getD k.toNat 0] := by
  have hj : k.toNat < x.cps.size := by
    have : x.length = x.cps.size := rfl
    omega
  unfold Txt.item Txt.charAt
  rw [seqIndex_of h0 h1, Option.bind_some, Array.getElem?_eq_getElem hj, Option.getD_some, List.getD_eq_getElem?_getD, Array.getElem?_toList, Array.getElem?_eq_getElem hj]
  rfl
theorem goal_in (n k : Int) (hn : n % 2 = 0) (h4 : 4 ≤ n) (h10 : n ≤ 10) (h0 : 0 ≤ k) (h1 : k < n) : 0 ≤ (2 * k + 2).fmod (n + 1) - 1 ∧ (2 * k + 2).fmod (n + 1) - 1 < n := by
  rw [Int.fmod_eq_emod_of_nonneg _ (by omega)]
  have h : n = 4 ∨ n = 6 ∨ n = 8 ∨ n = 10 := by omega
  rcases h with rfl | rfl | rfl | rfl <;> omega
theorem goal_lo (n k : Int) (h4 : 4 ≤ n) (h10 : n ≤ 10) : 0 ≤ (2 * k).fmod (n - 1) ∧ (2 * k).fmod (n - 1) < n := by
  have := Int.fmod_nonneg_of_pos (2 * k) (show 0 < n - 1 by omega)
  have := Int.fmod_lt_of_pos (2 * k) (show 0 < n - 1 by omega)
  omega
def DueP (b : Bool) (x : Str) (i : Nat) (c : List (Str × Nat)) : Prop := c.map (·.1) = ((dueL b x.cps.toList i).map fun n => S [n]) ∧ c.length = x.length
theorem due_start {b : Bool} {x : Str} {c : List (Str × Nat)} (h : c.map (·.1) = (x.cps.toList.map fun n => S [n])) : DueP b x 0 c := by
  refine ⟨h, ?_⟩
  have := congrArg List.length h
  rw [List.length_map, List.length_map] at this
  rw [this, len_is]
theorem due_turn {b : Bool} {x : Str} {i : Nat} {c : List (Str × Nat)} {t : Nat} {k g : Int} (h : c.map (·.1) = ((dueL b x.cps.toList i).map fun n => S [n])) (hl : c.length = x.length) (hk : k = 0 + (i : Int) * 1) (hi : i < x.length) (hg : g = goalZ b x.length k) :
    DueP b x (i + 1) (c.set g.toNat (Txt.item x k, t)) := by
  have ek : k = i := by omega
  refine ⟨?_, by rw [List.length_set, hl]⟩
  rw [List.map_set, h, hg, ek, item_is x _ (by omega) (by omega), dueL, List.map_set, len_is]
  rfl
theorem due_in {b : Bool} {x : Str} {i : Nat} {c : List (Str × Nat)} {t : Nat} {k : Int} (hb : b = true) (h : c.map (·.1) = ((dueL b x.cps.toList i).map fun n => S [n])) (hl : c.length = x.length) (hk : k = 0 + (i : Int) * 1) (hi : i < x.length) :
    DueP b x (i + 1) (c.set ((2 * k + 2).fmod (x.length + 1) - 1).toNat (Txt.item x k, t)) := due_turn h hl hk hi (by rw [goalZ, if_pos hb])
theorem due_lo {b : Bool} {x : Str} {i : Nat} {c : List (Str × Nat)} {t : Nat} {k : Int} (hb : b = false) (h : c.map (·.1) = ((dueL b x.cps.toList i).map fun n => S [n])) (hl : c.length = x.length) (hk : k = 0 + (i : Int) * 1) (hi : i < x.length) (hlt : k < (x.length : Int) - 1) :
    DueP b x (i + 1) (c.set ((2 * k).fmod (x.length - 1)).toNat (Txt.item x k, t)) := due_turn h hl hk hi (by rw [goalZ, if_neg (by rw [hb]; decide), if_pos hlt])
theorem due_hi {b : Bool} {x : Str} {i : Nat} {c : List (Str × Nat)} {t : Nat} {k : Int} (hb : b = false) (h : c.map (·.1) = ((dueL b x.cps.toList i).map fun n => S [n])) (hl : c.length = x.length) (hk : k = 0 + (i : Int) * 1) (hi : i < x.length) (hlt : ¬ k < (x.length : Int) - 1) :
    DueP b x (i + 1) (c.set k.toNat (Txt.item x k, t)) := due_turn h hl hk hi (by rw [goalZ, if_neg (by rw [hb]; decide), if_neg hlt])
theorem size_one (x : Str) : Builtin.Range.rangeSize 0 x.length 1 = (x.length : Int) := by
  rw [rangeSize_nat]; omega
theorem small_zero (x : Str) (h10 : x.length ≤ 10) : Builtin.Range.small 0 x.length 1 = true := small_one (by omega) (by omega) (by omega) (by omega)
def isAt (x y : Str) (k : Int) : Bool := Txt.slice x (some k) (some (k + y.length)) == y
def instrU (x y : Str) : Nat → Nat → Int
  | 0, _ => 0
  | n + 1, j => if isAt x y j then j + 1 else instrU x y n (j + 1)
def instr (x y : Str) : Int := instrU x y x.length 0
theorem instrU_hit (x y : Str) : ∀ (n j i : Nat), j ≤ i → i < j + n → (∀ k, j ≤ k → k < i → isAt x y (k : Nat) = false) → isAt x y (i : Nat) = true → instrU x y n j = i + 1
  | 0, j, i, h1, h2, _, _ => by omega
  | n + 1, j, i, h1, h2, h3, h4 => by
    rw [instrU]
    by_cases e : j = i
    · subst e
      rw [if_pos h4]
    · rw [if_neg (by rw [h3 j (Nat.le_refl _) (by omega)]; decide)]
      exact instrU_hit x y n (j + 1) i (by omega) (by omega) (fun k hk => h3 k (by omega)) h4
theorem instrU_miss (x y : Str) : ∀ (n j : Nat), (∀ k, j ≤ k → k < j + n → isAt x y (k : Nat) = false) → instrU x y n j = 0
  | 0, _, _ => rfl
  | n + 1, j, h => by
    rw [instrU, if_neg (by rw [h j (Nat.le_refl _) (by omega)]; decide)]
    exact instrU_miss x y n (j + 1) fun k h1 h2 => h k (by omega) (by omega)
def FindP (x y : Str) (i : Nat) (_ : Unit) : Prop := ∀ k : Nat, k < i → isAt x y k = false
theorem find_start (x y : Str) : FindP x y 0 () := fun _ h => absurd h (Nat.not_lt_zero _)
theorem find_turn {x y : Str} {i : Nat} {k : Int} (h : FindP x y i ()) (hk : k = 0 + (i : Int) * 1) (hm : (Txt.slice x (some k) (some (k + y.length)) == y) = false) : FindP x y (i + 1) () := by
  intro j hj
  by_cases e : j = i
  · have : (j : Int) = k := by omega
    rw [this]
    exact hm
  · exact h j (by omega)
theorem find_hit {x y : Str} {i : Nat} {k : Int} (h : FindP x y i ()) (hk : k = 0 + (i : Int) * 1) (hm : (Txt.slice x (some k) (some (k + y.length)) == y) = true) (hy : y.length = 1) (hi : i < ((x.length : Int) - y.length + 1 - 0).toNat) : k + 1 = instr x y := by
  have e : k = (i : Int) := by omega
  rw [instr, instrU_hit x y x.length 0 i (Nat.zero_le _) (by omega) (fun j _ hj => h j hj) (by rw [← e]; exact hm), e]
theorem find_miss {x y : Str} (hy : y.length = 1) (h : FindP x y ((x.length : Int) - y.length + 1 - 0).toNat ()) : 0 = instr x y := by
  rw [instr, instrU_miss x y x.length 0 fun k _ hk => h k (by omega)]
def P1 (i : Nat) (c : Str × Nat × Int × Nat) : Prop := (c.1.length : Int) % 2 = 0 ∧ 4 ≤ c.1.length ∧ c.1.length ≤ 10 ∧ c.2.2.1 = 1 + (i : Int)
def dk (n : Int) : Str := Txt.slice (Str.ofString "ABCDEFGHIJ") none (some n)
theorem abc_is : Str.ofString "ABCDEFGHIJ" = S [65, 66, 67, 68, 69, 70, 71, 72, 73, 74] := by decide +kernel
theorem dk_is {n : Int} (h0 : 0 ≤ n) (h1 : n ≤ 10) : dk n = S ([65, 66, 67, 68, 69, 70, 71, 72, 73, 74].take n.toNat) := by
  rw [dk, lft_is _ _ h0 (by rw [abc_is, S_len]; simpa using h1), lft, abc_is, S_cps]
theorem dk_len {n : Int} (h0 : 0 ≤ n) (h1 : n ≤ 10) : ((dk n).length : Int) = n := by
  rw [dk_is h0 h1, S_len, List.length_take]
  simp only [List.length_cons, List.length_nil]
  omega
theorem p1_start {r : Int} {t k kt} (h0 : 0 ≤ r) (h1 : r < 4) (hk : k = 1) : P1 0 (dk (4 + 2 * r), t, k, kt) := by
  have e := dk_len (n := 4 + 2 * r) (by omega) (by omega)
  refine ⟨?_, ?_, ?_, ?_⟩
  · show ((dk (4 + 2 * r)).length : Int) % 2 = 0
    omega
  · show 4 ≤ (dk (4 + 2 * r)).length
    omega
  · show (dk (4 + 2 * r)).length ≤ 10
    omega
  · show k = 1 + ((0 : Nat) : Int)
    omega
theorem p1_turn {b : Bool} {x : Str} {i : Nat} {q : Int} {t kt} (hA : (x.length : Int) % 2 = 0) (hB : 4 ≤ x.length) (hC : x.length ≤ 10) (hD : q = 1 + (i : Int)) : P1 (i + 1) (shuf b x, t, q + 1, kt) := by
  have e := shuf_len b x hA
  refine ⟨?_, ?_, ?_, ?_⟩
  · show ((shuf b x).length : Int) % 2 = 0
    omega
  · show 4 ≤ (shuf b x).length
    omega
  · show (shuf b x).length ≤ 10
    omega
  · show q + 1 = 1 + ((i + 1 : Nat) : Int)
    omega
theorem weave_start {a c : Str} {pre : List Int} (h : pre = []) : Str.ofString "" = S (weaveL a.cps.toList c.cps.toList pre.length) ∧ ((Str.ofString "").length : Int) = 2 * pre.length := by
  subst h
  exact ⟨empty_is, by rw [empty_is]; rfl⟩
theorem weave_turn {found a c : Str} {pre : List Int} {k : Int} (hk : k = 1 + pre.length) (h1 : found = S (weaveL a.cps.toList c.cps.toList pre.length)) (h2 : (found.length : Int) = 2 * pre.length) :
    found ++ (sgn a k ++ sgn c k) = S (weaveL a.cps.toList c.cps.toList (pre ++ [k]).length) ∧ ((found ++ (sgn a k ++ sgn c k)).length : Int) = 2 * (pre ++ [k]).length := by
  have e : (k - 1).toNat = pre.length := by omega
  have hl : (pre ++ [k]).length = pre.length + 1 := by simp
  constructor
  · rw [hl, h1, sgn, sgn, S_add, S_add, weaveL, e]; rfl
  · rw [hl, Str.length_append, Str.length_append, sgn_len, sgn_len]; omega
theorem half_is (x : Str) (h : (x.length : Int) % 2 = 0) : 2 * ((x.length : Int).fdiv 2) = x.length := by
  rw [Int.fdiv_eq_ediv_of_nonneg _ (by decide)]; omega
theorem shuf_f {x found : Str} {h : Int} (hh : 2 * h = x.length) (e : found = S (weaveL (lft x h).cps.toList (rgt x h).cps.toList (rangeKs 1 (h + 1 - 1).toNat).length)) : found = shuf false x := by
  rw [e, rangeKs_length, shuf, shufL]
  have e1 : (h + 1 - 1).toNat = x.cps.toList.length / 2 := by rw [len_is] at hh; omega
  have e2 : h.toNat = x.cps.toList.length / 2 := by rw [len_is] at hh; omega
  rw [e1, lft, rgt, S_cps, S_cps, e2]; rfl
theorem shuf_t {x found : Str} {h : Int} (hh : 2 * h = x.length) (e : found = S (weaveL (rgt x h).cps.toList (lft x h).cps.toList (rangeKs 1 (h + 1 - 1).toNat).length)) : found = shuf true x := by
  rw [e, rangeKs_length, shuf, shufL]
  have e1 : (h + 1 - 1).toNat = x.cps.toList.length / 2 := by rw [len_is] at hh; omega
  have e2 : h.toNat = x.cps.toList.length / 2 := by rw [len_is] at hh; omega
  rw [e1, lft, rgt, S_cps, S_cps, e2]; rfl
def ahd (b : Bool) (x : Str) (h : Int) : Str := if b then rgt x h else lft x h
def bhd (b : Bool) (x : Str) (h : Int) : Str := if b then lft x h else rgt x h
def ShufQ (b : Bool) (x : Str) (h : Int) (i : Nat) (c : Str × Nat) : Prop := c.1 = S (weaveL (ahd b x h).cps.toList (bhd b x h).cps.toList i) ∧ (c.1.length : Int) = 2 * (i : Int)
theorem shufq_start (b : Bool) (x : Str) (h : Int) (t : Nat) : ShufQ b x h 0 (Str.ofString "", t) := ⟨empty_is, by show (((Str.ofString "").length : Nat) : Int) = 2 * ((0 : Nat) : Int); rw [empty_len]; rfl⟩
theorem shufq_turn {b : Bool} {x found : Str} {h k : Int} {i t : Nat} {a c : Str} (ha : a = ahd b x h) (hc : c = bhd b x h) (hk : k = 1 + (i : Int) * 1) (h1 : found = S (weaveL (ahd b x h).cps.toList (bhd b x h).cps.toList i)) (h2 : (found.length : Int) = 2 * (i : Int)) :
    ShufQ b x h (i + 1) (found ++ (sgn a k ++ sgn c k), t) := by
  subst ha hc
  have e : (k - 1).toNat = i := by omega
  refine ⟨?_, ?_⟩
  · show found ++ (sgn (ahd b x h) k ++ sgn (bhd b x h) k) = _
    rw [h1, sgn, sgn, S_add, S_add, weaveL, e]; rfl
  · show ((found ++ (sgn (ahd b x h) k ++ sgn (bhd b x h) k)).length : Int) = _
    rw [Str.length_append, Str.length_append, sgn_len, sgn_len]; omega
theorem ahd_t {b : Bool} {x : Str} {h : Int} (hb : b = true) : rgt x h = ahd b x h := by rw [hb]; rfl
theorem ahd_f {b : Bool} {x : Str} {h : Int} (hb : b = false) : lft x h = ahd b x h := by rw [hb]; rfl
theorem bhd_t {b : Bool} {x : Str} {h : Int} (hb : b = true) : lft x h = bhd b x h := by rw [hb]; rfl
theorem bhd_f {b : Bool} {x : Str} {h : Int} (hb : b = false) : rgt x h = bhd b x h := by rw [hb]; rfl
theorem shufq_end {b : Bool} {x found : Str} {h : Int} (hh : 2 * h = x.length) (e : found = S (weaveL (ahd b x h).cps.toList (bhd b x h).cps.toList h.toNat)) : found = shuf b x := by
  have e2 : h.toNat = x.cps.toList.length / 2 := by rw [len_is] at hh; omega
  rw [e, shuf, shufL]
  cases b
  · show S (weaveL (lft x h).cps.toList (rgt x h).cps.toList h.toNat) = _
    rw [lft, rgt, S_cps, S_cps, e2]; rfl
  · show S (weaveL (rgt x h).cps.toList (lft x h).cps.toList h.toNat) = _
    rw [lft, rgt, S_cps, S_cps, e2]; rfl
theorem size_half (h : Int) (h0 : 0 ≤ h) : Builtin.Range.rangeSize 1 (h + 1) 1 = (h.toNat : Int) := by
  rw [rangeSize_nat]; omega
def letters : List Nat := [65, 66, 67, 68, 69, 70, 71, 72, 73, 74]
theorem dk_eq {n : Int} (h0 : 0 ≤ n) (h1 : n ≤ 10) : dk n = S (letters.take n.toNat) := dk_is h0 h1
def posL (c : Nat) : List Nat → Nat → Int
  | [], _ => 0
  | a :: r, j => if a = c then (j : Int) + 1 else posL c r (j + 1)
theorem S_inj {a b : List Nat} (h : S a = S b) : a = b := by
  have := congrArg (fun x : Str => x.cps.toList) h
  simpa [S_cps] using this
theorem isAt_S (l : List Nat) (c : Nat) (j : Nat) (hj : j < l.length) : isAt (S l) (S [c]) (j : Nat) = decide (l[j] = c) := by
  have h := sgn_is (S l) ((j : Int) + 1) (by omega) (by rw [S_len]; omega)
  have e : (j : Int) + 1 - 1 = j := by omega
  rw [e] at h
  have e1 : ((S [c]).length : Int) = 1 := rfl
  unfold isAt
  rw [e1, h, sgn, e, S_cps, Int.toNat_natCast, List.getD_eq_getElem?_getD, List.getElem?_eq_getElem hj, Option.getD_some]
  by_cases q : l[j] = c
  · rw [q]; simp
  · rw [decide_eq_false q]
    refine Bool.eq_false_iff.mpr fun z => q ?_
    exact List.head_eq_of_cons_eq (S_inj (eq_of_beq z))
theorem instr_posU (l : List Nat) (c : Nat) : ∀ (n j : Nat), j + n = l.length → instrU (S l) (S [c]) n j = posL c (l.drop j) j
  | 0, j, h => by
    rw [List.drop_of_length_le (by omega)]; rfl
  | n + 1, j, h => by
    have hj : j < l.length := by omega
    rw [instrU, isAt_S l c j hj, instr_posU l c n (j + 1) (by omega), List.drop_eq_getElem_cons hj, posL]
    by_cases q : l[j] = c
    · rw [if_pos q, if_pos (by simpa using q)]
    · rw [if_neg q, if_neg (by simpa using q)]
theorem instr_pos (l : List Nat) (c : Nat) : instr (S l) (S [c]) = posL c l 0 := by
  rw [instr, S_len, instr_posU l c l.length 0 (by omega)]; rfl
-- the figures
def val : List Int → Int
  | [] => 0
  | b :: r => b * 2 ^ r.length + val r
theorem val_snoc (n : Int) : ∀ p : List Int, val (p ++ [n]) = 2 * val p + n
  | [] => by simp [val]
  | b :: r => by
    rw [List.cons_append, val, val, val_snoc n r, List.length_append, List.length_singleton, Int.pow_succ, Int.mul_add, ← Int.mul_assoc b, Int.mul_comm (b * 2 ^ r.length) 2]
    omega
theorem val_nonneg : ∀ {p : List Int}, (∀ b ∈ p, b = 0 ∨ b = 1) → 0 ≤ val p
  | [], _ => Int.le_refl _
  | b :: r, h => by
    have h1 := val_nonneg fun x hx => h x (.tail _ hx)
    rw [val]
    rcases h b (.head _) with e | e
    · subst e; omega
    · subst e
      have : (0 : Int) ≤ 2 ^ r.length := Int.pow_nonneg (by decide)
      omega
theorem val_prefix : ∀ {p q : List Int}, (∀ b ∈ p ++ q, b = 0 ∨ b = 1) → val p ≤ val (p ++ q)
  | [], q, h => val_nonneg h
  | b :: r, q, h => by
    have h1 := val_prefix (p := r) (q := q) fun x hx => h x (.tail _ hx)
    have h2 : (2 : Int) ^ r.length ≤ 2 ^ (r ++ q).length := by
      have := Nat.pow_le_pow_right (n := 2) (by decide) (show r.length ≤ (r ++ q).length by simp)
      exact_mod_cast this
    rw [List.cons_append, val, val]
    rcases h b (.head _) with e | e
    · subst e; omega
    · subst e; omega
def valB : List Bool → Int
  | [] => 0
  | b :: r => (if b then 2 ^ r.length else 0) + valB r
theorem val_B : ∀ {p : List Int}, (∀ b ∈ p, b = 0 ∨ b = 1) → val p = valB (p.map fun b => b == 1)
  | [], _ => rfl
  | b :: r, h => by
    rw [List.map_cons, val, valB, val_B fun x hx => h x (.tail _ hx), List.length_map]
    rcases h b (.head _) with e | e
    · subst e; simp
    · subst e; simp
def allB : Nat → List (List Bool)
  | 0 => [[]]
  | n + 1 => [] :: (allB n).flatMap fun p => [true :: p, false :: p]
theorem mem_allB : ∀ (n : Nat) (p : List Bool), p.length ≤ n → p ∈ allB n
  | 0, [], _ => by simp [allB]
  | n + 1, [], _ => by simp [allB]
  | n + 1, b :: r, h => by
    have := mem_allB n r (by simpa using h)
    rw [allB]
    refine List.mem_cons_of_mem _ (List.mem_flatMap.mpr ⟨r, this, ?_⟩)
    cases b <;> simp
def shufsL (p : List Bool) (l : List Nat) : List Nat := p.foldl (fun l b => shufL b l) l
def shufs (p : List Int) (x : Str) : Str := p.foldl (fun x n => shuf (n == 1) x) x
theorem shufs_S : ∀ (p : List Int) (l : List Nat), shufs p (S l) = S (shufsL (p.map fun b => b == 1) l)
  | [], _ => rfl
  | b :: r, l => by
    show shufs r (shuf (b == 1) (S l)) = _
    rw [shuf, S_cps, shufs_S r]; rfl
theorem elmsleyL : ∀ n ∈ [4, 6, 8, 10], ∀ p ∈ allB 4, valB p < (n : Nat) → posL 65 (shufsL p (letters.take n)) 0 = valB p + 1 := by decide +kernel
def iterL (b : Bool) (l : List Nat) : Nat → List Nat
  | 0 => l
  | k + 1 => shufL b (iterL b l k)
def iterS (b : Bool) (x : Str) : Nat → Str
  | 0 => x
  | k + 1 => shuf b (iterS b x k)
theorem iterS_S (b : Bool) (l : List Nat) : ∀ k, iterS b (S l) k = S (iterL b l k)
  | 0 => rfl
  | k + 1 => by rw [iterS, iterS_S b l k, shuf, S_cps]; rfl
def pw (b : Bool) (n : Int) : Nat → Int
  | 0 => 1
  | k + 1 => (2 * pw b n k).fmod (if b then n + 1 else n - 1)
theorem roundL : ∀ n ∈ [4, 6, 8, 10], ∀ b ∈ [true, false], ∀ k ∈ List.range 10, k < n → (iterL b (letters.take n) (k + 1) == letters.take n) = (pw b (n : Nat) (k + 1) == 1) := by decide +kernel
theorem endsL : ∀ n ∈ [4, 6, 8, 10], ∀ b ∈ [true, false], ∃ k ∈ List.range 10, k < n ∧ pw b (n : Nat) (k + 1) = 1 := by decide +kernel
def P2 (left : Int) (c : Int × Nat × Nat × List Value × List Int) : Prop := IntsAre c.2.2.2.1 c.2.2.2.2 ∧ (∀ b ∈ c.2.2.2.2, b = 0 ∨ b = 1) ∧ 0 ≤ c.1 ∧ c.1 * 2 ^ c.2.2.2.2.length + val c.2.2.2.2 = left ∧ c.2.2.2.2.length ≤ 4
theorem p2_start {left : Int} {t a : Nat} (h : 0 ≤ left) : P2 left (left, t, a, [], []) :=
  ⟨.nil, fun _ hb => (nomatch hb), h, by show left * 2 ^ 0 + val [] = left; simp [val], Nat.zero_le _⟩
theorem p2_turn {left x : Int} {t a : Nat} {vs ws : List Value} {bs : List Int} (_h1 : IntsAre vs bs) (h2 : ∀ b ∈ bs, b = 0 ∨ b = 1) (_h3 : 0 ≤ x) (h4 : x * 2 ^ bs.length + val bs = left) (h5 : bs.length ≤ 4) (hx : x > 0) (hl : left < 10) (hw : IntsAre ws ([x.fmod 2] ++ bs)) :
    P2 left (x.fdiv 2, t, a, ws, [x.fmod 2] ++ bs) := by
  have hv := val_nonneg h2
  have e1 : x.fdiv 2 = x / 2 := Int.fdiv_eq_ediv_of_nonneg _ (by decide)
  have e2 : x.fmod 2 = x % 2 := Int.fmod_eq_emod_of_nonneg _ (by decide)
  have h3' : bs.length ≤ 3 := by
    have : bs.length ≠ 4 := fun q => by
      rw [q] at h4
      have : (2 : Int) ^ 4 = 16 := by decide
      rw [this] at h4
      omega
    omega
  refine ⟨hw, ?_, ?_, ?_, ?_⟩
  · intro b hb
    rcases List.mem_cons.mp hb with rfl | hb
    · rw [e2]; omega
    · exact h2 b hb
  · show 0 ≤ x.fdiv 2
    rw [e1]; omega
  · show x.fdiv 2 * 2 ^ (bs.length + 1) + (x.fmod 2 * 2 ^ bs.length + val bs) = left
    rw [e1, e2, ← h4, Int.pow_succ, ← Int.add_assoc, Int.mul_comm (2 ^ bs.length) 2, ← Int.mul_assoc, ← Int.add_mul]
    congr 2
    omega
  · show bs.length + 1 ≤ 4
    omega
theorem half_less {x : Int} (hx : x > 0) : (x.fdiv 2).toNat < x.toNat := by
  rw [Int.fdiv_eq_ediv_of_nonneg _ (by decide)]; omega
theorem sizes_mem {n : Int} (h0 : n % 2 = 0) (h4 : 4 ≤ n) (h10 : n ≤ 10) : n.toNat ∈ [4, 6, 8, 10] := by
  have h : n = 4 ∨ n = 6 ∨ n = 8 ∨ n = 10 := by omega
  rcases h with rfl | rfl | rfl | rfl <;> decide
theorem elmsley {n : Int} {p : List Int} {c : Str} (h0 : n % 2 = 0) (h4 : 4 ≤ n) (h10 : n ≤ 10) (hp : ∀ b ∈ p, b = 0 ∨ b = 1) (hl : p.length ≤ 4) (hv : val p < n) (hc : c = Txt.item (dk n) 0) : instr (shufs p (dk n)) c = val p + 1 := by
  have e0 : c = S [65] := by
    rw [hc, item_is _ _ (by decide) (by rw [dk_len (by omega) h10]; omega), dk_eq (by omega) h10, S_cps]
    have : n = 4 ∨ n = 6 ∨ n = 8 ∨ n = 10 := by omega
    rcases this with rfl | rfl | rfl | rfl <;> rfl
  rw [e0, dk_eq (by omega) h10, shufs_S, instr_pos, val_B hp]
  refine elmsleyL n.toNat (sizes_mem h0 h4 h10) _ (mem_allB 4 _ (by simpa using hl)) ?_
  rw [← val_B hp]
  omega
theorem round {n : Int} {b : Bool} {k : Nat} (h0 : n % 2 = 0) (h4 : 4 ≤ n) (h10 : n ≤ 10) (hk : k < n.toNat) : (iterS b (dk n) (k + 1) == dk n) = (pw b n (k + 1) == 1) := by
  have e : n = ((n.toNat : Nat) : Int) := by omega
  have h := roundL n.toNat (sizes_mem h0 h4 h10) b (by cases b <;> decide) k (List.mem_range.mpr (by omega)) hk
  rw [← e] at h
  rw [dk_eq (by omega) h10, iterS_S, ← h]
  by_cases q : iterL b (letters.take n.toNat) (k + 1) = letters.take n.toNat
  · rw [q]; simp
  · rw [beq_eq_false_iff_ne.mpr q]
    exact beq_eq_false_iff_ne.mpr fun z => q (S_inj z)
theorem ends {n : Int} {b : Bool} (h0 : n % 2 = 0) (h4 : 4 ≤ n) (h10 : n ≤ 10) (h : ∀ j : Nat, 0 < j → j ≤ n.toNat → pw b n j ≠ 1) : False := by
  have e : n = ((n.toNat : Nat) : Int) := by omega
  obtain ⟨k, _, hk, hp⟩ := endsL n.toNat (sizes_mem h0 h4 h10) b (by cases b <;> decide)
  rw [← e] at hp
  exact h (k + 1) (Nat.succ_pos _) hk hp
theorem iterS_len (b : Bool) (x : Str) (h0 : (x.length : Int) % 2 = 0) : ∀ k, (iterS b x k).length = x.length
  | 0 => rfl
  | k + 1 => by rw [iterS, shuf_len b _ (by rw [iterS_len b x h0 k]; exact h0), iterS_len b x h0 k]
theorem shufs_len : ∀ (p : List Int) (x : Str), (x.length : Int) % 2 = 0 → (shufs p x).length = x.length
  | [], _, _ => rfl
  | b :: r, x, h0 => by
    show (shufs r (shuf (b == 1) x)).length = _
    rw [shufs_len r _ (by rw [shuf_len _ _ h0]; exact h0), shuf_len _ _ h0]
theorem shufs_snoc (p : List Int) (n : Int) (x : Str) : shufs (p ++ [n]) x = shuf (n == 1) (shufs p x) := by
  simp [shufs, List.foldl_append]
def P3 (d : Str) (pre : List Int) (c : Str × Nat × Int × Nat) : Prop := c.1 = shufs pre d ∧ c.2.2.1 = val pre
theorem p3_turn {d x : Str} {pre : List Int} {n f : Int} {t u : Nat} (h1 : x = shufs pre d) (h2 : f = val pre) : P3 d (pre ++ [n]) (shuf (n == 1) x, t, 2 * f + n, u) := by
  refine ⟨?_, ?_⟩
  · show shuf (n == 1) x = _
    rw [shufs_snoc, h1]
  · show 2 * f + n = _
    rw [val_snoc, h2]
theorem dk_facts {r : Int} (h0 : 0 ≤ r) (h1 : r < 4) : ((dk (4 + 2 * r)).length : Int) = 4 + 2 * r := dk_len (by omega) (by omega)
theorem len3 {r : Int} {x : Str} {pre : List Int} (h0 : 0 ≤ r) (h1 : r < 4) (h : x = shufs pre (dk (4 + 2 * r))) : (x.length : Int) = 4 + 2 * r := by
  have e := dk_facts h0 h1
  rw [h, shufs_len _ _ (by omega), e]
theorem shuf3 {r : Int} {x : Str} (b : Bool) (h : (x.length : Int) = 4 + 2 * r) : ((shuf b x).length : Int) = 4 + 2 * r := by
  rw [shuf_len b x (by omega), h]
theorem elm3 {r fr n left : Int} {x : Str} {pre post bs : List Int} (h0 : 0 ≤ r) (h1 : r < 4) (hb : ∀ b ∈ bs, b = 0 ∨ b = 1) (hl : bs.length ≤ 4) (hv : val bs = left) (hlt : left < 4 + 2 * r) (e : bs = pre ++ n :: post) (kF : x = shufs pre (dk (4 + 2 * r))) (kG : fr = val pre) :
    instr (shuf (n == 1) x) (Txt.item (dk (4 + 2 * r)) 0) = 2 * fr + n + 1 := by
  have e' : bs = (pre ++ [n]) ++ post := by rw [e]; simp
  have h := elmsley (n := 4 + 2 * r) (p := pre ++ [n]) (by omega) (by omega) (by omega) (fun b hb' => hb b (by rw [e']; exact List.mem_append_left _ hb')) (by rw [e'] at hl; rw [List.length_append] at hl; omega)
    (by have := val_prefix (p := pre ++ [n]) (q := post) (by rw [← e']; exact hb); rw [← e', hv] at this; omega) rfl
  rw [shufs_snoc, val_snoc, ← kF, ← kG] at h
  exact h
def P4 (b : Bool) (n : Int) (i : Nat) (c : Str × Nat × Int × Nat) : Prop := c.1 = iterS b (dk n) i ∧ c.2.2.1 = pw b n i ∧ ∀ j : Nat, 0 < j → j ≤ i → pw b n j ≠ 1
theorem p4_start {b : Bool} {n : Int} {t u : Nat} : P4 b n 0 (dk n, t, 1, u) := ⟨rfl, rfl, fun j h1 h2 => by omega⟩
theorem p4_turn {b : Bool} {n p m : Int} {i : Nat} {x : Str} {t u : Nat} (hm : m = if b then n + 1 else n - 1) (h1 : x = iterS b (dk n) i) (h2 : p = pw b n i) (h3 : ∀ j : Nat, 0 < j → j ≤ i → pw b n j ≠ 1) (h4 : ((2 * p).fmod m == 1) = false) : P4 b n (i + 1) (shuf b x, t, (2 * p).fmod m, u) := by
  have e : (2 * p).fmod m = pw b n (i + 1) := by rw [pw, h2, hm]
  refine ⟨?_, e, ?_⟩
  · show shuf b x = _
    rw [iterS, h1]
  · intro j j1 j2
    by_cases q : j = i + 1
    · subst q
      rw [← e]
      exact beq_eq_false_iff_ne.mp h4
    · exact h3 j j1 (by omega)
theorem round4 {b : Bool} {r p m : Int} {i : Nat} {x : Str} (h0 : 0 ≤ r) (hr : r < 4) (hi : i < (4 + 2 * r).toNat) (hm : m = if b then 4 + 2 * r + 1 else 4 + 2 * r - 1) (h1 : x = iterS b (dk (4 + 2 * r)) i) (h2 : p = pw b (4 + 2 * r) i) :
    (shuf b x == dk (4 + 2 * r)) = ((2 * p).fmod m == 1) := by
  have h := round (n := 4 + 2 * r) (b := b) (k := i) (by omega) (by omega) (by omega) hi
  rw [iterS, ← h1, pw, ← h2, ← hm] at h
  exact h
theorem len4 {b : Bool} {r : Int} {x : Str} {i : Nat} (h0 : 0 ≤ r) (h1 : r < 4) (h : x = iterS b (dk (4 + 2 * r)) i) : (x.length : Int) = 4 + 2 * r := by
  have e := dk_facts h0 h1
  rw [h, iterS_len b _ (by omega) i, e]
theorem ends4 {b : Bool} {r : Int} (h0 : 0 ≤ r) (h1 : r < 4) (h : ∀ j : Nat, 0 < j → j ≤ (4 + 2 * r).toNat → pw b (4 + 2 * r) j ≠ 1) : False :=
  ends (by omega) (by omega) (by omega) h
def sp : List Nat → (Nat → Tok) → Nat → List (Str × Tok)
  | [], _, _ => []
  | a :: r, T, i => (S [a], T i) :: sp r T (i + 1)
theorem sp_fst : ∀ (l : List Nat) (T : Nat → Tok) (i : Nat), (sp l T i).map (·.1) = l.map fun c => S [c]
  | [], _, _ => rfl
  | a :: r, T, i => by rw [sp, List.map_cons, sp_fst r]; rfl
theorem sp_get : ∀ (l : List Nat) (vs : List Value) (T : Nat → Tok) (i : Nat), vs.length = l.length → (∀ j v, vs[j]? = some v → ∃ c, l[j]? = some c ∧ v = Value.str (S [c]) (T (i + j))) → vs = strValues (sp l T i)
  | [], vs, _, _, h, _ => by cases vs with
    | nil => rfl
    | cons => simp at h
  | a :: r, vs, T, i, h, g => by cases vs with
    | nil => simp at h
    | cons v vs =>
      obtain ⟨c, hc, e⟩ := g 0 v rfl
      cases hc
      have ih := sp_get r vs T (i + 1) (by simpa using h) fun j u hu => by
        obtain ⟨c', hc', e'⟩ := g (j + 1) u hu
        exact ⟨c', hc', by rw [e']; congr 2; omega⟩
      rw [e, ih]
      rfl
def tokOf : Value → Tok
  | .str _ t => t
  | _ => 0
section
variable {prog : Program} {w : World} {A : Around} {E : Value → Shared → Prop} {s : Shared} {h₀ : Heap} {L : Addr} {m : Str → Option Value} {news : List (Addr × Obj)} {Q : Value → Shared → Prop}
theorem list_of_str {x : Str} {t : Tok} (hh : A.handled = none) (F : Fr h₀ L s.heap m) (N : News h₀ L s.heap news) (hz : x.length ≤ 1000)
    (h : ∀ (D : Addr) (c : Nat) (ps : List (Str × Tok)) (h' : Heap) (tk : Nat), Fr h₀ L h' m → News h₀ L h' ((D, listOf (strValues ps).toArray c) :: news) → (∀ p ∈ news, p.1 < D) → ps.map (·.1) = (x.cps.toList.map fun c => S [c]) → Q (.ref D) { s with heap := h', toks := tk }) :
    wpAny (model prog w) A (call (.type "list") [.str x t]) Q E s := by
  have hx : x.cps.size = x.cps.toList.length := Array.length_toList.symm
  have hn : x.cps.size ≤ sizeLine := by
    have e : x.cps.size = x.length := rfl
    rw [e, sizeLine_eq]; omega
  refine call_list_str hh x t (hn := hn) fun h' tk acc' c' hk hS hacc => ?_
  have e : acc'.toList = strValues (sp x.cps.toList (fun j => tokOf (acc'[j]?.getD .none)) 0) := by
    refine sp_get _ _ _ _ (by rw [Array.length_toList, hacc.1, hx]) fun j v hv => ?_
    obtain ⟨c, u, hc, hv'⟩ := hacc.2 j v (by simpa using hv)
    refine ⟨c, by simpa using hc, ?_⟩
    have hv2 : acc'[j]? = some v := by simpa using hv
    rw [Nat.zero_add, hv2, hv']
    rfl
  refine h _ c' (sp x.cps.toList (fun j => tokOf (acc'[j]?.getD .none)) 0) h' tk (F.keeps hk) ?_ (fun q hq => Heap.lt_size (N q hq).1) (sp_fst _ _ _)
  rw [← e]
  exact news_pushed F N hk (by simpa using hS) rfl
theorem strValues_set : ∀ (ps : List (Str × Tok)) (k : Nat) (y : Str) (v : Tok), k < ps.length → ki_setL (strValues ps) k (.str y v) = some (strValues (ps.set k (y, v)))
  | [], _, _, _, h => absurd h (Nat.not_lt_zero _)
  | p :: r, 0, y, v, _ => rfl
  | p :: r, k + 1, y, v, h => by
    have ih := strValues_set r k y v (by simpa using h)
    show (match ki_setL (strValues r) k (.str y v) with | some q => some (Value.str p.1 p.2 :: q) | none => none) = _
    rw [ih]
    rfl
theorem set_txt {D : Addr} {ps : List (Str × Tok)} {c : Nat} {g : Int} {u : Tok} {y : Str} {v : Tok} {news' : List (Addr × Obj)} {Q : Unit → Shared → Prop} (F : Fr h₀ L s.heap m) (N : News h₀ L s.heap news) 
    (U : Upd D (listOf (strValues ps).toArray c) (listOf (strValues (ps.set g.toNat (y, v))).toArray c) news news') (hp : ps.length ≤ 1000) (h0 : 0 ≤ g) (h1 : g < ps.length)
    (h : ∀ h', Fr h₀ L h' m → News h₀ L h' news' → Q () { s with heap := h' }) : wpAny (model prog w) A (setItem (.ref D) (.int g u) (.str y v)) Q E s :=
  ki_set F N h0 (by omega) (strValues_set ps g.toNat y v (by omega)) U h
theorem len_lit {x : Str} {t : Tok} {n : Int} (e : (x.length : Int) = n) (hn : n ≤ 1000) (h : Q (.int n (s.toks + 1)) { s with toks := s.toks + 1 + 1 }) : wpAny (model prog w) A (call (.builtin "len") [.str x t]) Q E s := by
  subst e
  exact PySem.P.len_str (by omega) h
theorem joinOk_ones : ∀ (ts : List Str), (∀ t ∈ ts, t.length = 1) → ts.length ≤ 1000 → JoinOk (Str.ofString "") ts = true := by
  intro ts h1 h2
  have e : ∀ (ts : List Str) (n : Nat), (∀ t ∈ ts, t.length = 1) → ts.foldl (fun a b => a + b.length + (Str.ofString "").length) n = n + ts.length := by
    intro ts
    induction ts with
    | nil => intro n _; rfl
    | cons a r ih =>
      intro n h
      rw [List.foldl_cons, ih _ fun t ht => h t (.tail _ ht), h a (.head _), empty_is]
      simp [S_len]; omega
  unfold JoinOk
  have e2 : ts.toArray.foldl (fun a b => a + b.length + (Str.ofString "").length) 0 = 0 + ts.length := by
    rw [← e ts 0 h1]; simp
  rw [e2]
  unfold Builtin.Str.tooLong
  simp [sizeLine_eq]; omega
theorem join_of {D : Addr} {t : Tok} {ps : List (Str × Tok)} {c : Nat} {l : List Nat} (N : News h₀ L s.heap news) (hm : (D, listOf (strValues ps).toArray c) ∈ news) (hv : ps.map (·.1) = l.map fun c => S [c]) (h2 : l.length ≤ 1000)
    (hq : ∀ t' k, Q (.str (S l) t') { s with toks := k }) : wpAny (model prog w) A (call (.builtin "str.join") [.str (Str.ofString "") t, .ref D]) Q E s := by
  refine SC.join (l := ps) (texts := l.map fun c => S [c]) ⟨_, (N _ hm).1, rfl, c, rfl⟩ hv (joinOk_ones _ ?_ ?_) fun t' k => (join_ones l).symm ▸ hq t' k
  · intro y hy
    obtain ⟨v, hv', rfl⟩ := List.mem_map.mp hy
    rfl
  · simpa using h2
end
section
variable {prog : Program} {w : World} {A : Around} {E : Value → Shared → Prop} {s : Shared} {env : Env} {h₀ : Heap} {x : Str} {body : List Stmt} {Q : Flow → Shared → Prop}
theorem kst_rangeC {σ : Type} {r : Addr} {a₀ b₀ d : Int} {t₀ u₀ v₀ : Tok} {n : Nat} {m₀ : Str → Option Value} (Led : σ → List (Addr × Obj)) (ps : σ → List (Str × Value)) (stored : List Str) (P : Nat → σ → Prop) (c₀ : σ)
    (hh : A.handled = none) (hr : IsRange s.heap r a₀ b₀ d t₀ u₀ v₀) (hsmall : Builtin.Range.small a₀ b₀ d = true) (hn : Builtin.Range.rangeSize a₀ b₀ d = (n : Int)) (F : Fr h₀ env.locals s.heap m₀) (N : News h₀ env.locals s.heap (Led c₀)) (hk : ∀ p ∈ ps c₀, m₀ p.1 = some p.2) (hp : P 0 c₀)
    (turn : ∀ (c : σ) (i : Nat) (k : Int) t (u : Str → Option Value) h tk own, k = a₀ + (i : Int) * d → i < n → OwnOff own ((Led c₀).map (·.1)) → P i c →
      Fr h₀ env.locals h (fun y => if y = x then some (.int k t) else kstB (fun z => if stored.contains z then u z else m₀ z) (ps c) y) → News h₀ env.locals h (Led c ++ own) →
      wpAny (model prog w) A (execs body env) (InvPostN h₀ env.locals (KstS Led ps (fun _ => True) x stored m₀ (fun _ => P (i + 1)) []) own ((Led c₀).map (·.1)) { s with heap := h, toks := tk } Q) E { s with heap := h, toks := tk })
    (done : ∀ (c : σ) (u : Str → Option Value) h tk, P n c → Fr h₀ env.locals h (fun y => if y = x then u y else kstB (fun z => if stored.contains z then u z else m₀ z) (ps c) y) → News h₀ env.locals h (Led c) → Q .next { s with heap := h, toks := tk }) :
    wpAny (model prog w) A (pyIter (.ref r)) (fun it s₂ => LoopAtV prog w A h₀ env x body Q E it s₂) E s := by
  refine wpAny_pyIter_range hr hsmall ?_
  have W : Walks prog w A s.heap.objs.size [s.heap.objs.size] [s.heap.objs.size] n (fun i v => i < n ∧ ∃ t, v = .int (a₀ + i * d) t)
      (fun i h => IsRangeIter h s.heap.objs.size (a₀ + (i : Nat) * d) ((n : Int) - (i : Nat)) d) := (Walks.range hh _ a₀ d n).bound
  refine loop_invN (fun i m nx => KstS Led ps (fun _ => True) x stored m₀ (fun _ => P i) [] m nx) W ?_ ?_ ?_ ?_ (by show IsRangeIter _ _ _ _ _; rw [hn]; simpa using Heap.get?_push_size _ rfl) (F.push _) (fun p hp => ⟨Heap.get?_push_of_some _ (N p hp).1, (N p hp).2⟩) ⟨c₀, rfl, trivial, hk, fun _ _ _ _ => rfl, hp⟩ ?_ ?_
  · intro hm
    exact absurd F.ns.lt ((List.mem_singleton.mp hm) ▸ Nat.lt_irrefl _)
  · intro b hb
    rw [List.mem_singleton.mp hb]
    exact next_is_new F
  · intro p hp hI
    exact absurd (Heap.lt_size (N p hp).1) ((List.mem_singleton.mp hI) ▸ Nat.lt_irrefl _)
  · intro p hp hI
    exact absurd (Heap.lt_size (N p hp).1) ((List.mem_singleton.mp hI) ▸ Nat.lt_irrefl _)
  · rintro i v m₁ nx h tk own hi ⟨_, t, rfl⟩ _ hoff ⟨c, rfl, _, h1, h2, hp'⟩ F₁ N₁
    exact turn c i _ t m₁ h tk own rfl hi hoff hp' (kst_fr h1 h2 F₁) N₁
  · rintro m₁ nx h tk ⟨c, rfl, _, h1, h2, hp'⟩ F₁ N₁
    exact done c m₁ h tk hp' (kst_frOut h1 h2 F₁) N₁
end
def Hold (P : Prop) : Prop := P
theorem hold_in {P : Prop} (h : Hold P) : P := h
theorem call_is {M : Model} {A : Around} {Q E s} {f : Addr} {vs : List Value} (g : Addr) (_ : f = g) (h : Hold (wpAny M A (call (.ref f) vs) Q E s)) : wpAny M A (call (.ref f) vs) Q E s := h
theorem roomA {dp k n : Nat} (h : dp + n < recursionLimit) (hk : 1 + k ≤ n) : dp + 1 + k < recursionLimit := by omega
theorem roomB {dp n : Nat} (h : dp + n < recursionLimit) : dp < recursionLimit := by omega
theorem unitA {un k n : Nat} (h : un + 8 * n < cLine) (hk : 3 + 8 * k ≤ 8 * n) : un + 3 + 8 * k < cLine := by omega
theorem eq_no {x y : Int} (h : x ≠ y) : (x == y) = false := by simpa using h
theorem eq_yes {x y : Int} (h : x = y) : (x == y) = true := by simpa using h
abbrev C (k : Nat) (w : World) (loose : List Str) (mean : ExcName → Option Value) (mg mb : Str → Option Value) (f : Addr) (news : List (Addr × Obj)) (pre : Prop) (vs : List Value) (R : Tok → Value) : Prop :=
  ∀ (dp un : Nat) (gd : Option (List Code)) (cn : Str) (cs : Scope) (a : Addr) (ccd : Value) (cl : List (Str × Addr)) (outer : List Env) (A₀ : Around) (base h₀ : Heap) (L : Addr) (m : Str → Option Value) (s : Shared) (Q E : Value → Shared → Prop),
    Below A₀ base outer h₀ → Fr h₀ L s.heap m → (hd.heap_39 w.params).In h₀ → News h₀ L s.heap news → Top hd.view_39 loose mean mg mb h₀ → cs.kind = .function →
    pre → dp + k < recursionLimit → un + 8 * k < cLine → (∀ (t : Tok) (h' : Heap) (tk' : Nat), Fr h₀ L h' m → News h₀ L h' news → Q (R t) { s with heap := h', toks := tk' }) →
      wpAny (model Challenge.rw_xm0015_01.row.prog w) (ktrTop dp un gd cn cs L a ccd cl outer) (call (.ref f) vs) Q E s

theorem use {k : Nat} {w : World} {loose : List Str} {mean : ExcName → Option Value} {mg mb : Str → Option Value} {f : Addr} {pre : Prop} {vs : List Value} {R : Tok → Value}
    {dp un : Nat} {gd : Option (List Code)} {cn : Str} {cs : Scope} {a : Addr} {ccd : Value} {cl : List (Str × Addr)} {outer : List Env} {A₀ : Around} {base h₀ : Heap} {L : Addr} {m : Str → Option Value} {news : List (Addr × Obj)} {s : Shared} {Q E : Value → Shared → Prop}
    (H : C k w loose mean mg mb f news pre vs R)
    (ret : ∀ (t : Tok) (h' : Heap) (tk' : Nat), Fr h₀ L h' m → News h₀ L h' news → Q (R t) { s with heap := h', toks := tk' })
    (B : Below A₀ base outer h₀ := by k_asm) (F : Fr h₀ L s.heap m := by k_asm) (X : (hd.heap_39 w.params).In h₀ := by k_asm) (N : News h₀ L s.heap news := by k_asm) (T : Top hd.view_39 loose mean mg mb h₀ := by k_asm) (hk : cs.kind = .function := by first | exact rfl | assumption)
    (hp : pre := by first | trivial | ((try dsimp only); omega) | ((try simp only [Str.length_append, sgn_len, empty_len]); omega)) (hd : dp + k < recursionLimit := by ktr_room) (hu : un + 8 * k < cLine := by ktr_units) :
    wpAny (model Challenge.rw_xm0015_01.row.prog w) (ktrTop dp un gd cn cs L a ccd cl outer) (call (.ref f) vs) Q E s :=
  H _ _ _ _ _ _ _ _ _ _ _ _ _ _ _ _ _ B F X N T hk hp hd hu ret
local macro_rules | `(tactic| k_ne) => `(tactic| (refine neN ?_; (try dsimp only); refine Nat.ne_of_gt ?_; first | assumption | exact And.left (by assumption) | exact And.left (And.right (by assumption)) | exact And.left (And.right (And.right (by assumption))) | exact And.left (And.right (And.right (And.right (by assumption)))) | exact And.left (And.right (And.right (And.right (And.right (by assumption))))) | exact And.left (And.right (And.right (And.right (And.right (And.right (by assumption)))))) | exact And.left (And.right (And.right (And.right (And.right (And.right (And.right (by assumption))))))) | exact And.left (And.right (And.right (And.right (And.right (And.right (And.right (And.right (by assumption)))))))) | exact And.left (And.right (And.right (And.right (And.right (And.right (And.right (And.right (And.right (by assumption))))))))) | exact And.left (And.right (And.right (And.right (And.right (And.right (And.right (And.right (And.right (And.right (by assumption)))))))))) | exact And.left (And.right (And.right (And.right (And.right (And.right (And.right (And.right (And.right (And.right (And.right (by assumption))))))))))) | exact And.left (And.right (And.right (And.right (And.right (And.right (And.right (And.right (And.right (And.right (And.right (And.right (by assumption)))))))))))) | exact And.left (And.right (And.right (And.right (And.right (And.right (And.right (And.right (And.right (And.right (And.right (And.right (And.right (by assumption))))))))))))) | exact And.left (And.right (And.right (And.right (And.right (And.right (And.right (And.right (And.right (And.right (And.right (And.right (And.right (And.right (by assumption)))))))))))))) | exact (And.right (by assumption)) | exact (And.right (And.right (by assumption))) | exact (And.right (And.right (And.right (by assumption))))))
local macro_rules | `(tactic| k_all) => `(tactic| first | assumption | (refine fun p9 hp9 => Nat.ne_of_lt (kst_ltOf ?_ p9 hp9); first | assumption | exact (And.right (by assumption)) | exact (And.right (And.right (by assumption))) | exact (And.right (And.right (And.right (by assumption)))) | exact (And.right (And.right (And.right (And.right (by assumption))))) | exact (And.right (And.right (And.right (And.right (And.right (by assumption))))))))
local macro_rules | `(tactic| ktr_room) => `(tactic| first | decide | exact roomA (by assumption) (by decide) | exact roomB (by assumption))
local macro_rules | `(tactic| ktr_units) => `(tactic| first | decide | exact unitA (by assumption) (by decide))
local macro_rules | `(tactic| walk_at "call ref") => `(tactic| (k_here; k_dflt (k_extra "call ref")))
local macro_rules | `(tactic| walk_at "pyIter ref") => `(tactic| (k_here; k_dflt (k_extra "pyIter ref")))
local macro_rules | `(tactic| walk_at "call type:list") => `(tactic| (k_here; k_dflt (k_extra "call type:list")))
local macro_rules | `(tactic| walk_at "setItem ref int") => `(tactic| (k_here; k_dflt (k_extra "setItem ref int")))
local macro_rules | `(tactic| walk_at "call builtin:str.join") => `(tactic| (k_here; k_dflt (k_extra "call builtin:str.join")))
local macro_rules | `(tactic| walk_at "exec While") => `(tactic| (k_here; k_dflt (k_extra "exec While")))
local macro_rules | `(tactic| walk_at "KswEnd") => `(tactic| (k_here; k_dflt (k_extra "KswEnd")))
local macro_rules | `(tactic| walk_at "InvEndN") => `(tactic| (k_here; k_dflt (k_extra "InvEndN")))
local macro_rules | `(tactic| walk_at "ite") => `(tactic| (k_here; k_extra "ite"))
theorem text_of_c (w : World) (loose mean mg mb) (news : List (Addr × Obj)) (x : Str) (t : Tok) : C 1 w loose mean mg mb 65 news True [.str x t] (fun t => .str x t) := by
  k_with_none
  w_top off
  dsimp only [C]
  k_fill
  intro dp un gd cn cs a ccd cl outer A₀ base h₀ L m s Q E B F X N T hk hp hdp hun hret
  refine wpAny_call ?_
  k_dflt cell_enter
  k_steps
  all_goals cb_end hret
theorem size_told_c (w : World) (loose mean mg mb) (news : List (Addr × Obj)) (x : Int) (t : Tok) : C 1 w loose mean mg mb 79 news (0 ≤ x ∧ x ≤ 255) [.int x t] (fun t => .int x t) := by
  k_with_none
  w_top off
  dsimp only [C]
  k_fill
  intro dp un gd cn cs a ccd cl outer A₀ base h₀ L m s Q E B F X N T hk hp hdp hun hret
  refine wpAny_call ?_
  k_dflt cell_enter
  k_steps
  all_goals cb_end hret
theorem place_told_c (w : World) (loose mean mg mb) (news : List (Addr × Obj)) (x : Int) (t : Tok) : C 2 w loose mean mg mb 86 news (1 ≤ x ∧ x ≤ 255) [.int x t] (fun t => .int x t) := by
  k_with_none
  w_top off
  (k_with "call ref" => ((with_reducible show wpAny _ _ (call (Value.ref 79) _) _ _ _); refine use (size_told_c _ _ _ _ _ _ _ _) ?_; intro t9 h9 tk9 F9 N9; (try dsimp only); (try k_fold)))
  (k_with "ite" => first | refine PySem.W.ite_isFalse (eq_no (by omega)) ?_ | refine PySem.W.ite_pos (eq_yes (by omega)) ?_)
  dsimp only [C]
  k_fill
  intro dp un gd cn cs a ccd cl outer A₀ base h₀ L m s Q E B F X N T hk hp hdp hun hret
  refine wpAny_call ?_
  k_dflt cell_enter
  k_steps
  all_goals cb_end hret
theorem text_left_c (w : World) (loose mean mg mb) (news : List (Addr × Obj)) (wa l : Addr) (x : Str) (t : Tok) (n : Int) (u : Tok) (c : Nat) : C 3 w loose mean mg mb 107 ((l, listOf [.str x t, .int n u].toArray c) :: news) ((0 ≤ n ∧ n ≤ 255) ∧ x.length ≤ 255) [.ref wa, .ref l] (fun t => .str (Txt.slice x none (some n)) t) := by
  k_with_none
  w_top off
  (k_with "call ref" => ((with_reducible show wpAny _ _ (call (Value.ref 65) _) _ _ _); refine use (text_of_c _ _ _ _ _ _ _ _) ?_; intro t9 h9 tk9 F9 N9; (try dsimp only); (try k_fold)))
  (k_with "call ref" => ((with_reducible show wpAny _ _ (call (Value.ref 79) _) _ _ _); refine use (size_told_c _ _ _ _ _ _ _ _) ?_; intro t9 h9 tk9 F9 N9; (try dsimp only); (try k_fold)))
  dsimp only [C]
  k_fill
  intro dp un gd cn cs a ccd cl outer A₀ base h₀ L m s Q E B F X N T hk hp hdp hun hret
  refine wpAny_call ?_
  k_dflt cell_enter
  k_steps
  all_goals cb_end hret
theorem text_right_c (w : World) (loose mean mg mb) (news : List (Addr × Obj)) (wa l : Addr) (x : Str) (t : Tok) (n : Int) (u : Tok) (c : Nat) : C 3 w loose mean mg mb 114 ((l, listOf [.str x t, .int n u].toArray c) :: news) ((0 ≤ n ∧ n ≤ 255) ∧ x.length ≤ 255) [.ref wa, .ref l] (fun t => .str (Txt.slice x (some (max (x.length - n) 0)) none) t) := by
  k_with_none
  w_top off
  (k_with "call ref" => ((with_reducible show wpAny _ _ (call (Value.ref 65) _) _ _ _); refine use (text_of_c _ _ _ _ _ _ _ _) ?_; intro t9 h9 tk9 F9 N9; (try dsimp only); (try k_fold)))
  (k_with "call ref" => ((with_reducible show wpAny _ _ (call (Value.ref 79) _) _ _ _); refine use (size_told_c _ _ _ _ _ _ _ _) ?_; intro t9 h9 tk9 F9 N9; (try dsimp only); (try k_fold)))
  dsimp only [C]
  k_fill
  intro dp un gd cn cs a ccd cl outer A₀ base h₀ L m s Q E B F X N T hk hp hdp hun hret
  refine wpAny_call ?_
  k_dflt cell_enter
  k_steps
  all_goals cb_end hret
theorem text_mid_c (w : World) (loose mean mg mb) (news : List (Addr × Obj)) (wa l : Addr) (x : Str) (t : Tok) (n : Int) (u : Tok) (v : Tok) (c : Nat) : C 3 w loose mean mg mb 121 ((l, listOf [.str x t, .int n u, .int 1 v].toArray c) :: news) ((1 ≤ n ∧ n ≤ 255) ∧ x.length ≤ 255) [.ref wa, .ref l] (fun t => .str (Txt.slice x (some (n - 1)) (some (n - 1 + 1))) t) := by
  k_with_none
  w_top off
  (k_with "call ref" => ((with_reducible show wpAny _ _ (call (Value.ref 65) _) _ _ _); refine use (text_of_c _ _ _ _ _ _ _ _) ?_; intro t9 h9 tk9 F9 N9; (try dsimp only); (try k_fold)))
  (k_with "call ref" => ((with_reducible show wpAny _ _ (call (Value.ref 79) _) _ _ _); refine use (size_told_c _ _ _ _ _ _ _ _) ?_; intro t9 h9 tk9 F9 N9; (try dsimp only); (try k_fold)))
  (k_with "call ref" => ((with_reducible show wpAny _ _ (call (Value.ref 86) _) _ _ _); refine use (place_told_c _ _ _ _ _ _ _ _) ?_; intro t9 h9 tk9 F9 N9; (try dsimp only); (try k_fold)))
  (k_with "ite" => first | refine PySem.W.ite_isFalse (eq_no (by omega)) ?_ | refine PySem.W.ite_pos (eq_yes (by omega)) ?_)
  dsimp only [C]
  k_fill
  intro dp un gd cn cs a ccd cl outer A₀ base h₀ L m s Q E B F X N T hk hp hdp hun hret
  refine wpAny_call ?_
  k_dflt cell_enter
  k_steps
  all_goals cb_end hret
theorem checked_text_c (w : World) (loose mean mg mb) (news : List (Addr × Obj)) (x : Str) (t : Tok) : C 1 w loose mean mg mb 72 news (x.length ≤ 255) [.str x t] (fun t => .str x t) := by
  k_with_none
  w_top off
  dsimp only [C]
  k_fill
  intro dp un gd cn cs a ccd cl outer A₀ base h₀ L m s Q E B F X N T hk hp hdp hun hret
  refine wpAny_call ?_
  k_dflt cell_enter
  k_steps
  all_goals cb_end hret
theorem text_joined_c (w : World) (loose mean mg mb) (news : List (Addr × Obj)) (x : Str) (t : Tok) (y : Str) (u : Tok) : C 3 w loose mean mg mb 128 news (x.length + y.length ≤ 255) [.str x t, .str y u] (fun t => .str (x ++ y) t) := by
  k_with_none
  w_top off
  (k_with "call ref" => ((with_reducible show wpAny _ _ (call (Value.ref 65) _) _ _ _); refine use (text_of_c _ _ _ _ _ _ _ _) ?_; intro t9 h9 tk9 F9 N9; (try dsimp only); (try k_fold)))
  (k_with "call ref" => ((with_reducible show wpAny _ _ (call (Value.ref 72) _) _ _ _); refine use (checked_text_c _ _ _ _ _ _ _ _) ?_; intro t9 h9 tk9 F9 N9; (try dsimp only); (try k_fold)))
  dsimp only [C]
  k_fill
  intro dp un gd cn cs a ccd cl outer A₀ base h₀ L m s Q E B F X N T hk hp hdp hun hret
  refine wpAny_call ?_
  k_dflt cell_enter
  k_steps
  all_goals cb_end hret
theorem C_conv {k : Nat} {w : World} {loose : List Str} {mean : ExcName → Option Value} {mg mb : Str → Option Value} {f : Addr} {news : List (Addr × Obj)} {pre pre' : Prop} {vs : List Value} {R R' : Tok → Value}
    (H : C k w loose mean mg mb f news pre vs R) (hp : pre' → pre) (hr : pre' → ∀ t, R t = R' t) : C k w loose mean mg mb f news pre' vs R' := by
  intro dp un gd cn cs a ccd cl outer A₀ base h₀ L m s Q E B F X N T hk p hd hu ret
  exact H _ _ _ _ _ _ _ _ _ _ _ _ _ _ _ _ _ B F X N T hk (hp p) hd hu fun t h' tk' F' N' => (hr p t).symm ▸ ret t h' tk' F' N'
theorem left_c (w : World) (loose mean mg mb) (news : List (Addr × Obj)) (wa l : Addr) (x : Str) (t : Tok) (n : Int) (u : Tok) (c : Nat) : C 3 w loose mean mg mb 107 ((l, listOf [.str x t, .int n u].toArray c) :: news) ((0 ≤ n ∧ n ≤ x.length) ∧ x.length ≤ 255) [.ref wa, .ref l] (fun t => .str (lft x n) t) :=
  C_conv (text_left_c w loose mean mg mb news wa l x t n u c) (fun h => ⟨by omega, h.2⟩) fun h t => by rw [lft_is x n h.1.1 h.1.2]
theorem right_c (w : World) (loose mean mg mb) (news : List (Addr × Obj)) (wa l : Addr) (x : Str) (t : Tok) (n : Int) (u : Tok) (c : Nat) : C 3 w loose mean mg mb 114 ((l, listOf [.str x t, .int n u].toArray c) :: news) ((0 ≤ n ∧ n ≤ x.length) ∧ x.length ≤ 255) [.ref wa, .ref l] (fun t => .str (rgt x n) t) :=
  C_conv (text_right_c w loose mean mg mb news wa l x t n u c) (fun h => ⟨by omega, h.2⟩) fun h t => by rw [rgt_is x n h.1.1 h.1.2]
theorem mid_c (w : World) (loose mean mg mb) (news : List (Addr × Obj)) (wa l : Addr) (x : Str) (t : Tok) (n : Int) (u : Tok) (v : Tok) (c : Nat) : C 3 w loose mean mg mb 121 ((l, listOf [.str x t, .int n u, .int 1 v].toArray c) :: news) ((1 ≤ n ∧ n ≤ x.length) ∧ x.length ≤ 255) [.ref wa, .ref l] (fun t => .str (sgn x n) t) :=
  C_conv (text_mid_c w loose mean mg mb news wa l x t n u v c) (fun h => ⟨by omega, h.2⟩) fun h t => by rw [sgn_is x n h.1.1 h.1.2]
abbrev CutC (w : World) (loose : List Str) (mean : ExcName → Option Value) (mg mb : Str → Option Value) (news : List (Addr × Obj)) (b l : Addr) (ws : List Value) (ns : List Int) (c c' : Nat) (k : Int) (t : Tok) (n : Int) (u : Tok) : Prop :=
  ∀ (dp un : Nat) (gd : Option (List Code)) (cn : Str) (cs : Scope) (a : Addr) (ccd : Value) (cl : List (Str × Addr)) (outer : List Env) (A₀ : Around) (base h₀ : Heap) (L : Addr) (m : Str → Option Value) (s : Shared) (Q E : Value → Shared → Prop),
    Below A₀ base outer h₀ → Fr h₀ L s.heap m → (hd.heap_39 w.params).In h₀ → News h₀ L s.heap ((b, listOf [.ref l, .int k t].toArray c) :: (l, listOf ws.toArray c') :: news) → Top hd.view_39 loose mean mg mb h₀ → cs.kind = .function →
    IntsAre ws ns → ns.length ≤ 6 → 0 ≤ k → k ≤ 20 → 1 ≤ n → n ≤ 10 → @Ne Nat b l → (∀ p ∈ news, p.1 ≠ b) →
    dp + 1 < recursionLimit → un + 8 < cLine →
    (∀ (r : Int) (t t' : Tok) (h' : Heap) (tk' : Nat), 0 ≤ r → r < n → Fr h₀ L h' m → News h₀ L h' ((b, listOf [.ref l, .int (k + 1) t'].toArray c) :: (l, listOf ws.toArray c') :: news) → Q (.int r t) { s with heap := h', toks := tk' }) →
      wpAny (model Challenge.rw_xm0015_01.row.prog w) (ktrTop dp un gd cn cs L a ccd cl outer) (call (.ref 157) [.ref b, .int n u]) Q E s
theorem cut_c (w : World) (loose mean mg mb) (news : List (Addr × Obj)) (b l : Addr) (ws : List Value) (ns : List Int) (c c' : Nat) (k : Int) (t : Tok) (n : Int) (u : Tok) : CutC w loose mean mg mb news b l ws ns c c' k t n u := by
  k_with_none
  w_top off
  dsimp only [CutC]
  k_fill
  intros
  rename_i hret
  refine wpAny_call ?_
  k_dflt cell_enter
  k_steps
  all_goals (refine hret _ _ _ _ _ (Int.fmod_nonneg_of_pos _ (by omega)) (Int.fmod_lt_of_pos _ (by omega)) (by assumption) (by assumption))
theorem shuffled_c (w : World) (loose mean mg mb) (news : List (Addr × Obj)) (wa : Addr) (x : Str) (t : Tok) (b : Bool) : C 5 w loose mean mg mb 164 news ((x.length : Int) % 2 = 0 ∧ 4 ≤ x.length ∧ x.length ≤ 10) [.ref wa, .str x t, .bool b] (fun t => .str (shuf b x) t) := by
  k_with_none
  w_top off
  (k_with "call ref" => ((with_reducible show wpAny _ _ (call (Value.ref 128) _) _ _ _); refine use (text_joined_c _ _ _ _ _ _ _ _ _ _) ?_; intro t9 h9 tk9 F9 N9; (try dsimp only); (try k_fold)))
  (k_with "call ref" => ((with_reducible show wpAny _ _ (call (Value.ref 121) _) _ _ _); refine use (mid_c _ _ _ _ _ _ _ _ _ _ _ _ _ _) ?_; intro t9 h9 tk9 F9 N9; (try dsimp only); (try k_fold)))
  (k_with "call ref" => ((with_reducible show wpAny _ _ (call (Value.ref 114) _) _ _ _); refine use (right_c _ _ _ _ _ _ _ _ _ _ _ _ _) ?_; intro t9 h9 tk9 F9 N9; (try dsimp only); (try k_fold)))
  (k_with "call ref" => ((with_reducible show wpAny _ _ (call (Value.ref 107) _) _ _ _); refine use (left_c _ _ _ _ _ _ _ _ _ _ _ _ _) ?_; intro t9 h9 tk9 F9 N9; (try dsimp only); (try k_fold)))
  (k_with "pyIter ref" => ((rename Fr _ _ _ _ => lF'); (rename News _ _ _ _ => lN'); (rename IsRange _ _ _ _ _ _ _ _ => rgX); ((with_unfolding_all refine kst_rangeC (σ := Str × Nat) (fun _ => _) (fun c => [(Str.ofString "found", .str c.1 c.2)]) [Str.ofString "pair"] (ShufQ b x ((x.length : Int).fdiv 2)) (_, _) (by rfl) rgX (small_one (by omega) (by omega) (by omega) (by omega)) (size_half _ (by omega)) lF' lN' (by kst_all) (shufq_start _ _ _ _) ?_ ?_) <;> (clear lF' lN') <;> (first | (rintro ⟨a1, t1⟩ i k t u h tk own kEq kLt kOff ⟨kA, kB⟩ kFr kNews) | (rintro ⟨a1, t1⟩ u h tk ⟨kA, kB⟩ kFr kNews)) <;> (have kMark := kstMark) <;> (try dsimp only [kstB] at kFr) <;> (try dsimp only at kNews) <;> (try dsimp only at kA) <;> (try dsimp only at kB) <;> (try dsimp only at kC) <;> (try dsimp only at kD) <;> (try simp only [List.nil_append, List.cons_append, List.append_nil] at kNews) <;> (try k_fold))))
  (k_with "state" => first | exact shufq_turn (ahd_t (by assumption)) (bhd_t (by assumption)) (by assumption) (by assumption) (by assumption) | exact shufq_turn (ahd_f (by first | assumption | exact Bool.eq_false_iff.mpr (by assumption))) (bhd_f (by first | assumption | exact Bool.eq_false_iff.mpr (by assumption))) (by assumption) (by assumption) (by assumption))
  dsimp only [C]
  k_fill
  intro dp un gd cn cs a ccd cl outer A₀ base h₀ L m s Q E B F X N T hk hp hdp hun hret
  have hh := half_is x hp.1
  have hl1 := lft_len x ((x.length : Int).fdiv 2) (by omega) (by omega)
  have hr1 := rgt_len x ((x.length : Int).fdiv 2) (by omega) (by omega)
  refine wpAny_call ?_
  k_dflt cell_enter
  k_steps
  all_goals refine cb_retS (Q := Q) hret ?_ (by assumption) (cb_drop (by assumption) (by kcj_all))
  all_goals exact shufq_end hh (by assumption)
theorem due_c (w : World) (loose mean mg mb) (news : List (Addr × Obj)) (x : Str) (t : Tok) (b : Bool) : C 1 w loose mean mg mb 178 news ((x.length : Int) % 2 = 0 ∧ 4 ≤ x.length ∧ x.length ≤ 10) [.str x t, .bool b] (fun t => .str (shuf b x) t) := by
  k_with_none
  w_top off
  (k_with "call type:list" => (refine list_of_str (by rfl) (by k_asm) (by k_asm) (by omega) ?_; intro D' c' p' h' tk' F' N' l1 hps'; (try k_lt l1); (try k_sweep)))
  (k_with "setItem ref int" => (refine set_txt (by k_asm) (by k_asm) (by k_upd) (by omega) (by first | omega | exact (goal_in _ _ (by assumption) (by omega) (by omega) (by omega) (by omega)).1 | exact (goal_lo _ _ (by omega) (by omega)).1) (by (rename List.length _ = Str.length _ => hl9; rw [hl9]); first | omega | exact (goal_in _ _ (by assumption) (by omega) (by omega) (by omega) (by omega)).2 | exact (goal_lo _ _ (by omega) (by omega)).2) ?_; intro h' F' N'; (try k_sweep)))
  (k_with "call builtin:str.join" => (refine join_of (by k_asm) (by k_mem) (by assumption) (by rw [dueL_len, ← len_is]; omega) ?_; intro t' k'))
  (k_with "pyIter ref" => ((rename List.map _ _ = List.map _ _ => hps9); (rename Fr _ _ _ _ => lF'); (rename News _ _ _ _ => lN'); (rename IsRange _ _ _ _ _ _ _ _ => rgX); ((with_unfolding_all refine kst_rangeC (σ := List (Str × Nat)) (fun c => (_, { cls := Value.type "tuple", data := _ }) :: (_, listOf (strValues c).toArray _) :: _) (fun _ => []) [Str.ofString "goal"] (DueP b x) _ (by rfl) rgX (small_zero _ hp10) (size_one _) lF' lN' (by kst_all) (due_start hps9) ?_ ?_) <;> (clear lF' lN') <;> (first | (rintro c i k t u h tk own kEq kLt kOff ⟨kA, kB⟩ kFr kNews) | (rintro c u h tk ⟨kA, kB⟩ kFr kNews)) <;> (have kMark := kstMark) <;> (try dsimp only [kstB] at kFr) <;> (try dsimp only at kNews) <;> (try dsimp only at kA) <;> (try dsimp only at kB) <;> (try dsimp only at kC) <;> (try dsimp only at kD) <;> (try simp only [List.nil_append, List.cons_append, List.append_nil] at kNews) <;> (try k_fold))))
  (k_with "state" => first | exact due_in (by assumption) (by assumption) (by assumption) (by assumption) (by assumption) | exact due_lo (by first | assumption | exact Bool.eq_false_iff.mpr (by assumption)) (by assumption) (by assumption) (by assumption) (by assumption) (by assumption) | exact due_hi (by first | assumption | exact Bool.eq_false_iff.mpr (by assumption)) (by assumption) (by assumption) (by assumption) (by assumption) (by assumption))
  dsimp only [C]
  k_fill
  intro dp un gd cn cs a ccd cl outer A₀ base h₀ L m s Q E B F X N T hk hp hdp hun hret
  obtain ⟨hp0, hp4, hp10⟩ := hp
  refine wpAny_call ?_
  k_dflt cell_enter
  k_steps
  all_goals refine cb_retS (Q := Q) hret ?_ (by assumption) (cb_drop (by assumption) (by kcj_all))
  all_goals exact due_end _ _ hp0 hp4 hp10
theorem picked_c (w : World) (loose mean mg mb) (news : List (Addr × Obj)) (wa : Addr) (x : Str) (t : Tok) (b : Bool) : C 5 w loose mean mg mb 171 news ((x.length : Int) % 2 = 0 ∧ 4 ≤ x.length ∧ x.length ≤ 10) [.ref wa, .str x t, .bool b] (fun t => .str (pick b x) t) := by
  k_with_none
  w_top off
  (k_with "call ref" => ((with_reducible show wpAny _ _ (call (Value.ref 128) _) _ _ _); refine use (text_joined_c _ _ _ _ _ _ _ _ _ _) ?_; intro t9 h9 tk9 F9 N9; (try dsimp only); (try k_fold)))
  (k_with "call ref" => ((with_reducible show wpAny _ _ (call (Value.ref 121) _) _ _ _); refine use (mid_c _ _ _ _ _ _ _ _ _ _ _ _ _ _) ?_; intro t9 h9 tk9 F9 N9; (try dsimp only); (try k_fold)))
  (k_with "pyIter ref" => ((rename Fr _ _ _ _ => lF'); (rename News _ _ _ _ => lN'); (rename IsRange _ _ _ _ _ _ _ _ => rgX); ((with_unfolding_all refine kst_rangeC (σ := Str × Nat × Str × Nat) (fun _ => _) (fun c => [(Str.ofString "ahead", .str c.1 c.2.1), (Str.ofString "behind", .str c.2.2.1 c.2.2.2)]) [] (PickP x) (_, _, _, _) (by rfl) rgX (small_two _ hp0 hp4 hp10) (size_two _ hp0 hp4) lF' lN' (by kst_all) (pick_start _ _ _) ?_ ?_) <;> (clear lF' lN') <;> (first | (rintro ⟨a1, t1, a2, t2⟩ i k t u h tk own kEq kLt kOff ⟨kA, kB, kC, kD⟩ kFr kNews) | (rintro ⟨a1, t1, a2, t2⟩ u h tk ⟨kA, kB, kC, kD⟩ kFr kNews)) <;> (have kMark := kstMark) <;> (try dsimp only [kstB] at kFr) <;> (try dsimp only at kNews) <;> (try dsimp only at kA) <;> (try dsimp only at kB) <;> (try dsimp only at kC) <;> (try dsimp only at kD) <;> (try simp only [List.nil_append, List.cons_append, List.append_nil] at kNews) <;> (try k_fold))))
  (k_with "state" => exact pick_turn (by assumption) (by assumption) (by assumption) (by assumption) (by assumption))
  dsimp only [C]
  k_fill
  intro dp un gd cn cs a ccd cl outer A₀ base h₀ L m s Q E B F X N T hk hp hdp hun hret
  obtain ⟨hp0, hp4, hp10⟩ := hp
  refine wpAny_call ?_
  k_dflt cell_enter
  k_steps
  all_goals refine cb_retS (Q := Q) hret ?_ (by assumption) (cb_drop (by assumption) (by kcj_all))
  all_goals (simp only [Bool.not_eq_true] at *)
  all_goals first | exact pick_t (by assumption) (by assumption) (by assumption) | exact pick_f (by assumption) (by assumption) (by assumption) | exact pick_t rfl (by assumption) (by assumption) | exact pick_f rfl (by assumption) (by assumption)
theorem found_c (w : World) (loose mean mg mb) (news : List (Addr × Obj)) (x y : Str) (t u v : Tok) : C 1 w loose mean mg mb 93 news (y.length = 1 ∧ 4 ≤ x.length ∧ x.length ≤ 10) [.str x t, .str y u, .int 1 v] (fun t => .int (instr x y) t) := by
  k_with_none
  w_top off
  (k_with "pyIter ref" => ((rename Fr _ _ _ _ => lF'); (rename News _ _ _ _ => lN'); (rename IsRange _ _ _ _ _ _ _ _ => rgX); ((with_unfolding_all refine kst_rangeC (σ := Unit) (fun _ => _) (fun _ => []) [] (FindP x y) () (by rfl) rgX (small_one (by omega) (by omega) (by omega) (by omega)) (rangeSize_nat _ _) lF' lN' (by kst_all) (find_start _ _) ?_ ?_) <;> (clear lF' lN') <;> (first | (rintro ⟨⟩ i k t u h tk own kEq kLt kOff kA kFr kNews) | (rintro ⟨⟩ u h tk kA kFr kNews)) <;> (have kMark := kstMark) <;> (try dsimp only [kstB] at kFr) <;> (try dsimp only at kNews) <;> (try dsimp only at kA) <;> (try dsimp only at kB) <;> (try dsimp only at kC) <;> (try dsimp only at kD) <;> (try simp only [List.nil_append, List.cons_append, List.append_nil] at kNews) <;> (try k_fold))))
  (k_with "state" => exact find_turn (by assumption) (by assumption) (by assumption))
  dsimp only [C]
  k_fill
  intro dp un gd cn cs a ccd cl outer A₀ base h₀ L m s Q E B F X N T hk hp hdp hun hret
  obtain ⟨hp1, hp4, hp10⟩ := hp
  refine wpAny_call ?_
  k_dflt cell_enter
  k_steps
  all_goals first | exact cb_retI (Q := Q) hret (find_hit (by assumption) (by assumption) (by assumption) hp1 (by assumption)) (by assumption) (cb_drop (by assumption) (by kcj_all)) | exact cb_retI (Q := Q) hret (find_miss hp1 (by assumption)) (by assumption) (cb_drop (by assumption) (by kcj_all))
theorem instr_c (w : World) (loose mean mg mb) (news : List (Addr × Obj)) (wa l : Addr) (x y : Str) (t u : Tok) (c : Nat) : C 3 w loose mean mg mb 100 ((l, listOf [.str x t, .str y u].toArray c) :: news) (y.length = 1 ∧ 4 ≤ x.length ∧ x.length ≤ 10) [.ref wa, .ref l] (fun t => .int (instr x y) t) := by
  k_with_none
  w_top off
  (k_with "call ref" => ((with_reducible show wpAny _ _ (call (Value.ref 65) _) _ _ _); refine use (text_of_c _ _ _ _ _ _ _ _) ?_; intro t9 h9 tk9 F9 N9; (try dsimp only); (try k_fold)))
  (k_with "call ref" => ((with_reducible show wpAny _ _ (call (Value.ref 93) _) _ _ _); refine use (found_c _ _ _ _ _ _ _ _ _ _ _) ?_; intro t9 h9 tk9 F9 N9; (try dsimp only); (try k_fold)))
  dsimp only [C]
  k_fill
  intro dp un gd cn cs a ccd cl outer A₀ base h₀ L m s Q E B F X N T hk hp hdp hun hret
  obtain ⟨hp1, hp4, hp10⟩ := hp
  refine wpAny_call ?_
  k_dflt cell_enter
  k_steps
  all_goals exact cb_retI (Q := Q) hret rfl (by assumption) (cb_drop (by assumption) (by kcj_all))
theorem useCut {w : World} {loose : List Str} {mean : ExcName → Option Value} {mg mb : Str → Option Value} {news : List (Addr × Obj)} {b l : Addr} {ws : List Value} {ns : List Int} {c c' : Nat} {k : Int} {t : Tok} {n : Int} {u : Tok}
    {dp un : Nat} {gd : Option (List Code)} {cn : Str} {cs : Scope} {a : Addr} {ccd : Value} {cl : List (Str × Addr)} {outer : List Env} {A₀ : Around} {base h₀ : Heap} {L : Addr} {m : Str → Option Value} {s : Shared} {Q E : Value → Shared → Prop}
    (N : News h₀ L s.heap ((b, listOf [.ref l, .int k t].toArray c) :: (l, listOf ws.toArray c') :: news))
    (ret : ∀ (r : Int) (t t' : Tok) (h' : Heap) (tk' : Nat), 0 ≤ r → r < n → Fr h₀ L h' m → News h₀ L h' ((b, listOf [.ref l, .int (k + 1) t'].toArray c) :: (l, listOf ws.toArray c') :: news) → Q (.int r t) { s with heap := h', toks := tk' })
    (B : Below A₀ base outer h₀ := by k_asm) (F : Fr h₀ L s.heap m := by k_asm) (X : (hd.heap_39 w.params).In h₀ := by k_asm) (T : Top hd.view_39 loose mean mg mb h₀ := by k_asm) (hk : cs.kind = .function := by first | exact rfl | assumption)
    (hi : IntsAre ws ns := by assumption) (h6 : ns.length ≤ 6 := by first | exact List.length_take_le _ _ | omega) (h0 : 0 ≤ k ∧ k ≤ 20 := by first | decide | omega) (h1 : 1 ≤ n ∧ n ≤ 10 := by first | decide | omega) (hne : @Ne Nat b l := by first | exact Nat.ne_of_gt (by assumption) | omega) (hoff : ∀ p ∈ news, p.1 ≠ b := by first | exact List.forall_mem_nil _ | k_all) (hd : dp + 1 < recursionLimit := by ktr_room) (hu : un + 8 < cLine := by ktr_units) :
    wpAny (model Challenge.rw_xm0015_01.row.prog w) (ktrTop dp un gd cn cs L a ccd cl outer) (call (.ref 157) [.ref b, .int n u]) Q E s :=
  cut_c w loose mean mg mb news b l ws ns c c' k t n u _ _ _ _ _ _ _ _ _ _ _ _ _ _ _ _ _ B F X N T hk hi h6 h0.1 h0.2 h1.1 h1.2 hne hoff hd hu ret

abbrev Led3 (fa : Addr) (vs : List Value) (b l : Addr) (n0 : Nat) (q : Int) (t : Tok) (ws : List Value) (c' : Nat) (_ : Str × Nat × Int × Nat) : List (Addr × Obj) := [(fa, listOf vs.toArray 0), (b, listOf [.ref l, .int q t].toArray n0), (l, listOf ws.toArray c')]
theorem ksw_endO {σ : Type} {h₀ : Heap} {L : Addr} {s : Shared} {Led : σ → List (Addr × Obj)} {ps : σ → List (Str × Value)} {stored : List Str} {m₀ m' : Str → Option Value} {P : σ → Prop} {μ : σ → Nat} {c : σ} {h' : Heap} {tk : Nat} {news' : List (Addr × Obj)} (c' : σ)
    (F : Fr h₀ L h' m') (hk : ∀ p ∈ ps c', m' p.1 = some p.2) (N : News h₀ L h' news') (hn : ∀ p ∈ Led c', p ∈ news') (hr : ∀ z, (∀ p ∈ ps c', z ≠ p.1) → stored.contains z = false → m' z = m₀ z) (hp : P c') (hm : μ c' < μ c) :
    KswEnd h₀ L s Led ps (fun _ => True) stored m₀ P μ c { s with heap := h', toks := tk } := ksw_end c' F N hn trivial hk hr hp hm
abbrev Led2 (b l : Addr) (n0 : Nat) (q : Int) (t : Tok) (ws : List Value) (c' : Nat) (c : Int × Nat × Nat × List Value × List Int) : List (Addr × Obj) := [(c.2.2.1, listOf c.2.2.2.1.toArray 0), (b, listOf [.ref l, .int q t].toArray n0), (l, listOf ws.toArray c')]
abbrev Led1 (b l : Addr) (n0 : Nat) (ws : List Value) (c' : Nat) (c : Str × Nat × Int × Nat) : List (Addr × Obj) := [(b, listOf [.ref l, .int c.2.2.1 c.2.2.2].toArray n0), (l, listOf ws.toArray c')]
theorem picked2_c (w : World) (loose mean mg mb) (news : List (Addr × Obj)) (wa : Addr) (y : Str) (t : Tok) (b : Bool) : C 5 w loose mean mg mb 171 news ((y.length : Int) % 2 = 0 ∧ 4 ≤ y.length ∧ y.length ≤ 10) [.ref wa, .str (shuf b y) t, .bool b] (fun t => .str y t) :=
  C_conv (picked_c w loose mean mg mb news wa (shuf b y) t b) (fun h => by rw [shuf_len b y h.1]; exact h) fun h t => by rw [pick_shuf b y h.1 h.2.1 h.2.2]
theorem main0 : PySem.Challenge.rw_xm0015_01.Holds := hd (by
  k_with_none
  (k_with "call ref" => ((with_reducible show wpAny _ _ (call (Value.ref 164) _) _ _ _); refine use (shuffled_c _ _ _ _ _ _ _ _ _ _) ?_; intro t9 h9 tk9 F9 N9; (try dsimp only); (try k_fold)))
  (k_with "call ref" => ((with_reducible show wpAny _ _ (call (Value.ref 178) _) _ _ _); refine use (due_c _ _ _ _ _ _ _ _ _) ?_; intro t9 h9 tk9 F9 N9; (try dsimp only); (try k_fold)))
  (k_with "call ref" => ((with_reducible show wpAny _ _ (call (Value.ref 171) _) _ _ _); refine use (picked2_c _ _ _ _ _ _ _ _ _ _) ?_; intro t9 h9 tk9 F9 N9; (try dsimp only); (try k_fold)))
  (k_with "call ref" => ((with_reducible show wpAny _ _ (call (Value.ref 100) _) _ _ _); refine use (instr_c _ _ _ _ _ _ _ _ _ _ _ _ _) ?_; intro t9 h9 tk9 F9 N9; (try dsimp only); (try k_fold)))
  (k_with "call ref" => refine call_is 157 rfl ?_)
  (k_with "pyIter ref" => refine hold_in ?_)
  (k_with "exec While" => refine hold_in ?_)
  (k_with "KswEnd" => refine hold_in ?_)
  (k_with "InvEndN" => refine hold_in ?_)
  k_go0
  (all_goals try k_fold)
  k_steps
  unfold Hold
  k_dflt refine useCut (news := []) (cb_drop (by assumption) (List.forall_mem_cons.mpr ⟨by k_mem, List.forall_mem_cons.mpr ⟨by k_mem, List.forall_mem_nil _⟩⟩)) ?_
  intro r t9 u9 h9 tk9 hr0 hr1 F9 N9
  (repeat (rename Obj.IsDictOf _ _ _ => hz; clear hz))
  (repeat (rename PyProof.V.FlatPairs _ _ _ => hz; clear hz))
  (repeat (rename (_ == sysModules) = false => hz; clear hz))
  (repeat (rename _ ∧ _ => hz; clear hz))
  (try dsimp only); (try k_sweep); (try k_fold)
  k_steps
  unfold Hold
  rename Fr _ _ _ _ => lF'
  rename News _ _ _ _ => lN'
  rename IsRange _ _ _ _ _ _ _ _ => rgX
  with_unfolding_all refine kst_rangeC (σ := Str × Nat × Int × Nat) (n := 3) (Led1 _ _ _ _ _) (fun c => [(Str.ofString "here", .str c.1 c.2.1)]) [Str.ofString "is_in", Str.ofString "there"] P1 (_, _, _, _) (by rfl) rgX (by decide) (by rfl) lF' lN' (by kst_all) (p1_start hr0 hr1 rfl) ?_ ?_
  · clear lF' lN'
    rintro ⟨x, xt, q, qt⟩ i k t u h tk own kEq kLt kOff ⟨kA, kB, kC, kD⟩ kFr kNews
    have kMark := kstMark
    (try dsimp only [kstB] at kFr)
    (try dsimp only [Led1] at kNews)
    (try dsimp only at kA)
    (try dsimp only at kB)
    (try dsimp only at kC)
    (try dsimp only at kD)
    (try simp only [List.nil_append, List.cons_append, List.append_nil] at kNews)
    (try k_fold)
    k_steps
    unfold Hold
    k_dflt refine useCut (by assumption) ?_
    intro b1 t9 u9 h9 tk9 hb0 hb1 F9 N9
    (try dsimp only); (try k_sweep); (try k_fold)
    k_steps
    · unfold Hold
      rename News _ _ _ _ => nE'
      refine kst_end ⟨shuf (b1 == 1) x, _, q + 1, _⟩ (by assumption) nE' (by first | kst_in | kst_inAny) (by first | (intro p hp; kst_mem) | kst_anyIn) (by rfl) (by kst_facts) (List.forall_mem_cons.mpr ⟨by with_unfolding_all rfl, List.forall_mem_nil _⟩) (by kst_same) (p1_turn kA kB kC kD)
  · clear lF' lN'
    rintro ⟨x, xt, q, qt⟩ u h tk ⟨kA, kB, kC, kD⟩ kFr kNews
    have kMark := kstMark
    (try dsimp only [kstB] at kFr)
    (try dsimp only [Led1] at kNews)
    (try dsimp only at kA)
    (try dsimp only at kB)
    (try dsimp only at kC)
    (try dsimp only at kD)
    (try simp only [List.nil_append, List.cons_append, List.append_nil] at kNews)
    (try k_fold)
    k_steps
    unfold Hold
    k_dflt refine useCut (news := []) (cb_drop (by assumption) (List.forall_mem_cons.mpr ⟨by k_mem, List.forall_mem_cons.mpr ⟨by k_mem, List.forall_mem_nil _⟩⟩)) ?_
    intro left t9 u9 h9 tk9 hl0 hl1 F9 N9
    (try dsimp only); (try k_sweep); (try k_fold)
    k_steps
    unfold Hold
    rename Fr _ _ _ _ => lF'
    rename News _ _ _ _ => lN'
    with_unfolding_all refine ksw_while (σ := Int × Nat × Nat × List Value × List Int) (Led2 _ _ _ _ _ _ _) (fun c => [(Str.ofString "left", .int c.1 c.2.1), (Str.ofString "figures", .ref c.2.2.1)]) (fun _ => True) [] (P2 left) (fun c => c.1.toNat) (left, _, _, [], []) lF' (cb_drop lN' (List.forall_mem_cons.mpr ⟨by k_mem, List.forall_mem_cons.mpr ⟨by k_mem, List.forall_mem_cons.mpr ⟨by k_mem, List.forall_mem_nil _⟩⟩⟩)) trivial (by kst_all) (p2_start hl0) ?_
    clear lF' lN'
    rintro ⟨lf, lt, fa, vs, bs⟩ u h tk - ⟨kA, kB, kC, kD, kE⟩ kFr kNews
    dsimp only [kstB] at kFr
    dsimp only [Led2] at kNews
    dsimp only at kA kB kC kD kE
    k_fold
    have hleft : left < 10 := by omega
    k_steps
    · unfold Hold
      refine ksw_endO (lf.fdiv 2, _, _, _, [lf.fmod 2] ++ bs) (by assumption) (by kst_all) (by assumption) (List.forall_mem_cons.mpr ⟨by k_mem, List.forall_mem_cons.mpr ⟨by k_mem, List.forall_mem_cons.mpr ⟨by k_mem, List.forall_mem_nil _⟩⟩⟩) (by ksw_same) (p2_turn kA kB kC kD kE (by assumption) hleft (by assumption)) (half_less (by assumption))
    · have hlf : lf = 0 := by omega
      have hval : val bs = left := by rw [hlf, Int.zero_mul, Int.zero_add] at kD; exact kD
      unfold Hold
      rename Fr _ _ _ _ => lF'
      rename News _ _ _ _ => lN'
      with_unfolding_all refine kst_listL (σ := Str × Nat × Int × Nat) (vs := vs) (ns := bs) (nn := 0) (Led3 fa vs _ _ _ _ _ _ _) (fun c => [(Str.ofString "here", .str c.1 c.2.1), (Str.ofString "front", .int c.2.2.1 c.2.2.2)]) (fun _ => True) [] (P3 (dk (4 + 2 * r))) (dk (4 + 2 * r), _, 0, _) (by rfl) (fun _ => List.Mem.head _) (by assumption) lF' lN' trivial (by kst_all) ⟨rfl, rfl⟩ ?_ ?_
      · clear lF' lN'
        rintro ⟨x3, t3, fr, tf⟩ pre post n t u h tk own kEq kMem kOff - ⟨kF, kG⟩ kFr kNews
        have kMark := kstMark
        (try dsimp only [kstB] at kFr)
        (try dsimp only [Led3] at kNews)
        (try dsimp only at kF)
        (try dsimp only at kG)
        (try simp only [List.nil_append, List.cons_append, List.append_nil] at kNews)
        have hE := elm3 hr0 hr1 kB kE hval hl1 kEq kF kG
        have hd3 := dk_facts hr0 hr1
        have hx3 := len3 hr0 hr1 kF
        have hy3 := shuf3 (n == 1) hx3
        unfold dk at hE hd3
        (try k_fold)
        k_steps
        · unfold Hold
          rename News _ _ _ _ => nE'
          refine kst_end ⟨shuf (n == 1) x3, _, 2 * fr + n, _⟩ (by assumption) nE' (by first | kst_in | kst_inAny) (by first | (intro p hp; kst_mem) | kst_anyIn) (by rfl) (by kst_facts) (List.forall_mem_cons.mpr ⟨by with_unfolding_all rfl, List.forall_mem_cons.mpr ⟨by with_unfolding_all rfl, List.forall_mem_nil _⟩⟩) (by kst_same) (p3_turn kF kG)
      · clear lF' lN'
        rintro ⟨x3, t3, fr, tf⟩ u h tk - ⟨kF, kG⟩ kFr kNews
        have kMark := kstMark
        (try dsimp only [kstB] at kFr)
        (try dsimp only [Led3] at kNews)
        (try k_fold)
        k_steps
        unfold Hold
        k_dflt refine useCut (news := []) (cb_drop (by assumption) (List.forall_mem_cons.mpr ⟨by k_mem, List.forall_mem_cons.mpr ⟨by k_mem, List.forall_mem_nil _⟩⟩)) ?_
        intro b3 t9 u9 h9 tk9 hb0 hb1 F9 N9
        (try dsimp only); (try k_sweep); (try k_fold)
        k_steps
        unfold Hold
        rename Fr _ _ _ _ => lF'
        rename News _ _ _ _ => lN'
        rename IsRange _ _ _ _ _ _ _ _ => rgX
        clear lN'
        generalize hbb : (b3 == 1) = bb at lF'
        cases bb
        · with_unfolding_all refine kst_rangeC (σ := Str × Nat × Int × Nat) (n := (4 + 2 * r).toNat) (fun _ => []) (fun c => [(Str.ofString "here", .str c.1 c.2.1), (Str.ofString "power", .int c.2.2.1 c.2.2.2)]) [] (P4 false (4 + 2 * r)) (dk (4 + 2 * r), _, 1, _) (by rfl) rgX (small_one (by omega) (by omega) (by omega) (by omega)) (by rw [rangeSize_nat, Int.sub_zero]) lF' News.nil (by kst_all) p4_start ?_ ?_
          · clear lF'
            rintro ⟨x4, t4, pp, t5⟩ i k t u h tk own kEq kLt kOff ⟨kF, kG, kH⟩ kFr kNews
            have kMark := kstMark
            (try dsimp only [kstB] at kFr)
            (try dsimp only at kF)
            (try dsimp only at kG)
            (try simp only [List.nil_append] at kNews)
            have hx4 := len4 hr0 hr1 kF
            have hd4 := dk_facts hr0 hr1
            have hR := round4 (m := 4 + 2 * r - 1) hr0 hr1 kLt (by simp) kF kG
            unfold dk at hR hd4
            (try k_fold)
            k_steps
            · unfold Hold
              rename News _ _ _ _ => nE'
              refine kst_end ⟨shuf false x4, _, (2 * pp).fmod (4 + 2 * r - 1), _⟩ (by assumption) nE' (List.forall_mem_nil _) (by first | (intro p hp; kst_mem) | kst_anyIn) (by rfl) (by kst_facts) (List.forall_mem_cons.mpr ⟨by with_unfolding_all rfl, List.forall_mem_cons.mpr ⟨by with_unfolding_all rfl, List.forall_mem_nil _⟩⟩) (by kst_same) (p4_turn (by simp) kF kG kH (beq_eq_false_iff_ne.mpr (by assumption)))
          · rintro ⟨x4, t4, pp, t5⟩ u h tk ⟨kF, kG, kH⟩ kFr kNews
            exact absurd kH (fun z => ends4 hr0 hr1 z)
        · with_unfolding_all refine kst_rangeC (σ := Str × Nat × Int × Nat) (n := (4 + 2 * r).toNat) (fun _ => []) (fun c => [(Str.ofString "here", .str c.1 c.2.1), (Str.ofString "power", .int c.2.2.1 c.2.2.2)]) [] (P4 true (4 + 2 * r)) (dk (4 + 2 * r), _, 1, _) (by rfl) rgX (small_one (by omega) (by omega) (by omega) (by omega)) (by rw [rangeSize_nat, Int.sub_zero]) lF' News.nil (by kst_all) p4_start ?_ ?_
          · clear lF'
            rintro ⟨x4, t4, pp, t5⟩ i k t u h tk own kEq kLt kOff ⟨kF, kG, kH⟩ kFr kNews
            have kMark := kstMark
            (try dsimp only [kstB] at kFr)
            (try dsimp only at kF)
            (try dsimp only at kG)
            (try simp only [List.nil_append] at kNews)
            have hx4 := len4 hr0 hr1 kF
            have hd4 := dk_facts hr0 hr1
            have hR := round4 (m := 4 + 2 * r + 1) hr0 hr1 kLt (by simp) kF kG
            unfold dk at hR hd4
            (try k_fold)
            k_steps
            · unfold Hold
              rename News _ _ _ _ => nE'
              refine kst_end ⟨shuf true x4, _, (2 * pp).fmod (4 + 2 * r + 1), _⟩ (by assumption) nE' (List.forall_mem_nil _) (by first | (intro p hp; kst_mem) | kst_anyIn) (by rfl) (by kst_facts) (List.forall_mem_cons.mpr ⟨by with_unfolding_all rfl, List.forall_mem_cons.mpr ⟨by with_unfolding_all rfl, List.forall_mem_nil _⟩⟩) (by kst_same) (p4_turn (by simp) kF kG kH (beq_eq_false_iff_ne.mpr (by assumption)))
          · rintro ⟨x4, t4, pp, t5⟩ u h tk ⟨kF, kG, kH⟩ kFr kNews
            exact absurd kH (fun z => ends4 hr0 hr1 z))
end Mine
theorem PySem.Challenge.cw_xm0015_01_holds : PySem.Challenge.rw_xm0015_01.Holds := by
  exact Mine.main0
