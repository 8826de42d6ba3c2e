/- Part 4 of 7 of a proof: the logic Av, contracts of functions. -/
import Derived.Test.YtbkbaphmpkapmaaGreatAvC
import Derived.Shelf.Small.Strs
import Derived.Shelf.Strings.Search1
import Derived.Shelf.Sort.Plain
import Derived.Shelf.Slices.Reverse
import Derived.Ground.Names2Prog
import Derived.Shelf.Slices.CompactI
import Derived.Shelf.Slices.In.SortNone
import Derived.Test.YtbkbaphmpkapmaaGreatProg
import Derived.Sort.OwnSortedInts
import Derived.WalkKit
import Derived.Laws.AppendOwn
set_option linter.unusedVariables false
set_option maxRecDepth 100000
/- Small lists made out of lists. -/
namespace Go.Av.Z
open Go.Proofs

theorem c62 (l : List Int) (n : Int) : Con P 62 [] [.slice 1 (nums l), .int .i64 n] (.int .i64 (plc l n)) [] := by
  refine go Tryz.func62 (by rfl) rfl rfl rfl fun hl => ?_
  (conv => whnf); repeat (first | (refine w ?_; conv => whnf) | (refine ⟨fun h => absurd h Bool.false_ne_true, fun _ => ?_⟩; conv => whnf) | (refine ⟨fun _ => ?_, fun h => absurd h.symm Bool.false_ne_true⟩; conv => whnf))
  have hn : l.length ≤ 9223372036854775807 := len_nums (rest := []) (fun n h => hl n (by simpa [lensL, lens] using h))
  refine loop (fun i : Nat => mkSt [(8, .int .i64 i), (7, .int .i64 l.length), (0, .slice 1 (nums l)), (1, .int .i64 n)] []) (fun i => i ≤ l.length ∧ ∀ j y, j < i → l[j]? = some y → (y == n) = false) (fun i => l.length - i) 0 ⟨Nat.zero_le _, fun j y h => by omega⟩
    (le_of [] rfl rfl rfl ⟨rfl, by rw [nums_len]; rfl, rfl, rfl, trivial⟩ trivial) ?_
  rintro i ⟨hi, hno⟩
  (conv => whnf); repeat (first | (refine w ?_; conv => whnf) | (refine ⟨fun h => absurd h Bool.false_ne_true, fun _ => ?_⟩; conv => whnf) | (refine ⟨fun _ => ?_, fun h => absurd h.symm Bool.false_ne_true⟩; conv => whnf))
  refine ⟨fun hlt => ?_, fun hge => ?_⟩
  · have hlt := of_lt hlt
    have hx : l[i]? = some l[i] := List.getElem?_eq_getElem hlt
    generalize l[i] = x at hx
    (conv => whnf); repeat (first | (refine w ?_; conv => whnf) | (refine ⟨fun h => absurd h Bool.false_ne_true, fun _ => ?_⟩; conv => whnf) | (refine ⟨fun _ => ?_, fun h => absurd h.symm Bool.false_ne_true⟩; conv => whnf))
    refine ⟨by omega, _, nums_at hx, ?_⟩
    (conv => whnf); repeat (first | (refine w ?_; conv => whnf) | (refine ⟨fun h => absurd h Bool.false_ne_true, fun _ => ?_⟩; conv => whnf) | (refine ⟨fun _ => ?_, fun h => absurd h.symm Bool.false_ne_true⟩; conv => whnf))
    have hsw : (x == n) = (n == x) := by rw [Bool.eq_iff_iff]; simp; exact eq_comm
    refine ⟨fun h3 => ?_, fun h3 => ?_⟩
    · (conv => whnf); repeat (first | (refine w ?_; conv => whnf) | (refine ⟨fun h => absurd h Bool.false_ne_true, fun _ => ?_⟩; conv => whnf) | (refine ⟨fun _ => ?_, fun h => absurd h.symm Bool.false_ne_true⟩; conv => whnf))
      refine fin_frz TT ?_ rfl
      rw [plc, idx_some hno hx (hsw.trans h3)]; rfl
    · (conv => whnf); repeat (first | (refine w ?_; conv => whnf) | (refine ⟨fun h => absurd h Bool.false_ne_true, fun _ => ?_⟩; conv => whnf) | (refine ⟨fun _ => ?_, fun h => absurd h.symm Bool.false_ne_true⟩; conv => whnf))
      exact ⟨i + 1, ⟨hlt, none_upto (p := fun y => y == n) hno hx (hsw.trans h3)⟩, by show l.length - (i + 1) < l.length - i; omega, le_of [] rfl rfl rfl ⟨step_num hlt hn, rfl, rfl, rfl, trivial⟩ trivial⟩
  · have hge := of_ge hge
    (conv => whnf); repeat (first | (refine w ?_; conv => whnf) | (refine ⟨fun h => absurd h Bool.false_ne_true, fun _ => ?_⟩; conv => whnf) | (refine ⟨fun _ => ?_, fun h => absurd h.symm Bool.false_ne_true⟩; conv => whnf))
    refine fin_frz TT ?_ rfl
    rw [plc, idx_none (none_all hno (by omega))]; rfl
theorem plc_contains (l : List Int) (n : Int) : decide (0 ≤ plc l n) = l.contains n := by
  rw [plc, idx_any]
  rw [Bool.eq_iff_iff]
  simp
theorem c29 (l : List Int) (n : Int) : Con P 29 [] [.slice 1 (nums l), .int .i64 n] (.bool (l.contains n)) [] := by
  refine go Tryz.func29 (by rfl) rfl rfl rfl fun hl => ?_
  (conv => whnf); repeat (first | (refine w ?_; conv => whnf) | (refine ⟨fun h => absurd h Bool.false_ne_true, fun _ => ?_⟩; conv => whnf) | (refine ⟨fun _ => ?_, fun h => absurd h.symm Bool.false_ne_true⟩; conv => whnf))
  refine ⟨_, _, c62 l n, ?_⟩
  (conv => whnf); repeat (first | (refine w ?_; conv => whnf) | (refine ⟨fun h => absurd h Bool.false_ne_true, fun _ => ?_⟩; conv => whnf) | (refine ⟨fun _ => ?_, fun h => absurd h.symm Bool.false_ne_true⟩; conv => whnf))
  refine fin_frz TT ?_ rfl
  rw [← plc_contains]; rfl
theorem take_of_all {α : Type} {l : List α} {i : Nat} (h : ¬ i < l.length) : l.take i = l := List.take_of_length_le (by omega)

/-- The places of numbers in a list. -/
theorem c117 (l m : List Int) (hm : m.length ≤ 1099511627776) : Con P 117 [] [.slice 1 (nums l), .slice 1 (nums m)] (.slice 1 (nums (m.map (plc l)))) [] := by
  refine go Tryz.func117 (by rfl) rfl rfl rfl fun hl => ?_
  (conv => whnf); repeat (first | (refine w ?_; conv => whnf) | (refine ⟨fun h => absurd h Bool.false_ne_true, fun _ => ?_⟩; conv => whnf) | (refine ⟨fun _ => ?_, fun h => absurd h.symm Bool.false_ne_true⟩; conv => whnf))
  refine loop (fun i : Nat => mkSt [(11, .int .i64 i), (10, .int .i64 m.length), (9, .slice 1 (nums m)), (5, .ref 0), (0, .slice 1 (nums l))] [.row 3 1 (nums ((m.take i).map (plc l)))]) (fun i => i ≤ m.length) (fun i => m.length - i) 0 (Nat.zero_le _)
    (le_of [1] rfl rfl rfl ⟨rfl, by rw [nums_len]; rfl, rfl, rfl, rfl, trivial⟩ ⟨rfl, trivial⟩) ?_
  intro i hi
  (conv => whnf); repeat (first | (refine w ?_; conv => whnf) | (refine ⟨fun h => absurd h Bool.false_ne_true, fun _ => ?_⟩; conv => whnf) | (refine ⟨fun _ => ?_, fun h => absurd h.symm Bool.false_ne_true⟩; conv => whnf))
  refine ⟨fun hlt => ?_, fun hge => ?_⟩
  · have hlt := of_lt hlt
    have hx : m[i]? = some m[i] := List.getElem?_eq_getElem hlt
    generalize m[i] = k at hx
    (conv => whnf); repeat (first | (refine w ?_; conv => whnf) | (refine ⟨fun h => absurd h Bool.false_ne_true, fun _ => ?_⟩; conv => whnf) | (refine ⟨fun _ => ?_, fun h => absurd h.symm Bool.false_ne_true⟩; conv => whnf))
    refine ⟨by omega, _, nums_at hx, ?_⟩
    (conv => whnf); repeat (first | (refine w ?_; conv => whnf) | (refine ⟨fun h => absurd h Bool.false_ne_true, fun _ => ?_⟩; conv => whnf) | (refine ⟨fun _ => ?_, fun h => absurd h.symm Bool.false_ne_true⟩; conv => whnf))
    refine ⟨_, _, c62 l k, ?_⟩
    (conv => whnf); repeat (first | (refine w ?_; conv => whnf) | (refine ⟨fun h => absurd h Bool.false_ne_true, fun _ => ?_⟩; conv => whnf) | (refine ⟨fun _ => ?_, fun h => absurd h.symm Bool.false_ne_true⟩; conv => whnf))
    refine ⟨by rw [nums_len, List.length_map, List.length_take]; show (min i m.length + 1) * 8 ≤ _; omega, ?_⟩
    (conv => whnf); repeat (first | (refine w ?_; conv => whnf) | (refine ⟨fun h => absurd h Bool.false_ne_true, fun _ => ?_⟩; conv => whnf) | (refine ⟨fun _ => ?_, fun h => absurd h.symm Bool.false_ne_true⟩; conv => whnf))
    exact ⟨i + 1, hlt, by show m.length - (i + 1) < m.length - i; omega, le_of [3] rfl rfl rfl ⟨step_num hlt (by omega), rfl, rfl, rfl, rfl, trivial⟩ ⟨by rw [take_map _ hx, nums_app]; rfl, trivial⟩⟩
  · have hge := of_ge hge
    rw [take_of_all hge]
    (conv => whnf); repeat (first | (refine w ?_; conv => whnf) | (refine ⟨fun h => absurd h Bool.false_ne_true, fun _ => ?_⟩; conv => whnf) | (refine ⟨fun _ => ?_, fun h => absurd h.symm Bool.false_ne_true⟩; conv => whnf))
    exact fin_frz TT rfl rfl
/-- Some elements of a list. -/
theorem c118 (l m : List Int) (hm : m.length ≤ 1099511627776) (h : ∀ i ∈ m, 0 ≤ i ∧ i < l.length) : Con P 118 [] [.slice 1 (nums l), .slice 1 (nums m)] (.slice 1 (nums (m.map (at0 l)))) [] := by
  refine go Tryz.func118 (by rfl) rfl rfl rfl fun hl => ?_
  (conv => whnf); repeat (first | (refine w ?_; conv => whnf) | (refine ⟨fun h => absurd h Bool.false_ne_true, fun _ => ?_⟩; conv => whnf) | (refine ⟨fun _ => ?_, fun h => absurd h.symm Bool.false_ne_true⟩; conv => whnf))
  refine loop (fun i : Nat => mkSt [(11, .int .i64 i), (10, .int .i64 m.length), (9, .slice 1 (nums m)), (5, .ref 0), (0, .slice 1 (nums l))] [.row 3 1 (nums ((m.take i).map (at0 l)))]) (fun i => i ≤ m.length) (fun i => m.length - i) 0 (Nat.zero_le _)
    (le_of [1] rfl rfl rfl ⟨rfl, by rw [nums_len]; rfl, rfl, rfl, rfl, trivial⟩ ⟨rfl, trivial⟩) ?_
  intro i hi
  (conv => whnf); repeat (first | (refine w ?_; conv => whnf) | (refine ⟨fun h => absurd h Bool.false_ne_true, fun _ => ?_⟩; conv => whnf) | (refine ⟨fun _ => ?_, fun h => absurd h.symm Bool.false_ne_true⟩; conv => whnf))
  refine ⟨fun hlt => ?_, fun hge => ?_⟩
  · have hlt := of_lt hlt
    have hx : m[i]? = some m[i] := List.getElem?_eq_getElem hlt
    generalize m[i] = k at hx
    have hk := h k (List.mem_of_getElem? hx)
    (conv => whnf); repeat (first | (refine w ?_; conv => whnf) | (refine ⟨fun h => absurd h Bool.false_ne_true, fun _ => ?_⟩; conv => whnf) | (refine ⟨fun _ => ?_, fun h => absurd h.symm Bool.false_ne_true⟩; conv => whnf))
    refine ⟨by omega, _, nums_at hx, ?_⟩
    (conv => whnf); repeat (first | (refine w ?_; conv => whnf) | (refine ⟨fun h => absurd h Bool.false_ne_true, fun _ => ?_⟩; conv => whnf) | (refine ⟨fun _ => ?_, fun h => absurd h.symm Bool.false_ne_true⟩; conv => whnf))
    refine ⟨by omega, _, nums_at (at0_some (by omega)), ?_⟩
    (conv => whnf); repeat (first | (refine w ?_; conv => whnf) | (refine ⟨fun h => absurd h Bool.false_ne_true, fun _ => ?_⟩; conv => whnf) | (refine ⟨fun _ => ?_, fun h => absurd h.symm Bool.false_ne_true⟩; conv => whnf))
    refine ⟨by rw [nums_len, List.length_map, List.length_take]; show (min i m.length + 1) * 8 ≤ _; omega, ?_⟩
    (conv => whnf); repeat (first | (refine w ?_; conv => whnf) | (refine ⟨fun h => absurd h Bool.false_ne_true, fun _ => ?_⟩; conv => whnf) | (refine ⟨fun _ => ?_, fun h => absurd h.symm Bool.false_ne_true⟩; conv => whnf))
    exact ⟨i + 1, hlt, by show m.length - (i + 1) < m.length - i; omega, le_of [2] rfl rfl rfl ⟨step_num hlt (by omega), rfl, rfl, rfl, rfl, trivial⟩ ⟨by rw [take_map _ hx, nums_app]; rfl, trivial⟩⟩
  · have hge := of_ge hge
    rw [take_of_all hge]
    (conv => whnf); repeat (first | (refine w ?_; conv => whnf) | (refine ⟨fun h => absurd h Bool.false_ne_true, fun _ => ?_⟩; conv => whnf) | (refine ⟨fun _ => ?_, fun h => absurd h.symm Bool.false_ne_true⟩; conv => whnf))
    exact fin_frz TT rfl rfl
/-- For the elements of a part, where the kept element that goes to each of them comes from. -/
theorem c120 (part into keep : List Int) (hm : part.length ≤ 1099511627776) (h : ∀ k ∈ part, 0 ≤ plc into k ∧ plc into k < keep.length) : Con P 120 [] [.slice 1 (nums part), .slice 1 (nums into), .slice 1 (nums keep)] (.slice 1 (nums (part.map fun k => at0 keep (plc into k)))) [] := by
  refine go Tryz.func120 (by rfl) rfl rfl rfl fun hl => ?_
  (conv => whnf); repeat (first | (refine w ?_; conv => whnf) | (refine ⟨fun h => absurd h Bool.false_ne_true, fun _ => ?_⟩; conv => whnf) | (refine ⟨fun _ => ?_, fun h => absurd h.symm Bool.false_ne_true⟩; conv => whnf))
  refine loop (fun i : Nat => mkSt [(13, .int .i64 i), (12, .int .i64 part.length), (11, .slice 1 (nums part)), (7, .ref 0), (1, .slice 1 (nums into)), (2, .slice 1 (nums keep))] [.row 3 1 (nums ((part.take i).map fun k => at0 keep (plc into k)))]) (fun i => i ≤ part.length) (fun i => part.length - i) 0 (Nat.zero_le _)
    (le_of [1] rfl rfl rfl ⟨rfl, by rw [nums_len]; rfl, rfl, rfl, rfl, rfl, trivial⟩ ⟨rfl, trivial⟩) ?_
  intro i hi
  (conv => whnf); repeat (first | (refine w ?_; conv => whnf) | (refine ⟨fun h => absurd h Bool.false_ne_true, fun _ => ?_⟩; conv => whnf) | (refine ⟨fun _ => ?_, fun h => absurd h.symm Bool.false_ne_true⟩; conv => whnf))
  refine ⟨fun hlt => ?_, fun hge => ?_⟩
  · have hlt := of_lt hlt
    have hx : part[i]? = some part[i] := List.getElem?_eq_getElem hlt
    generalize part[i] = k at hx
    have hk := h k (List.mem_of_getElem? hx)
    (conv => whnf); repeat (first | (refine w ?_; conv => whnf) | (refine ⟨fun h => absurd h Bool.false_ne_true, fun _ => ?_⟩; conv => whnf) | (refine ⟨fun _ => ?_, fun h => absurd h.symm Bool.false_ne_true⟩; conv => whnf))
    refine ⟨by omega, _, nums_at hx, ?_⟩
    (conv => whnf); repeat (first | (refine w ?_; conv => whnf) | (refine ⟨fun h => absurd h Bool.false_ne_true, fun _ => ?_⟩; conv => whnf) | (refine ⟨fun _ => ?_, fun h => absurd h.symm Bool.false_ne_true⟩; conv => whnf))
    refine ⟨_, _, c62 into k, ?_⟩
    (conv => whnf); repeat (first | (refine w ?_; conv => whnf) | (refine ⟨fun h => absurd h Bool.false_ne_true, fun _ => ?_⟩; conv => whnf) | (refine ⟨fun _ => ?_, fun h => absurd h.symm Bool.false_ne_true⟩; conv => whnf))
    refine ⟨hk.1, _, nums_at (at0_some (by omega)), ?_⟩
    (conv => whnf); repeat (first | (refine w ?_; conv => whnf) | (refine ⟨fun h => absurd h Bool.false_ne_true, fun _ => ?_⟩; conv => whnf) | (refine ⟨fun _ => ?_, fun h => absurd h.symm Bool.false_ne_true⟩; conv => whnf))
    refine ⟨by rw [nums_len, List.length_map, List.length_take]; show (min i part.length + 1) * 8 ≤ _; omega, ?_⟩
    (conv => whnf); repeat (first | (refine w ?_; conv => whnf) | (refine ⟨fun h => absurd h Bool.false_ne_true, fun _ => ?_⟩; conv => whnf) | (refine ⟨fun _ => ?_, fun h => absurd h.symm Bool.false_ne_true⟩; conv => whnf))
    exact ⟨i + 1, hlt, by show part.length - (i + 1) < part.length - i; omega, le_of [3] rfl rfl rfl ⟨step_num hlt (by omega), rfl, rfl, rfl, rfl, rfl, trivial⟩ ⟨by rw [take_map _ hx, nums_app]; rfl, trivial⟩⟩
  · have hge := of_ge hge
    rw [take_of_all hge]
    (conv => whnf); repeat (first | (refine w ?_; conv => whnf) | (refine ⟨fun h => absurd h Bool.false_ne_true, fun _ => ?_⟩; conv => whnf) | (refine ⟨fun _ => ?_, fun h => absurd h.symm Bool.false_ne_true⟩; conv => whnf))
    exact fin_frz TT rfl rfl
end Go.Av.Z

/- Complements: the arguments, what is deleted. -/
namespace Go.Av.Z
open Go.Proofs

/-- Some of what is made of the elements of a list and their places. -/
def sel {α β : Type} (f : Nat → α → Option β) : Nat → List α → List β
  | _, [] => []
  | i, x :: r => match f i x with
    | some y => y :: sel f (i + 1) r
    | none => sel f (i + 1) r
theorem sel_app {α β : Type} (f : Nat → α → Option β) : ∀ (a b : List α) (n : Nat), sel f n (a ++ b) = sel f n a ++ sel f (n + a.length) b
  | [], b, n => by simp [sel]
  | x :: r, b, n => by
    simp only [List.cons_append, sel, List.length_cons]
    have := sel_app f r b (n + 1)
    rw [show n + (r.length + 1) = n + 1 + r.length by omega]
    split <;> simp [this]
theorem sel_some {α β : Type} {f : Nat → α → Option β} {l : List α} {i : Nat} {x : α} {y : β} (hx : l[i]? = some x) (h : f i x = some y) : sel f 0 (l.take (i + 1)) = sel f 0 (l.take i) ++ [y] := by
  have hi : i < l.length := (List.getElem?_eq_some_iff.1 hx).1
  rw [List.take_add_one, hx, sel_app]
  simp [sel, List.length_take, Nat.min_eq_left (Nat.le_of_lt hi), h]
theorem sel_none {α β : Type} {f : Nat → α → Option β} {l : List α} {i : Nat} {x : α} (hx : l[i]? = some x) (h : f i x = none) : sel f 0 (l.take (i + 1)) = sel f 0 (l.take i) := by
  have hi : i < l.length := (List.getElem?_eq_some_iff.1 hx).1
  rw [List.take_add_one, hx, sel_app]
  simp [sel, List.length_take, Nat.min_eq_left (Nat.le_of_lt hi), h]
theorem sel_len {α β : Type} (f : Nat → α → Option β) : ∀ (l : List α) (n : Nat), (sel f n l).length ≤ l.length
  | [], n => by simp [sel]
  | x :: r, n => by
    have := sel_len f r (n + 1)
    simp only [sel, List.length_cons]
    split <;> simp <;> omega

/-- The cells of a gluing. -/
def glu (l g : Graph) (keep m : Mor) : List AV := [.slice 1 (nums l.nodes), .slice 3 (edgs l.edges), .slice 1 (nums g.nodes), .slice 3 (edgs g.edges), .slice 1 (nums keep.nodes), .slice 1 (nums keep.edges), .slice 1 (nums m.nodes), .slice 1 (nums m.edges)]
/-- The error of the arguments of a complement. -/
def cgiv (l g : Graph) (keep m : Mor) : Int := if mval l g m ≠ 0 then mval l g m else pval l keep
theorem c145 (l g : Graph) (keep m : Mor) : Con P 145 [] [.agg (glu l g keep m)] (.int .i64 (cgiv l g keep m)) [] := by
  refine go Tryz.func145 (by rfl) rfl rfl rfl fun hl => ?_
  (conv => whnf); repeat (first | (refine w ?_; conv => whnf) | (refine ⟨fun h => absurd h Bool.false_ne_true, fun _ => ?_⟩; conv => whnf) | (refine ⟨fun _ => ?_, fun h => absurd h.symm Bool.false_ne_true⟩; conv => whnf))
  refine ⟨_, _, c40 l g m, ?_⟩
  (conv => whnf); repeat (first | (refine w ?_; conv => whnf) | (refine ⟨fun h => absurd h Bool.false_ne_true, fun _ => ?_⟩; conv => whnf) | (refine ⟨fun _ => ?_, fun h => absurd h.symm Bool.false_ne_true⟩; conv => whnf))
  refine ⟨fun h1 => ?_, fun h1 => ?_⟩
  · (conv => whnf); repeat (first | (refine w ?_; conv => whnf) | (refine ⟨fun h => absurd h Bool.false_ne_true, fun _ => ?_⟩; conv => whnf) | (refine ⟨fun _ => ?_, fun h => absurd h.symm Bool.false_ne_true⟩; conv => whnf))
    refine fin_frz TT ?_ rfl
    have h1 : mval l g m ≠ 0 := by simpa using h1
    rw [cgiv, if_pos h1]; rfl
  · have h1 : mval l g m = 0 := by simpa using h1
    (conv => whnf); repeat (first | (refine w ?_; conv => whnf) | (refine ⟨fun h => absurd h Bool.false_ne_true, fun _ => ?_⟩; conv => whnf) | (refine ⟨fun _ => ?_, fun h => absurd h.symm Bool.false_ne_true⟩; conv => whnf))
    refine ⟨_, _, c38 l keep, ?_⟩
    (conv => whnf); repeat (first | (refine w ?_; conv => whnf) | (refine ⟨fun h => absurd h Bool.false_ne_true, fun _ => ?_⟩; conv => whnf) | (refine ⟨fun _ => ?_, fun h => absurd h.symm Bool.false_ne_true⟩; conv => whnf))
    refine fin_frz TT ?_ rfl
    rw [cgiv, if_neg (by omega)]; rfl
theorem c84 (l g : Graph) (keep m : Mor) : Con P 84 [] [l.av, g.av, keep.av, m.av] (.int .i64 (cgiv l g keep m)) [] := by
  refine go Tryz.func84 (by rfl) rfl rfl rfl fun hl => ?_
  (conv => whnf); repeat (first | (refine w ?_; conv => whnf) | (refine ⟨fun h => absurd h Bool.false_ne_true, fun _ => ?_⟩; conv => whnf) | (refine ⟨fun _ => ?_, fun h => absurd h.symm Bool.false_ne_true⟩; conv => whnf))
  refine ⟨_, _, c45 l g m, ?_⟩
  (conv => whnf); repeat (first | (refine w ?_; conv => whnf) | (refine ⟨fun h => absurd h Bool.false_ne_true, fun _ => ?_⟩; conv => whnf) | (refine ⟨fun _ => ?_, fun h => absurd h.symm Bool.false_ne_true⟩; conv => whnf))
  refine ⟨fun h1 => ?_, fun h1 => ?_⟩
  · (conv => whnf); repeat (first | (refine w ?_; conv => whnf) | (refine ⟨fun h => absurd h Bool.false_ne_true, fun _ => ?_⟩; conv => whnf) | (refine ⟨fun _ => ?_, fun h => absurd h.symm Bool.false_ne_true⟩; conv => whnf))
    refine fin_frz TT ?_ rfl
    have h1 : mval l g m ≠ 0 := by simpa using h1
    rw [cgiv, if_pos h1]; rfl
  · have h1 : mval l g m = 0 := by simpa using h1
    (conv => whnf); repeat (first | (refine w ?_; conv => whnf) | (refine ⟨fun h => absurd h Bool.false_ne_true, fun _ => ?_⟩; conv => whnf) | (refine ⟨fun _ => ?_, fun h => absurd h.symm Bool.false_ne_true⟩; conv => whnf))
    refine ⟨_, _, c43 l keep, ?_⟩
    (conv => whnf); repeat (first | (refine w ?_; conv => whnf) | (refine ⟨fun h => absurd h Bool.false_ne_true, fun _ => ?_⟩; conv => whnf) | (refine ⟨fun _ => ?_, fun h => absurd h.symm Bool.false_ne_true⟩; conv => whnf))
    refine fin_frz TT ?_ rfl
    rw [cgiv, if_neg (by omega)]; rfl

def goneF (keep : List Int) (i : Nat) (x : Int) : Option Int := if keep.contains (i : Int) then none else some x
/-- The images of what isn't kept. -/
def gone (images keep : List Int) : List Int := sel (goneF keep) 0 images
theorem c171 (l g : Graph) (keep m : Mor) (hm : m.nodes.length ≤ 1099511627776) : Con P 171 [] [.agg (glu l g keep m)] (.slice 1 (nums (gone m.nodes keep.nodes))) [] := by
  refine go Tryz.func171 (by rfl) rfl rfl rfl fun hl => ?_
  (conv => whnf); repeat (first | (refine w ?_; conv => whnf) | (refine ⟨fun h => absurd h Bool.false_ne_true, fun _ => ?_⟩; conv => whnf) | (refine ⟨fun _ => ?_, fun h => absurd h.symm Bool.false_ne_true⟩; conv => whnf))
  refine loop (fun i : Nat => mkSt [(10, .int .i64 i), (9, .int .i64 m.nodes.length), (8, .slice 1 (nums m.nodes)), (1, .bptr 0 0), (3, .ref 1)] [.box 171 (glu l g keep m), .row 3 1 (nums (sel (goneF keep.nodes) 0 (m.nodes.take i)))]) (fun i => i ≤ m.nodes.length) (fun i => m.nodes.length - i) 0 (Nat.zero_le _)
    (le_of [0, 2] rfl rfl rfl ⟨rfl, by rw [nums_len]; rfl, rfl, rfl, rfl, trivial⟩ ⟨rfl, rfl, trivial⟩) ?_
  intro i hi
  (conv => whnf); repeat (first | (refine w ?_; conv => whnf) | (refine ⟨fun h => absurd h Bool.false_ne_true, fun _ => ?_⟩; conv => whnf) | (refine ⟨fun _ => ?_, fun h => absurd h.symm Bool.false_ne_true⟩; conv => whnf))
  refine ⟨fun hlt => ?_, fun hge => ?_⟩
  · have hlt := of_lt hlt
    have hx : m.nodes[i]? = some m.nodes[i] := List.getElem?_eq_getElem hlt
    generalize m.nodes[i] = k at hx
    have hlen := sel_len (goneF keep.nodes) (m.nodes.take i) 0
    have hlen2 : (m.nodes.take i).length ≤ m.nodes.length := by rw [List.length_take]; omega
    (conv => whnf); repeat (first | (refine w ?_; conv => whnf) | (refine ⟨fun h => absurd h Bool.false_ne_true, fun _ => ?_⟩; conv => whnf) | (refine ⟨fun _ => ?_, fun h => absurd h.symm Bool.false_ne_true⟩; conv => whnf))
    refine ⟨by omega, _, nums_at hx, ?_⟩
    (conv => whnf); repeat (first | (refine w ?_; conv => whnf) | (refine ⟨fun h => absurd h Bool.false_ne_true, fun _ => ?_⟩; conv => whnf) | (refine ⟨fun _ => ?_, fun h => absurd h.symm Bool.false_ne_true⟩; conv => whnf))
    refine ⟨_, _, c29 keep.nodes i, ?_⟩
    (conv => whnf); repeat (first | (refine w ?_; conv => whnf) | (refine ⟨fun h => absurd h Bool.false_ne_true, fun _ => ?_⟩; conv => whnf) | (refine ⟨fun _ => ?_, fun h => absurd h.symm Bool.false_ne_true⟩; conv => whnf))
    refine ⟨fun h1 => ?_, fun h1 => ?_⟩
    · have h1 : goneF keep.nodes i k = some k := by rw [goneF, if_neg (by simpa using h1)]
      (conv => whnf); repeat (first | (refine w ?_; conv => whnf) | (refine ⟨fun h => absurd h Bool.false_ne_true, fun _ => ?_⟩; conv => whnf) | (refine ⟨fun _ => ?_, fun h => absurd h.symm Bool.false_ne_true⟩; conv => whnf))
      refine ⟨by rw [nums_len]; show (_ + 1) * 8 ≤ _; omega, ?_⟩
      (conv => whnf); repeat (first | (refine w ?_; conv => whnf) | (refine ⟨fun h => absurd h Bool.false_ne_true, fun _ => ?_⟩; conv => whnf) | (refine ⟨fun _ => ?_, fun h => absurd h.symm Bool.false_ne_true⟩; conv => whnf))
      exact ⟨i + 1, hlt, by show m.nodes.length - (i + 1) < m.nodes.length - i; omega, le_of [0, 4] rfl rfl rfl ⟨step_num hlt (by omega), rfl, rfl, rfl, rfl, trivial⟩ ⟨rfl, by rw [sel_some hx h1, nums_app]; rfl, trivial⟩⟩
    · have h1 : goneF keep.nodes i k = none := by rw [goneF, if_pos (by simpa using h1)]
      (conv => whnf); repeat (first | (refine w ?_; conv => whnf) | (refine ⟨fun h => absurd h Bool.false_ne_true, fun _ => ?_⟩; conv => whnf) | (refine ⟨fun _ => ?_, fun h => absurd h.symm Bool.false_ne_true⟩; conv => whnf))
      exact ⟨i + 1, hlt, by show m.nodes.length - (i + 1) < m.nodes.length - i; omega, le_of [0, 1] rfl rfl rfl ⟨step_num hlt (by omega), rfl, rfl, rfl, rfl, trivial⟩ ⟨rfl, by rw [sel_none hx h1]; rfl, trivial⟩⟩
  · have hge := of_ge hge
    rw [take_of_all hge]
    (conv => whnf); repeat (first | (refine w ?_; conv => whnf) | (refine ⟨fun h => absurd h Bool.false_ne_true, fun _ => ?_⟩; conv => whnf) | (refine ⟨fun _ => ?_, fun h => absurd h.symm Bool.false_ne_true⟩; conv => whnf))
    exact fin_frz TT rfl rfl
theorem c88 (images keep : List Int) (hm : images.length ≤ 1099511627776) : Con P 88 [] [.slice 1 (nums images), .slice 1 (nums keep)] (.slice 1 (nums (gone images keep))) [] := by
  refine go Tryz.func88 (by rfl) rfl rfl rfl fun hl => ?_
  (conv => whnf); repeat (first | (refine w ?_; conv => whnf) | (refine ⟨fun h => absurd h Bool.false_ne_true, fun _ => ?_⟩; conv => whnf) | (refine ⟨fun _ => ?_, fun h => absurd h.symm Bool.false_ne_true⟩; conv => whnf))
  refine loop (fun i : Nat => mkSt [(6, .int .i64 i), (0, .slice 1 (nums images)), (1, .slice 1 (nums keep)), (5, .ref 0)] [.row 3 1 (nums (sel (goneF keep) 0 (images.take i)))]) (fun i => i ≤ images.length) (fun i => images.length - i) 0 (Nat.zero_le _)
    (le_of [1] rfl rfl rfl ⟨rfl, rfl, rfl, rfl, trivial⟩ ⟨rfl, trivial⟩) ?_
  intro i hi
  (conv => whnf); repeat (first | (refine w ?_; conv => whnf) | (refine ⟨fun h => absurd h Bool.false_ne_true, fun _ => ?_⟩; conv => whnf) | (refine ⟨fun _ => ?_, fun h => absurd h.symm Bool.false_ne_true⟩; conv => whnf))
  rw [nums_len]
  refine ⟨fun hlt => ?_, fun hge => ?_⟩
  · have hlt := of_lt hlt
    have hx : images[i]? = some images[i] := List.getElem?_eq_getElem hlt
    generalize images[i] = k at hx
    have hlen := sel_len (goneF keep) (images.take i) 0
    have hlen2 : (images.take i).length ≤ images.length := by rw [List.length_take]; omega
    (conv => whnf); repeat (first | (refine w ?_; conv => whnf) | (refine ⟨fun h => absurd h Bool.false_ne_true, fun _ => ?_⟩; conv => whnf) | (refine ⟨fun _ => ?_, fun h => absurd h.symm Bool.false_ne_true⟩; conv => whnf))
    refine ⟨_, _, c123 keep i, ?_⟩
    (conv => whnf); repeat (first | (refine w ?_; conv => whnf) | (refine ⟨fun h => absurd h Bool.false_ne_true, fun _ => ?_⟩; conv => whnf) | (refine ⟨fun _ => ?_, fun h => absurd h.symm Bool.false_ne_true⟩; conv => whnf))
    refine ⟨fun h1 => ?_, fun h1 => ?_⟩
    · have h1 : goneF keep i k = some k := by rw [goneF, if_neg (by simpa using h1)]
      (conv => whnf); repeat (first | (refine w ?_; conv => whnf) | (refine ⟨fun h => absurd h Bool.false_ne_true, fun _ => ?_⟩; conv => whnf) | (refine ⟨fun _ => ?_, fun h => absurd h.symm Bool.false_ne_true⟩; conv => whnf))
      refine ⟨by omega, _, nums_at hx, ?_⟩
      (conv => whnf); repeat (first | (refine w ?_; conv => whnf) | (refine ⟨fun h => absurd h Bool.false_ne_true, fun _ => ?_⟩; conv => whnf) | (refine ⟨fun _ => ?_, fun h => absurd h.symm Bool.false_ne_true⟩; conv => whnf))
      refine ⟨by rw [nums_len]; show (_ + 1) * 8 ≤ _; omega, ?_⟩
      (conv => whnf); repeat (first | (refine w ?_; conv => whnf) | (refine ⟨fun h => absurd h Bool.false_ne_true, fun _ => ?_⟩; conv => whnf) | (refine ⟨fun _ => ?_, fun h => absurd h.symm Bool.false_ne_true⟩; conv => whnf))
      exact ⟨i + 1, hlt, by show images.length - (i + 1) < images.length - i; omega, le_of [3] rfl rfl rfl ⟨step_num hlt (by omega), rfl, rfl, rfl, trivial⟩ ⟨by rw [sel_some hx h1, nums_app]; rfl, trivial⟩⟩
    · have h1 : goneF keep i k = none := by rw [goneF, if_pos (by simpa using h1)]
      (conv => whnf); repeat (first | (refine w ?_; conv => whnf) | (refine ⟨fun h => absurd h Bool.false_ne_true, fun _ => ?_⟩; conv => whnf) | (refine ⟨fun _ => ?_, fun h => absurd h.symm Bool.false_ne_true⟩; conv => whnf))
      exact ⟨i + 1, hlt, by show images.length - (i + 1) < images.length - i; omega, le_of [0] rfl rfl rfl ⟨step_num hlt (by omega), rfl, rfl, rfl, trivial⟩ ⟨by rw [sel_none hx h1]; rfl, trivial⟩⟩
  · have hge := of_ge hge
    rw [take_of_all hge]
    (conv => whnf); repeat (first | (refine w ?_; conv => whnf) | (refine ⟨fun h => absurd h Bool.false_ne_true, fun _ => ?_⟩; conv => whnf) | (refine ⟨fun _ => ?_, fun h => absurd h.symm Bool.false_ne_true⟩; conv => whnf))
    exact fin_frz TT rfl rfl
end Go.Av.Z

/- Complements: edges that dangle. -/
namespace Go.Av.Z
open Go.Proofs

def dangF (m : Mor) (gn : List Int) (i : Nat) (e : Edge) : Option Int := if (!m.edges.contains (i : Int)) = true ∧ (gn.contains e.src = true ∨ gn.contains e.dst = true) then some (i : Int) else none
/-- The edges that dangle. -/
def dang (g : Graph) (keep m : Mor) : List Int := sel (dangF m (gone m.nodes keep.nodes)) 0 g.edges
theorem c147 (l g : Graph) (keep m : Mor) (hm : m.nodes.length ≤ 1099511627776) (hg : g.edges.length ≤ 1099511627776) : Con P 147 [] [.agg (glu l g keep m)] (.slice 1 (nums (dang g keep m))) [] := by
  refine go Tryz.func147 (by rfl) rfl rfl rfl fun hl => ?_
  (conv => whnf); repeat (first | (refine w ?_; conv => whnf) | (refine ⟨fun h => absurd h Bool.false_ne_true, fun _ => ?_⟩; conv => whnf) | (refine ⟨fun _ => ?_, fun h => absurd h.symm Bool.false_ne_true⟩; conv => whnf))
  refine ⟨_, _, c171 l g keep m hm, ?_⟩
  (conv => whnf); repeat (first | (refine w ?_; conv => whnf) | (refine ⟨fun h => absurd h Bool.false_ne_true, fun _ => ?_⟩; conv => whnf) | (refine ⟨fun _ => ?_, fun h => absurd h.symm Bool.false_ne_true⟩; conv => whnf))
  generalize hgn : gone m.nodes keep.nodes = gn
  have hd : dang g keep m = sel (dangF m gn) 0 g.edges := by rw [dang, hgn]
  rw [hd]
  refine loop (fun i : Nat => mkSt [(13, .int .i64 i), (12, .int .i64 g.edges.length), (11, .slice 3 (edgs g.edges)), (1, .bptr 0 0), (4, .ref 1), (3, .slice 1 (nums gn))] [.box 171 (glu l g keep m), .row 3 1 (nums (sel (dangF m gn) 0 (g.edges.take i)))]) (fun i => i ≤ g.edges.length) (fun i => g.edges.length - i) 0 (Nat.zero_le _)
    (le_of [0, 3] rfl rfl rfl ⟨rfl, by rw [edgs_len]; rfl, rfl, rfl, rfl, rfl, trivial⟩ ⟨rfl, rfl, trivial⟩) ?_
  intro i hi
  (conv => whnf); repeat (first | (refine w ?_; conv => whnf) | (refine ⟨fun h => absurd h Bool.false_ne_true, fun _ => ?_⟩; conv => whnf) | (refine ⟨fun _ => ?_, fun h => absurd h.symm Bool.false_ne_true⟩; conv => whnf))
  refine ⟨fun hlt => ?_, fun hge => ?_⟩
  · have hlt := of_lt hlt
    have hx : g.edges[i]? = some g.edges[i] := List.getElem?_eq_getElem hlt
    generalize g.edges[i] = e at hx
    have hlen := sel_len (dangF m gn) (g.edges.take i) 0
    have hlen2 : (g.edges.take i).length ≤ g.edges.length := by rw [List.length_take]; omega
    (conv => whnf); repeat (first | (refine w ?_; conv => whnf) | (refine ⟨fun h => absurd h Bool.false_ne_true, fun _ => ?_⟩; conv => whnf) | (refine ⟨fun _ => ?_, fun h => absurd h.symm Bool.false_ne_true⟩; conv => whnf))
    refine ⟨by omega, _, edgs_at hx, ?_⟩
    (conv => whnf); repeat (first | (refine w ?_; conv => whnf) | (refine ⟨fun h => absurd h Bool.false_ne_true, fun _ => ?_⟩; conv => whnf) | (refine ⟨fun _ => ?_, fun h => absurd h.symm Bool.false_ne_true⟩; conv => whnf))
    refine ⟨_, _, c29 m.edges i, ?_⟩
    (conv => whnf); repeat (first | (refine w ?_; conv => whnf) | (refine ⟨fun h => absurd h Bool.false_ne_true, fun _ => ?_⟩; conv => whnf) | (refine ⟨fun _ => ?_, fun h => absurd h.symm Bool.false_ne_true⟩; conv => whnf))
    refine ⟨fun h1 => ?_, fun h1 => ?_⟩
    · (conv => whnf); repeat (first | (refine w ?_; conv => whnf) | (refine ⟨fun h => absurd h Bool.false_ne_true, fun _ => ?_⟩; conv => whnf) | (refine ⟨fun _ => ?_, fun h => absurd h.symm Bool.false_ne_true⟩; conv => whnf))
      refine ⟨_, _, c29 gn e.src, ?_⟩
      (conv => whnf); repeat (first | (refine w ?_; conv => whnf) | (refine ⟨fun h => absurd h Bool.false_ne_true, fun _ => ?_⟩; conv => whnf) | (refine ⟨fun _ => ?_, fun h => absurd h.symm Bool.false_ne_true⟩; conv => whnf))
      refine ⟨fun h2 => ?_, fun h2 => ?_⟩
      · have hF : dangF m gn i e = some (i : Int) := by rw [dangF, if_pos ⟨h1, .inl h2⟩]
        (conv => whnf); repeat (first | (refine w ?_; conv => whnf) | (refine ⟨fun h => absurd h Bool.false_ne_true, fun _ => ?_⟩; conv => whnf) | (refine ⟨fun _ => ?_, fun h => absurd h.symm Bool.false_ne_true⟩; conv => whnf))
        refine ⟨by rw [nums_len]; show (_ + 1) * 8 ≤ _; omega, ?_⟩
        (conv => whnf); repeat (first | (refine w ?_; conv => whnf) | (refine ⟨fun h => absurd h Bool.false_ne_true, fun _ => ?_⟩; conv => whnf) | (refine ⟨fun _ => ?_, fun h => absurd h.symm Bool.false_ne_true⟩; conv => whnf))
        exact ⟨i + 1, hlt, by show g.edges.length - (i + 1) < g.edges.length - i; omega, le_of [0, 6] rfl rfl rfl ⟨step_num hlt (by omega), rfl, rfl, rfl, rfl, rfl, trivial⟩ ⟨rfl, by rw [sel_some hx hF, nums_app]; rfl, trivial⟩⟩
      · (conv => whnf); repeat (first | (refine w ?_; conv => whnf) | (refine ⟨fun h => absurd h Bool.false_ne_true, fun _ => ?_⟩; conv => whnf) | (refine ⟨fun _ => ?_, fun h => absurd h.symm Bool.false_ne_true⟩; conv => whnf))
        refine ⟨_, _, c29 gn e.dst, ?_⟩
        (conv => whnf); repeat (first | (refine w ?_; conv => whnf) | (refine ⟨fun h => absurd h Bool.false_ne_true, fun _ => ?_⟩; conv => whnf) | (refine ⟨fun _ => ?_, fun h => absurd h.symm Bool.false_ne_true⟩; conv => whnf))
        refine ⟨fun h3 => ?_, fun h3 => ?_⟩
        · have hF : dangF m gn i e = some (i : Int) := by rw [dangF, if_pos ⟨h1, .inr h3⟩]
          (conv => whnf); repeat (first | (refine w ?_; conv => whnf) | (refine ⟨fun h => absurd h Bool.false_ne_true, fun _ => ?_⟩; conv => whnf) | (refine ⟨fun _ => ?_, fun h => absurd h.symm Bool.false_ne_true⟩; conv => whnf))
          refine ⟨by rw [nums_len]; show (_ + 1) * 8 ≤ _; omega, ?_⟩
          (conv => whnf); repeat (first | (refine w ?_; conv => whnf) | (refine ⟨fun h => absurd h Bool.false_ne_true, fun _ => ?_⟩; conv => whnf) | (refine ⟨fun _ => ?_, fun h => absurd h.symm Bool.false_ne_true⟩; conv => whnf))
          exact ⟨i + 1, hlt, by show g.edges.length - (i + 1) < g.edges.length - i; omega, le_of [0, 7] rfl rfl rfl ⟨step_num hlt (by omega), rfl, rfl, rfl, rfl, rfl, trivial⟩ ⟨rfl, by rw [sel_some hx hF, nums_app]; rfl, trivial⟩⟩
        · have hF : dangF m gn i e = none := by rw [dangF, h2, h3]; simp
          (conv => whnf); repeat (first | (refine w ?_; conv => whnf) | (refine ⟨fun h => absurd h Bool.false_ne_true, fun _ => ?_⟩; conv => whnf) | (refine ⟨fun _ => ?_, fun h => absurd h.symm Bool.false_ne_true⟩; conv => whnf))
          exact ⟨i + 1, hlt, by show g.edges.length - (i + 1) < g.edges.length - i; omega, le_of [0, 1] rfl rfl rfl ⟨step_num hlt (by omega), rfl, rfl, rfl, rfl, rfl, trivial⟩ ⟨rfl, by rw [sel_none hx hF]; rfl, trivial⟩⟩
    · have hF : dangF m gn i e = none := by rw [dangF, h1]; simp
      (conv => whnf); repeat (first | (refine w ?_; conv => whnf) | (refine ⟨fun h => absurd h Bool.false_ne_true, fun _ => ?_⟩; conv => whnf) | (refine ⟨fun _ => ?_, fun h => absurd h.symm Bool.false_ne_true⟩; conv => whnf))
      exact ⟨i + 1, hlt, by show g.edges.length - (i + 1) < g.edges.length - i; omega, le_of [0, 1] rfl rfl rfl ⟨step_num hlt (by omega), rfl, rfl, rfl, rfl, rfl, trivial⟩ ⟨rfl, by rw [sel_none hx hF]; rfl, trivial⟩⟩
  · have hge := of_ge hge
    rw [take_of_all hge]
    (conv => whnf); repeat (first | (refine w ?_; conv => whnf) | (refine ⟨fun h => absurd h Bool.false_ne_true, fun _ => ?_⟩; conv => whnf) | (refine ⟨fun _ => ?_, fun h => absurd h.symm Bool.false_ne_true⟩; conv => whnf))
    exact fin_frz TT rfl rfl
theorem c86 (l g : Graph) (keep m : Mor) (hm : m.nodes.length ≤ 1099511627776) (hg : g.edges.length ≤ 1099511627776) : Con P 86 [] [l.av, g.av, keep.av, m.av] (.slice 1 (nums (dang g keep m))) [] := by
  refine go Tryz.func86 (by rfl) rfl rfl rfl fun hl => ?_
  (conv => whnf); repeat (first | (refine w ?_; conv => whnf) | (refine ⟨fun h => absurd h Bool.false_ne_true, fun _ => ?_⟩; conv => whnf) | (refine ⟨fun _ => ?_, fun h => absurd h.symm Bool.false_ne_true⟩; conv => whnf))
  refine ⟨_, _, c88 m.nodes keep.nodes hm, ?_⟩
  (conv => whnf); repeat (first | (refine w ?_; conv => whnf) | (refine ⟨fun h => absurd h Bool.false_ne_true, fun _ => ?_⟩; conv => whnf) | (refine ⟨fun _ => ?_, fun h => absurd h.symm Bool.false_ne_true⟩; conv => whnf))
  generalize hgn : gone m.nodes keep.nodes = gn
  have hd : dang g keep m = sel (dangF m gn) 0 g.edges := by rw [dang, hgn]
  rw [hd]
  refine loop (fun i : Nat => mkSt [(11, .int .i64 i), (5, .bptr 0 0), (7, .bptr 1 0), (9, .ref 2), (10, .slice 1 (nums gn))] [.box 25 g.cs, .box 32 m.cs, .row 3 1 (nums (sel (dangF m gn) 0 (g.edges.take i)))]) (fun i => i ≤ g.edges.length) (fun i => g.edges.length - i) 0 (Nat.zero_le _)
    (le_of [1, 3, 5] rfl rfl rfl ⟨rfl, rfl, rfl, rfl, rfl, trivial⟩ ⟨rfl, rfl, rfl, trivial⟩) ?_
  intro i hi
  (conv => whnf); repeat (first | (refine w ?_; conv => whnf) | (refine ⟨fun h => absurd h Bool.false_ne_true, fun _ => ?_⟩; conv => whnf) | (refine ⟨fun _ => ?_, fun h => absurd h.symm Bool.false_ne_true⟩; conv => whnf))
  rw [edgs_len]
  refine ⟨fun hlt => ?_, fun hge => ?_⟩
  · have hlt := of_lt hlt
    have hx : g.edges[i]? = some g.edges[i] := List.getElem?_eq_getElem hlt
    generalize g.edges[i] = e at hx
    have hlen := sel_len (dangF m gn) (g.edges.take i) 0
    have hlen2 : (g.edges.take i).length ≤ g.edges.length := by rw [List.length_take]; omega
    (conv => whnf); repeat (first | (refine w ?_; conv => whnf) | (refine ⟨fun h => absurd h Bool.false_ne_true, fun _ => ?_⟩; conv => whnf) | (refine ⟨fun _ => ?_, fun h => absurd h.symm Bool.false_ne_true⟩; conv => whnf))
    refine ⟨_, _, c123 m.edges i, ?_⟩
    (conv => whnf); repeat (first | (refine w ?_; conv => whnf) | (refine ⟨fun h => absurd h Bool.false_ne_true, fun _ => ?_⟩; conv => whnf) | (refine ⟨fun _ => ?_, fun h => absurd h.symm Bool.false_ne_true⟩; conv => whnf))
    refine ⟨fun h1 => ?_, fun h1 => ?_⟩
    · (conv => whnf); repeat (first | (refine w ?_; conv => whnf) | (refine ⟨fun h => absurd h Bool.false_ne_true, fun _ => ?_⟩; conv => whnf) | (refine ⟨fun _ => ?_, fun h => absurd h.symm Bool.false_ne_true⟩; conv => whnf))
      refine ⟨by omega, _, edgs_at hx, ?_⟩
      (conv => whnf); repeat (first | (refine w ?_; conv => whnf) | (refine ⟨fun h => absurd h Bool.false_ne_true, fun _ => ?_⟩; conv => whnf) | (refine ⟨fun _ => ?_, fun h => absurd h.symm Bool.false_ne_true⟩; conv => whnf))
      refine ⟨_, _, c123 gn e.src, ?_⟩
      (conv => whnf); repeat (first | (refine w ?_; conv => whnf) | (refine ⟨fun h => absurd h Bool.false_ne_true, fun _ => ?_⟩; conv => whnf) | (refine ⟨fun _ => ?_, fun h => absurd h.symm Bool.false_ne_true⟩; conv => whnf))
      refine ⟨fun h2 => ?_, fun h2 => ?_⟩
      · have hF : dangF m gn i e = some (i : Int) := by rw [dangF, if_pos ⟨h1, .inl h2⟩]
        (conv => whnf); repeat (first | (refine w ?_; conv => whnf) | (refine ⟨fun h => absurd h Bool.false_ne_true, fun _ => ?_⟩; conv => whnf) | (refine ⟨fun _ => ?_, fun h => absurd h.symm Bool.false_ne_true⟩; conv => whnf))
        refine ⟨by rw [nums_len]; show (_ + 1) * 8 ≤ _; omega, ?_⟩
        (conv => whnf); repeat (first | (refine w ?_; conv => whnf) | (refine ⟨fun h => absurd h Bool.false_ne_true, fun _ => ?_⟩; conv => whnf) | (refine ⟨fun _ => ?_, fun h => absurd h.symm Bool.false_ne_true⟩; conv => whnf))
        exact ⟨i + 1, hlt, by show g.edges.length - (i + 1) < g.edges.length - i; omega, le_of [0, 1, 6] rfl rfl rfl ⟨step_num hlt (by omega), rfl, rfl, rfl, rfl, trivial⟩ ⟨rfl, rfl, by rw [sel_some hx hF, nums_app]; rfl, trivial⟩⟩
      · (conv => whnf); repeat (first | (refine w ?_; conv => whnf) | (refine ⟨fun h => absurd h Bool.false_ne_true, fun _ => ?_⟩; conv => whnf) | (refine ⟨fun _ => ?_, fun h => absurd h.symm Bool.false_ne_true⟩; conv => whnf))
        refine ⟨by omega, _, edgs_at hx, ?_⟩
        (conv => whnf); repeat (first | (refine w ?_; conv => whnf) | (refine ⟨fun h => absurd h Bool.false_ne_true, fun _ => ?_⟩; conv => whnf) | (refine ⟨fun _ => ?_, fun h => absurd h.symm Bool.false_ne_true⟩; conv => whnf))
        refine ⟨_, _, c123 gn e.dst, ?_⟩
        (conv => whnf); repeat (first | (refine w ?_; conv => whnf) | (refine ⟨fun h => absurd h Bool.false_ne_true, fun _ => ?_⟩; conv => whnf) | (refine ⟨fun _ => ?_, fun h => absurd h.symm Bool.false_ne_true⟩; conv => whnf))
        refine ⟨fun h3 => ?_, fun h3 => ?_⟩
        · have hF : dangF m gn i e = some (i : Int) := by rw [dangF, if_pos ⟨h1, .inr h3⟩]
          (conv => whnf); repeat (first | (refine w ?_; conv => whnf) | (refine ⟨fun h => absurd h Bool.false_ne_true, fun _ => ?_⟩; conv => whnf) | (refine ⟨fun _ => ?_, fun h => absurd h.symm Bool.false_ne_true⟩; conv => whnf))
          refine ⟨by rw [nums_len]; show (_ + 1) * 8 ≤ _; omega, ?_⟩
          (conv => whnf); repeat (first | (refine w ?_; conv => whnf) | (refine ⟨fun h => absurd h Bool.false_ne_true, fun _ => ?_⟩; conv => whnf) | (refine ⟨fun _ => ?_, fun h => absurd h.symm Bool.false_ne_true⟩; conv => whnf))
          exact ⟨i + 1, hlt, by show g.edges.length - (i + 1) < g.edges.length - i; omega, le_of [0, 1, 7] rfl rfl rfl ⟨step_num hlt (by omega), rfl, rfl, rfl, rfl, trivial⟩ ⟨rfl, rfl, by rw [sel_some hx hF, nums_app]; rfl, trivial⟩⟩
        · have hF : dangF m gn i e = none := by rw [dangF, h2, h3]; simp
          (conv => whnf); repeat (first | (refine w ?_; conv => whnf) | (refine ⟨fun h => absurd h Bool.false_ne_true, fun _ => ?_⟩; conv => whnf) | (refine ⟨fun _ => ?_, fun h => absurd h.symm Bool.false_ne_true⟩; conv => whnf))
          exact ⟨i + 1, hlt, by show g.edges.length - (i + 1) < g.edges.length - i; omega, le_of [0, 1, 2] rfl rfl rfl ⟨step_num hlt (by omega), rfl, rfl, rfl, rfl, trivial⟩ ⟨rfl, rfl, by rw [sel_none hx hF]; rfl, trivial⟩⟩
    · have hF : dangF m gn i e = none := by rw [dangF, h1]; simp
      (conv => whnf); repeat (first | (refine w ?_; conv => whnf) | (refine ⟨fun h => absurd h Bool.false_ne_true, fun _ => ?_⟩; conv => whnf) | (refine ⟨fun _ => ?_, fun h => absurd h.symm Bool.false_ne_true⟩; conv => whnf))
      exact ⟨i + 1, hlt, by show g.edges.length - (i + 1) < g.edges.length - i; omega, le_of [0, 1, 2] rfl rfl rfl ⟨step_num hlt (by omega), rfl, rfl, rfl, rfl, trivial⟩ ⟨rfl, rfl, by rw [sel_none hx hF]; rfl, trivial⟩⟩
  · have hge := of_ge hge
    rw [take_of_all hge]
    (conv => whnf); repeat (first | (refine w ?_; conv => whnf) | (refine ⟨fun h => absurd h Bool.false_ne_true, fun _ => ?_⟩; conv => whnf) | (refine ⟨fun _ => ?_, fun h => absurd h.symm Bool.false_ne_true⟩; conv => whnf))
    exact fin_frz TT rfl rfl
end Go.Av.Z

/- Complements: pairs of elements with one image. -/
namespace Go.Av.Z
open Go.Proofs

def pOk (images keep : List Int) (a b : Nat) : Bool := (at0 images a == at0 images b) && (!keep.contains (a : Int) || !keep.contains (b : Int))
def pIn (images keep : List Int) (a n : Nat) : List (Nat × Nat) := ((List.range n).filter fun b => decide (a < b) && pOk images keep a b).map fun b => (a, b)
def pOut (images keep : List Int) (n m : Nat) : List (Nat × Nat) := (List.range n).flatMap fun a => pIn images keep a m
def prss (l : List (Nat × Nat)) : List (List AV) := l.map fun p => [.int .i64 p.1, .int .i64 p.2]
/-- The pairs of elements with one image that aren't both kept. -/
def prs (images keep : List Int) : List (Nat × Nat) := pOut images keep images.length images.length
theorem pIn_start (images keep : List Int) (a : Nat) : pIn images keep a (a + 1) = [] := by
  unfold pIn
  rw [List.map_eq_nil_iff, List.filter_eq_nil_iff]
  intro b hb
  have : b < a + 1 := by simpa using hb
  have : ¬ a < b := by omega
  simp [this]
theorem pIn_yes {images keep : List Int} {a b : Nat} (h : a < b) (hp : pOk images keep a b = true) : pIn images keep a (b + 1) = pIn images keep a b ++ [(a, b)] := by
  simp [pIn, List.range_succ, List.filter_append, h, hp]
theorem pIn_no {images keep : List Int} {a b : Nat} (hp : pOk images keep a b = false) : pIn images keep a (b + 1) = pIn images keep a b := by
  simp [pIn, List.range_succ, List.filter_append, hp]
theorem pIn_len (images keep : List Int) (a n : Nat) : (pIn images keep a n).length ≤ n := by
  unfold pIn
  rw [List.length_map]
  exact Nat.le_trans (List.length_filter_le _ _) (by simp)
theorem pOut_succ (images keep : List Int) (n m : Nat) : pOut images keep (n + 1) m = pOut images keep n m ++ pIn images keep n m := by
  simp [pOut, List.range_succ, List.flatMap_append]
theorem pOut_len (images keep : List Int) (m : Nat) : ∀ n, (pOut images keep n m).length ≤ n * m
  | 0 => by simp [pOut]
  | n + 1 => by
    rw [pOut_succ, List.length_append, Nat.succ_mul]
    have := pOut_len images keep m n
    have := pIn_len images keep n m
    omega
theorem prss_app (l : List (Nat × Nat)) (a b : Nat) : prss (l ++ [(a, b)]) = prss l ++ [[.int .i64 a, .int .i64 b]] := by simp [prss]
theorem prss_len (l : List (Nat × Nat)) : (prss l).length = l.length := by simp [prss]
theorem at0_nat {l : List Int} {i : Nat} (h : i < l.length) : l[((i : Nat) : Int).toNat]? = some (at0 l i) := at0_some (by omega)
theorem pairs_len {images keep : List Int} {a b : Nat} (ha : a < images.length) (hb : b ≤ images.length) (hn : images.length ≤ 1000000) : ((prss (pOut images keep a images.length ++ pIn images keep a b)).length + 1) * 16 ≤ 140737488355328 := by
  rw [prss_len, List.length_append]
  have h1 := pOut_len images keep images.length a
  have h2 := pIn_len images keep a b
  have h3 : a * images.length ≤ 1000000 * 1000000 := Nat.mul_le_mul (by omega) hn
  omega

theorem c170 (images keep : List Int) (hn : images.length ≤ 1000000) : Con P 170 [] [.slice 1 (nums images), .slice 1 (nums keep)] (.slice 2 (prss (prs images keep))) [] := by
  refine go Tryz.func170 (by rfl) rfl rfl rfl fun hl => ?_
  (conv => whnf); repeat (first | (refine w ?_; conv => whnf) | (refine ⟨fun h => absurd h Bool.false_ne_true, fun _ => ?_⟩; conv => whnf) | (refine ⟨fun _ => ?_, fun h => absurd h.symm Bool.false_ne_true⟩; conv => whnf))
  refine loop (fun a : Nat => mkSt [(10, .int .i64 a), (9, .int .i64 images.length), (0, .slice 1 (nums images)), (1, .slice 1 (nums keep)), (5, .ref 0)] [.row 151 2 (prss (pOut images keep a images.length))]) (fun a => a ≤ images.length) (fun a => images.length - a) 0 (Nat.zero_le _)
    (le_of [1] rfl rfl rfl ⟨rfl, by rw [nums_len]; rfl, rfl, rfl, rfl, trivial⟩ ⟨rfl, trivial⟩) ?_
  intro a ha
  (conv => whnf); repeat (first | (refine w ?_; conv => whnf) | (refine ⟨fun h => absurd h Bool.false_ne_true, fun _ => ?_⟩; conv => whnf) | (refine ⟨fun _ => ?_, fun h => absurd h.symm Bool.false_ne_true⟩; conv => whnf))
  refine ⟨fun hlt => ?_, fun hge => ?_⟩
  · have hlt := of_lt hlt
    (conv => whnf); repeat (first | (refine w ?_; conv => whnf) | (refine ⟨fun h => absurd h Bool.false_ne_true, fun _ => ?_⟩; conv => whnf) | (refine ⟨fun _ => ?_, fun h => absurd h.symm Bool.false_ne_true⟩; conv => whnf))
    refine loop (fun b : Nat => mkSt [(7, .int .i64 b), (6, .int .i64 a), (10, .int .i64 a), (9, .int .i64 images.length), (0, .slice 1 (nums images)), (1, .slice 1 (nums keep)), (5, .ref 0)] [.row 151 2 (prss (pOut images keep a images.length ++ pIn images keep a b))]) (fun b => a < b ∧ b ≤ images.length) (fun b => images.length - b) (a + 1) ⟨by omega, hlt⟩
      (le_of [0] rfl rfl rfl ⟨step_num hlt (by omega), rfl, rfl, rfl, rfl, rfl, rfl, trivial⟩ ⟨by rw [pIn_start, List.append_nil]; rfl, trivial⟩) ?_
    rintro b ⟨hab, hb⟩
    (conv => whnf); repeat (first | (refine w ?_; conv => whnf) | (refine ⟨fun h => absurd h Bool.false_ne_true, fun _ => ?_⟩; conv => whnf) | (refine ⟨fun _ => ?_, fun h => absurd h.symm Bool.false_ne_true⟩; conv => whnf))
    rw [nums_len]
    refine ⟨fun hlt2 => ?_, fun hge2 => ?_⟩
    · have hlt2 := of_lt hlt2
      have hpl := pairs_len (keep := keep) hlt hb hn
      (conv => whnf); repeat (first | (refine w ?_; conv => whnf) | (refine ⟨fun h => absurd h Bool.false_ne_true, fun _ => ?_⟩; conv => whnf) | (refine ⟨fun _ => ?_, fun h => absurd h.symm Bool.false_ne_true⟩; conv => whnf))
      refine ⟨by omega, _, nums_at (at0_nat hlt), ?_⟩
      (conv => whnf); repeat (first | (refine w ?_; conv => whnf) | (refine ⟨fun h => absurd h Bool.false_ne_true, fun _ => ?_⟩; conv => whnf) | (refine ⟨fun _ => ?_, fun h => absurd h.symm Bool.false_ne_true⟩; conv => whnf))
      refine ⟨by omega, _, nums_at (at0_nat hlt2), ?_⟩
      (conv => whnf); repeat (first | (refine w ?_; conv => whnf) | (refine ⟨fun h => absurd h Bool.false_ne_true, fun _ => ?_⟩; conv => whnf) | (refine ⟨fun _ => ?_, fun h => absurd h.symm Bool.false_ne_true⟩; conv => whnf))
      refine ⟨fun h1 => ?_, fun h1 => ?_⟩
      · (conv => whnf); repeat (first | (refine w ?_; conv => whnf) | (refine ⟨fun h => absurd h Bool.false_ne_true, fun _ => ?_⟩; conv => whnf) | (refine ⟨fun _ => ?_, fun h => absurd h.symm Bool.false_ne_true⟩; conv => whnf))
        refine ⟨_, _, c29 keep a, ?_⟩
        (conv => whnf); repeat (first | (refine w ?_; conv => whnf) | (refine ⟨fun h => absurd h Bool.false_ne_true, fun _ => ?_⟩; conv => whnf) | (refine ⟨fun _ => ?_, fun h => absurd h.symm Bool.false_ne_true⟩; conv => whnf))
        refine ⟨fun h2 => ?_, fun h2 => ?_⟩
        · have hp : pOk images keep a b = true := by rw [pOk, h1, h2]; rfl
          (conv => whnf); repeat (first | (refine w ?_; conv => whnf) | (refine ⟨fun h => absurd h Bool.false_ne_true, fun _ => ?_⟩; conv => whnf) | (refine ⟨fun _ => ?_, fun h => absurd h.symm Bool.false_ne_true⟩; conv => whnf))
          refine ⟨by kernel_rfl, ?_⟩
          (conv => whnf); repeat (first | (refine w ?_; conv => whnf) | (refine ⟨fun h => absurd h Bool.false_ne_true, fun _ => ?_⟩; conv => whnf) | (refine ⟨fun _ => ?_, fun h => absurd h.symm Bool.false_ne_true⟩; conv => whnf))
          refine ⟨hpl, ?_⟩
          (conv => whnf); repeat (first | (refine w ?_; conv => whnf) | (refine ⟨fun h => absurd h Bool.false_ne_true, fun _ => ?_⟩; conv => whnf) | (refine ⟨fun _ => ?_, fun h => absurd h.symm Bool.false_ne_true⟩; conv => whnf))
          exact ⟨b + 1, ⟨by omega, hlt2⟩, by show images.length - (b + 1) < images.length - b; omega, le_of [3] rfl rfl rfl ⟨step_num hlt2 (by omega), rfl, rfl, rfl, rfl, rfl, rfl, trivial⟩ ⟨by rw [pIn_yes hab hp, ← List.append_assoc, prss_app]; rfl, trivial⟩⟩
        · (conv => whnf); repeat (first | (refine w ?_; conv => whnf) | (refine ⟨fun h => absurd h Bool.false_ne_true, fun _ => ?_⟩; conv => whnf) | (refine ⟨fun _ => ?_, fun h => absurd h.symm Bool.false_ne_true⟩; conv => whnf))
          refine ⟨_, _, c29 keep b, ?_⟩
          (conv => whnf); repeat (first | (refine w ?_; conv => whnf) | (refine ⟨fun h => absurd h Bool.false_ne_true, fun _ => ?_⟩; conv => whnf) | (refine ⟨fun _ => ?_, fun h => absurd h.symm Bool.false_ne_true⟩; conv => whnf))
          refine ⟨by kernel_rfl, ?_⟩
          (conv => whnf); repeat (first | (refine w ?_; conv => whnf) | (refine ⟨fun h => absurd h Bool.false_ne_true, fun _ => ?_⟩; conv => whnf) | (refine ⟨fun _ => ?_, fun h => absurd h.symm Bool.false_ne_true⟩; conv => whnf))
          refine ⟨fun h3 => ?_, fun h3 => ?_⟩
          · have hp : pOk images keep a b = true := by rw [pOk, h1, h2, h3]; rfl
            (conv => whnf); repeat (first | (refine w ?_; conv => whnf) | (refine ⟨fun h => absurd h Bool.false_ne_true, fun _ => ?_⟩; conv => whnf) | (refine ⟨fun _ => ?_, fun h => absurd h.symm Bool.false_ne_true⟩; conv => whnf))
            refine ⟨hpl, ?_⟩
            (conv => whnf); repeat (first | (refine w ?_; conv => whnf) | (refine ⟨fun h => absurd h Bool.false_ne_true, fun _ => ?_⟩; conv => whnf) | (refine ⟨fun _ => ?_, fun h => absurd h.symm Bool.false_ne_true⟩; conv => whnf))
            exact ⟨b + 1, ⟨by omega, hlt2⟩, by show images.length - (b + 1) < images.length - b; omega, le_of [4] rfl rfl rfl ⟨step_num hlt2 (by omega), rfl, rfl, rfl, rfl, rfl, rfl, trivial⟩ ⟨by rw [pIn_yes hab hp, ← List.append_assoc, prss_app]; rfl, trivial⟩⟩
          · have hp : pOk images keep a b = false := by rw [pOk, h1, h2, h3]; rfl
            (conv => whnf); repeat (first | (refine w ?_; conv => whnf) | (refine ⟨fun h => absurd h Bool.false_ne_true, fun _ => ?_⟩; conv => whnf) | (refine ⟨fun _ => ?_, fun h => absurd h.symm Bool.false_ne_true⟩; conv => whnf))
            exact ⟨b + 1, ⟨by omega, hlt2⟩, by show images.length - (b + 1) < images.length - b; omega, le_of [0] rfl rfl rfl ⟨step_num hlt2 (by omega), rfl, rfl, rfl, rfl, rfl, rfl, trivial⟩ ⟨by rw [pIn_no hp]; rfl, trivial⟩⟩
      · have hp : pOk images keep a b = false := by rw [pOk, h1]; rfl
        (conv => whnf); repeat (first | (refine w ?_; conv => whnf) | (refine ⟨fun h => absurd h Bool.false_ne_true, fun _ => ?_⟩; conv => whnf) | (refine ⟨fun _ => ?_, fun h => absurd h.symm Bool.false_ne_true⟩; conv => whnf))
        refine ⟨by kernel_rfl, ?_⟩
        (conv => whnf); repeat (first | (refine w ?_; conv => whnf) | (refine ⟨fun h => absurd h Bool.false_ne_true, fun _ => ?_⟩; conv => whnf) | (refine ⟨fun _ => ?_, fun h => absurd h.symm Bool.false_ne_true⟩; conv => whnf))
        exact ⟨b + 1, ⟨by omega, hlt2⟩, by show images.length - (b + 1) < images.length - b; omega, le_of [0] rfl rfl rfl ⟨step_num hlt2 (by omega), rfl, rfl, rfl, rfl, rfl, rfl, trivial⟩ ⟨by rw [pIn_no hp]; rfl, trivial⟩⟩
    · have hge2 := of_ge hge2
      have hbe : b = images.length := by omega
      subst hbe
      (conv => whnf); repeat (first | (refine w ?_; conv => whnf) | (refine ⟨fun h => absurd h Bool.false_ne_true, fun _ => ?_⟩; conv => whnf) | (refine ⟨fun _ => ?_, fun h => absurd h.symm Bool.false_ne_true⟩; conv => whnf))
      exact ⟨a + 1, hlt, by show images.length - (a + 1) < images.length - a; omega, le_of [0] rfl rfl rfl ⟨step_num hlt (by omega), rfl, rfl, rfl, rfl, trivial⟩ ⟨by rw [pOut_succ]; rfl, trivial⟩⟩
  · have hge := of_ge hge
    have hae : a = images.length := by omega
    subst hae
    (conv => whnf); repeat (first | (refine w ?_; conv => whnf) | (refine ⟨fun h => absurd h Bool.false_ne_true, fun _ => ?_⟩; conv => whnf) | (refine ⟨fun _ => ?_, fun h => absurd h.symm Bool.false_ne_true⟩; conv => whnf))
    exact fin_frz TT rfl rfl
end Go.Av.Z

/- The reference: pairs of elements with one image. -/
namespace Go.Av.Z
open Go.Proofs

theorem c85 (images keep : List Int) (hn : images.length ≤ 1000000) : Con P 85 [] [.slice 1 (nums images), .slice 1 (nums keep)] (.slice 2 (prss (prs images keep))) [] := by
  refine go Tryz.func85 (by rfl) rfl rfl rfl fun hl => ?_
  (conv => whnf); repeat (first | (refine w ?_; conv => whnf) | (refine ⟨fun h => absurd h Bool.false_ne_true, fun _ => ?_⟩; conv => whnf) | (refine ⟨fun _ => ?_, fun h => absurd h.symm Bool.false_ne_true⟩; conv => whnf))
  refine loop (fun a : Nat => mkSt [(6, .int .i64 a), (0, .slice 1 (nums images)), (1, .slice 1 (nums keep)), (5, .ref 0)] [.row 151 2 (prss (pOut images keep a images.length))]) (fun a => a ≤ images.length) (fun a => images.length - a) 0 (Nat.zero_le _)
    (le_of [1] rfl rfl rfl ⟨rfl, rfl, rfl, rfl, trivial⟩ ⟨rfl, trivial⟩) ?_
  intro a ha
  (conv => whnf); repeat (first | (refine w ?_; conv => whnf) | (refine ⟨fun h => absurd h Bool.false_ne_true, fun _ => ?_⟩; conv => whnf) | (refine ⟨fun _ => ?_, fun h => absurd h.symm Bool.false_ne_true⟩; conv => whnf))
  rw [nums_len]
  refine ⟨fun hlt => ?_, fun hge => ?_⟩
  · have hlt := of_lt hlt
    (conv => whnf); repeat (first | (refine w ?_; conv => whnf) | (refine ⟨fun h => absurd h Bool.false_ne_true, fun _ => ?_⟩; conv => whnf) | (refine ⟨fun _ => ?_, fun h => absurd h.symm Bool.false_ne_true⟩; conv => whnf))
    refine loop (fun b : Nat => mkSt [(7, .int .i64 b), (6, .int .i64 a), (0, .slice 1 (nums images)), (1, .slice 1 (nums keep)), (5, .ref 0)] [.row 151 2 (prss (pOut images keep a images.length ++ pIn images keep a b))]) (fun b => a < b ∧ b ≤ images.length) (fun b => images.length - b) (a + 1) ⟨by omega, hlt⟩
      (le_of [0] rfl rfl rfl ⟨step_num hlt (by omega), rfl, rfl, rfl, rfl, trivial⟩ ⟨by rw [pIn_start, List.append_nil]; rfl, trivial⟩) ?_
    rintro b ⟨hab, hb⟩
    (conv => whnf); repeat (first | (refine w ?_; conv => whnf) | (refine ⟨fun h => absurd h Bool.false_ne_true, fun _ => ?_⟩; conv => whnf) | (refine ⟨fun _ => ?_, fun h => absurd h.symm Bool.false_ne_true⟩; conv => whnf))
    rw [nums_len]
    refine ⟨fun hlt2 => ?_, fun hge2 => ?_⟩
    · have hlt2 := of_lt hlt2
      have hpl := pairs_len (keep := keep) hlt hb hn
      (conv => whnf); repeat (first | (refine w ?_; conv => whnf) | (refine ⟨fun h => absurd h Bool.false_ne_true, fun _ => ?_⟩; conv => whnf) | (refine ⟨fun _ => ?_, fun h => absurd h.symm Bool.false_ne_true⟩; conv => whnf))
      refine ⟨by omega, _, nums_at (at0_nat hlt), ?_⟩
      (conv => whnf); repeat (first | (refine w ?_; conv => whnf) | (refine ⟨fun h => absurd h Bool.false_ne_true, fun _ => ?_⟩; conv => whnf) | (refine ⟨fun _ => ?_, fun h => absurd h.symm Bool.false_ne_true⟩; conv => whnf))
      refine ⟨by omega, _, nums_at (at0_nat hlt2), ?_⟩
      (conv => whnf); repeat (first | (refine w ?_; conv => whnf) | (refine ⟨fun h => absurd h Bool.false_ne_true, fun _ => ?_⟩; conv => whnf) | (refine ⟨fun _ => ?_, fun h => absurd h.symm Bool.false_ne_true⟩; conv => whnf))
      refine ⟨fun h1 => ?_, fun h1 => ?_⟩
      · (conv => whnf); repeat (first | (refine w ?_; conv => whnf) | (refine ⟨fun h => absurd h Bool.false_ne_true, fun _ => ?_⟩; conv => whnf) | (refine ⟨fun _ => ?_, fun h => absurd h.symm Bool.false_ne_true⟩; conv => whnf))
        refine ⟨_, _, c123 keep a, ?_⟩
        (conv => whnf); repeat (first | (refine w ?_; conv => whnf) | (refine ⟨fun h => absurd h Bool.false_ne_true, fun _ => ?_⟩; conv => whnf) | (refine ⟨fun _ => ?_, fun h => absurd h.symm Bool.false_ne_true⟩; conv => whnf))
        refine ⟨fun h2 => ?_, fun h2 => ?_⟩
        · have hp : pOk images keep a b = true := by rw [pOk, h1, h2]; rfl
          (conv => whnf); repeat (first | (refine w ?_; conv => whnf) | (refine ⟨fun h => absurd h Bool.false_ne_true, fun _ => ?_⟩; conv => whnf) | (refine ⟨fun _ => ?_, fun h => absurd h.symm Bool.false_ne_true⟩; conv => whnf))
          refine ⟨by kernel_rfl, ?_⟩
          (conv => whnf); repeat (first | (refine w ?_; conv => whnf) | (refine ⟨fun h => absurd h Bool.false_ne_true, fun _ => ?_⟩; conv => whnf) | (refine ⟨fun _ => ?_, fun h => absurd h.symm Bool.false_ne_true⟩; conv => whnf))
          refine ⟨hpl, ?_⟩
          (conv => whnf); repeat (first | (refine w ?_; conv => whnf) | (refine ⟨fun h => absurd h Bool.false_ne_true, fun _ => ?_⟩; conv => whnf) | (refine ⟨fun _ => ?_, fun h => absurd h.symm Bool.false_ne_true⟩; conv => whnf))
          exact ⟨b + 1, ⟨by omega, hlt2⟩, by show images.length - (b + 1) < images.length - b; omega, le_of [3] rfl rfl rfl ⟨step_num hlt2 (by omega), rfl, rfl, rfl, rfl, trivial⟩ ⟨by rw [pIn_yes hab hp, ← List.append_assoc, prss_app]; rfl, trivial⟩⟩
        · (conv => whnf); repeat (first | (refine w ?_; conv => whnf) | (refine ⟨fun h => absurd h Bool.false_ne_true, fun _ => ?_⟩; conv => whnf) | (refine ⟨fun _ => ?_, fun h => absurd h.symm Bool.false_ne_true⟩; conv => whnf))
          refine ⟨_, _, c123 keep b, ?_⟩
          (conv => whnf); repeat (first | (refine w ?_; conv => whnf) | (refine ⟨fun h => absurd h Bool.false_ne_true, fun _ => ?_⟩; conv => whnf) | (refine ⟨fun _ => ?_, fun h => absurd h.symm Bool.false_ne_true⟩; conv => whnf))
          refine ⟨by kernel_rfl, ?_⟩
          (conv => whnf); repeat (first | (refine w ?_; conv => whnf) | (refine ⟨fun h => absurd h Bool.false_ne_true, fun _ => ?_⟩; conv => whnf) | (refine ⟨fun _ => ?_, fun h => absurd h.symm Bool.false_ne_true⟩; conv => whnf))
          refine ⟨fun h3 => ?_, fun h3 => ?_⟩
          · have hp : pOk images keep a b = true := by rw [pOk, h1, h2, h3]; rfl
            (conv => whnf); repeat (first | (refine w ?_; conv => whnf) | (refine ⟨fun h => absurd h Bool.false_ne_true, fun _ => ?_⟩; conv => whnf) | (refine ⟨fun _ => ?_, fun h => absurd h.symm Bool.false_ne_true⟩; conv => whnf))
            refine ⟨hpl, ?_⟩
            (conv => whnf); repeat (first | (refine w ?_; conv => whnf) | (refine ⟨fun h => absurd h Bool.false_ne_true, fun _ => ?_⟩; conv => whnf) | (refine ⟨fun _ => ?_, fun h => absurd h.symm Bool.false_ne_true⟩; conv => whnf))
            exact ⟨b + 1, ⟨by omega, hlt2⟩, by show images.length - (b + 1) < images.length - b; omega, le_of [4] rfl rfl rfl ⟨step_num hlt2 (by omega), rfl, rfl, rfl, rfl, trivial⟩ ⟨by rw [pIn_yes hab hp, ← List.append_assoc, prss_app]; rfl, trivial⟩⟩
          · have hp : pOk images keep a b = false := by rw [pOk, h1, h2, h3]; rfl
            (conv => whnf); repeat (first | (refine w ?_; conv => whnf) | (refine ⟨fun h => absurd h Bool.false_ne_true, fun _ => ?_⟩; conv => whnf) | (refine ⟨fun _ => ?_, fun h => absurd h.symm Bool.false_ne_true⟩; conv => whnf))
            exact ⟨b + 1, ⟨by omega, hlt2⟩, by show images.length - (b + 1) < images.length - b; omega, le_of [0] rfl rfl rfl ⟨step_num hlt2 (by omega), rfl, rfl, rfl, rfl, trivial⟩ ⟨by rw [pIn_no hp]; rfl, trivial⟩⟩
      · have hp : pOk images keep a b = false := by rw [pOk, h1]; rfl
        (conv => whnf); repeat (first | (refine w ?_; conv => whnf) | (refine ⟨fun h => absurd h Bool.false_ne_true, fun _ => ?_⟩; conv => whnf) | (refine ⟨fun _ => ?_, fun h => absurd h.symm Bool.false_ne_true⟩; conv => whnf))
        refine ⟨by kernel_rfl, ?_⟩
        (conv => whnf); repeat (first | (refine w ?_; conv => whnf) | (refine ⟨fun h => absurd h Bool.false_ne_true, fun _ => ?_⟩; conv => whnf) | (refine ⟨fun _ => ?_, fun h => absurd h.symm Bool.false_ne_true⟩; conv => whnf))
        exact ⟨b + 1, ⟨by omega, hlt2⟩, by show images.length - (b + 1) < images.length - b; omega, le_of [0] rfl rfl rfl ⟨step_num hlt2 (by omega), rfl, rfl, rfl, rfl, trivial⟩ ⟨by rw [pIn_no hp]; rfl, trivial⟩⟩
    · have hge2 := of_ge hge2
      have hbe : b = images.length := by omega
      subst hbe
      (conv => whnf); repeat (first | (refine w ?_; conv => whnf) | (refine ⟨fun h => absurd h Bool.false_ne_true, fun _ => ?_⟩; conv => whnf) | (refine ⟨fun _ => ?_, fun h => absurd h.symm Bool.false_ne_true⟩; conv => whnf))
      exact ⟨a + 1, hlt, by show images.length - (a + 1) < images.length - a; omega, le_of [0] rfl rfl rfl ⟨step_num hlt (by omega), rfl, rfl, rfl, trivial⟩ ⟨by rw [pOut_succ]; rfl, trivial⟩⟩
  · have hge := of_ge hge
    have hae : a = images.length := by omega
    subst hae
    (conv => whnf); repeat (first | (refine w ?_; conv => whnf) | (refine ⟨fun h => absurd h Bool.false_ne_true, fun _ => ?_⟩; conv => whnf) | (refine ⟨fun _ => ?_, fun h => absurd h.symm Bool.false_ne_true⟩; conv => whnf))
    exact fin_frz TT rfl rfl
end Go.Av.Z

/- Complements: what is left. -/
namespace Go.Av.Z
open Go.Proofs

theorem c146 (l g : Graph) (keep m : Mor) (h1 : m.nodes.length ≤ 1000000) (h2 : m.edges.length ≤ 1000000) : Con P 146 [] [.agg (glu l g keep m)] (.tuple [.slice 2 (prss (prs m.nodes keep.nodes)), .slice 2 (prss (prs m.edges keep.edges))]) [] := by
  refine go Tryz.func146 (by rfl) rfl rfl rfl fun hl => ?_
  (conv => whnf); repeat (first | (refine w ?_; conv => whnf) | (refine ⟨fun h => absurd h Bool.false_ne_true, fun _ => ?_⟩; conv => whnf) | (refine ⟨fun _ => ?_, fun h => absurd h.symm Bool.false_ne_true⟩; conv => whnf))
  refine ⟨_, _, c170 m.nodes keep.nodes h1, ?_⟩
  (conv => whnf); repeat (first | (refine w ?_; conv => whnf) | (refine ⟨fun h => absurd h Bool.false_ne_true, fun _ => ?_⟩; conv => whnf) | (refine ⟨fun _ => ?_, fun h => absurd h.symm Bool.false_ne_true⟩; conv => whnf))
  refine ⟨_, _, c170 m.edges keep.edges h2, ?_⟩
  (conv => whnf); repeat (first | (refine w ?_; conv => whnf) | (refine ⟨fun h => absurd h Bool.false_ne_true, fun _ => ?_⟩; conv => whnf) | (refine ⟨fun _ => ?_, fun h => absurd h.symm Bool.false_ne_true⟩; conv => whnf))
  refine ⟨by kernel_rfl, ?_⟩
  (conv => whnf); repeat (first | (refine w ?_; conv => whnf) | (refine ⟨fun h => absurd h Bool.false_ne_true, fun _ => ?_⟩; conv => whnf) | (refine ⟨fun _ => ?_, fun h => absurd h.symm Bool.false_ne_true⟩; conv => whnf))
  exact fin_frz TT rfl rfl

/-- The numbers below n that are not in a list. -/
def restL (n : Nat) (gn : List Int) : List Int := ((List.range n).filter fun (i : Nat) => !gn.contains (i : Int)).map fun (i : Nat) => (i : Int)
theorem restL_yes {n : Nat} {gn : List Int} (h : (!gn.contains (n : Int)) = true) : restL (n + 1) gn = restL n gn ++ [(n : Int)] := by
  unfold restL
  rw [List.range_succ, List.filter_append, List.map_append, List.filter_cons, if_pos h]
  simp
theorem restL_no {n : Nat} {gn : List Int} (h : (!gn.contains (n : Int)) = false) : restL (n + 1) gn = restL n gn := by
  unfold restL
  rw [List.range_succ, List.filter_append, List.map_append, List.filter_cons, if_neg (by rw [h]; simp)]
  simp
theorem restL_len (n : Nat) (gn : List Int) : (restL n gn).length ≤ n := by
  unfold restL
  rw [List.length_map]
  exact Nat.le_trans (List.length_filter_le _ _) (by simp)
theorem c87 (n : Nat) (gn : List Int) (hn : n ≤ 1000000) : Con P 87 [] [.int .i64 n, .slice 1 (nums gn)] (.slice 1 (nums (restL n gn))) [] := by
  refine go Tryz.func87 (by rfl) rfl rfl rfl fun hl => ?_
  (conv => whnf); repeat (first | (refine w ?_; conv => whnf) | (refine ⟨fun h => absurd h Bool.false_ne_true, fun _ => ?_⟩; conv => whnf) | (refine ⟨fun _ => ?_, fun h => absurd h.symm Bool.false_ne_true⟩; conv => whnf))
  refine loop (fun i : Nat => mkSt [(6, .int .i64 i), (0, .int .i64 n), (1, .slice 1 (nums gn)), (5, .ref 0)] [.row 3 1 (nums (restL i gn))]) (fun i => i ≤ n) (fun i => n - i) 0 (Nat.zero_le _)
    (le_of [1] rfl rfl rfl ⟨rfl, rfl, rfl, rfl, trivial⟩ ⟨rfl, trivial⟩) ?_
  intro i hi
  (conv => whnf); repeat (first | (refine w ?_; conv => whnf) | (refine ⟨fun h => absurd h Bool.false_ne_true, fun _ => ?_⟩; conv => whnf) | (refine ⟨fun _ => ?_, fun h => absurd h.symm Bool.false_ne_true⟩; conv => whnf))
  refine ⟨fun hlt => ?_, fun hge => ?_⟩
  · have hlt := of_lt hlt
    have hlen := restL_len i gn
    (conv => whnf); repeat (first | (refine w ?_; conv => whnf) | (refine ⟨fun h => absurd h Bool.false_ne_true, fun _ => ?_⟩; conv => whnf) | (refine ⟨fun _ => ?_, fun h => absurd h.symm Bool.false_ne_true⟩; conv => whnf))
    refine ⟨_, _, c123 gn i, ?_⟩
    (conv => whnf); repeat (first | (refine w ?_; conv => whnf) | (refine ⟨fun h => absurd h Bool.false_ne_true, fun _ => ?_⟩; conv => whnf) | (refine ⟨fun _ => ?_, fun h => absurd h.symm Bool.false_ne_true⟩; conv => whnf))
    refine ⟨fun h1 => ?_, fun h1 => ?_⟩
    · (conv => whnf); repeat (first | (refine w ?_; conv => whnf) | (refine ⟨fun h => absurd h Bool.false_ne_true, fun _ => ?_⟩; conv => whnf) | (refine ⟨fun _ => ?_, fun h => absurd h.symm Bool.false_ne_true⟩; conv => whnf))
      refine ⟨by rw [nums_len]; show (_ + 1) * 8 ≤ _; omega, ?_⟩
      (conv => whnf); repeat (first | (refine w ?_; conv => whnf) | (refine ⟨fun h => absurd h Bool.false_ne_true, fun _ => ?_⟩; conv => whnf) | (refine ⟨fun _ => ?_, fun h => absurd h.symm Bool.false_ne_true⟩; conv => whnf))
      exact ⟨i + 1, hlt, by show n - (i + 1) < n - i; omega, le_of [3] rfl rfl rfl ⟨step_num hlt (by omega), rfl, rfl, rfl, trivial⟩ ⟨by rw [restL_yes h1, nums_app]; rfl, trivial⟩⟩
    · (conv => whnf); repeat (first | (refine w ?_; conv => whnf) | (refine ⟨fun h => absurd h Bool.false_ne_true, fun _ => ?_⟩; conv => whnf) | (refine ⟨fun _ => ?_, fun h => absurd h.symm Bool.false_ne_true⟩; conv => whnf))
      exact ⟨i + 1, hlt, by show n - (i + 1) < n - i; omega, le_of [0] rfl rfl rfl ⟨step_num hlt (by omega), rfl, rfl, rfl, trivial⟩ ⟨by rw [restL_no h1]; rfl, trivial⟩⟩
  · have hge := of_ge hge
    have : i = n := by omega
    subst this
    (conv => whnf); repeat (first | (refine w ?_; conv => whnf) | (refine ⟨fun h => absurd h Bool.false_ne_true, fun _ => ?_⟩; conv => whnf) | (refine ⟨fun _ => ?_, fun h => absurd h.symm Bool.false_ne_true⟩; conv => whnf))
    exact fin_frz TT rfl rfl

/-- A row of truths. -/
def bools (f : Nat → Bool) (n : Nat) : List (List AV) := (List.range n).map fun i => [.bool (f i)]
theorem bools_len (f : Nat → Bool) (n : Nat) : (bools f n).length = n := by simp [bools]
theorem bools_at {f : Nat → Bool} {n i : Nat} (h : i < n) : (bools f n)[i]? = some [.bool (f i)] := by simp [bools, h]
theorem bools_set {f f' : Nat → Bool} {n k : Nat} (h : ∀ j, j < n → f' j = if j = k then true else f j) : (bools f n).set k [.bool true] = bools f' n := by
  apply List.ext_getElem?
  intro j
  by_cases hj : j < n
  · rw [List.getElem?_set, bools_at hj, bools_at hj, bools_len, h j hj]
    by_cases hk : k = j
    · subst hk; simp [hj]
    · rw [if_neg hk, if_neg (fun e => hk e.symm)]
  · rw [List.getElem?_eq_none (by rw [List.length_set, bools_len]; omega), List.getElem?_eq_none (by rw [bools_len]; omega)]
theorem chunk_ones : ∀ (n : Nat) (b : AV), chunk 1 n (repl n [b]) = List.replicate n [b]
  | 0, b => rfl
  | n + 1, b => by
    have e : repl (n + 1) [b] = b :: repl n [b] := by simp [repl, List.replicate_succ]
    rw [e]
    simp [chunk, chunk_ones n b, List.replicate_succ]
theorem bools_make (n : Nat) : chunk 1 n (repl n [.bool false]) = bools (fun _ => false) n := by
  rw [chunk_ones]
  simp [bools, List.map_const']

theorem c148 (n : Nat) (images keep : List Int) (hn : n ≤ 1000000) (hl : images.length ≤ 1000000) (hin : ∀ k ∈ images, 0 ≤ k ∧ k < n) : Con P 148 [] [.int .i64 n, .slice 1 (nums images), .slice 1 (nums keep)] (.slice 1 (nums (restL n (gone images keep)))) [] := by
  refine go Tryz.func148 (by rfl) rfl rfl rfl fun hl => ?_
  (conv => whnf); repeat (first | (refine w ?_; conv => whnf) | (refine ⟨fun h => absurd h Bool.false_ne_true, fun _ => ?_⟩; conv => whnf) | (refine ⟨fun _ => ?_, fun h => absurd h.symm Bool.false_ne_true⟩; conv => whnf))
  refine ⟨⟨rfl, by omega, by show 1 * _ ≤ _; omega, by show _ ≤ maxLen; unfold maxLen; omega⟩, ?_⟩
  (conv => whnf); repeat (first | (refine w ?_; conv => whnf) | (refine ⟨fun h => absurd h Bool.false_ne_true, fun _ => ?_⟩; conv => whnf) | (refine ⟨fun _ => ?_, fun h => absurd h.symm Bool.false_ne_true⟩; conv => whnf))
  refine loop (fun i : Nat => mkSt [(17, .int .i64 i), (16, .int .i64 images.length), (15, .slice 1 (nums images)), (2, .slice 1 (nums keep)), (7, .ref 0)] [.row 4 1 (bools (fun j => (sel (goneF keep) 0 (images.take i)).contains (j : Int)) n)]) (fun i => i ≤ images.length) (fun i => images.length - i) 0 (Nat.zero_le _)
    (le_of [1] rfl rfl rfl ⟨rfl, by rw [nums_len]; rfl, rfl, rfl, rfl, trivial⟩ ⟨by show Blk.row 4 1 (chunk 1 (n : Int).toNat (repl (n : Int).toNat [.bool false])) = _; rw [Int.toNat_natCast, bools_make]; rfl, trivial⟩) ?_
  intro i hi
  (conv => whnf); repeat (first | (refine w ?_; conv => whnf) | (refine ⟨fun h => absurd h Bool.false_ne_true, fun _ => ?_⟩; conv => whnf) | (refine ⟨fun _ => ?_, fun h => absurd h.symm Bool.false_ne_true⟩; conv => whnf))
  refine ⟨fun hlt => ?_, fun hge => ?_⟩
  · have hlt := of_lt hlt
    have hx : images[i]? = some images[i] := List.getElem?_eq_getElem hlt
    generalize images[i] = k at hx
    have hk := hin k (List.mem_of_getElem? hx)
    (conv => whnf); repeat (first | (refine w ?_; conv => whnf) | (refine ⟨fun h => absurd h Bool.false_ne_true, fun _ => ?_⟩; conv => whnf) | (refine ⟨fun _ => ?_, fun h => absurd h.symm Bool.false_ne_true⟩; conv => whnf))
    refine ⟨by omega, _, nums_at hx, ?_⟩
    (conv => whnf); repeat (first | (refine w ?_; conv => whnf) | (refine ⟨fun h => absurd h Bool.false_ne_true, fun _ => ?_⟩; conv => whnf) | (refine ⟨fun _ => ?_, fun h => absurd h.symm Bool.false_ne_true⟩; conv => whnf))
    refine ⟨_, _, c29 keep i, ?_⟩
    (conv => whnf); repeat (first | (refine w ?_; conv => whnf) | (refine ⟨fun h => absurd h Bool.false_ne_true, fun _ => ?_⟩; conv => whnf) | (refine ⟨fun _ => ?_, fun h => absurd h.symm Bool.false_ne_true⟩; conv => whnf))
    refine ⟨fun h1 => ?_, fun h1 => ?_⟩
    · have hF : goneF keep i k = some k := by rw [goneF, if_neg (by simpa using h1)]
      (conv => whnf); repeat (first | (refine w ?_; conv => whnf) | (refine ⟨fun h => absurd h Bool.false_ne_true, fun _ => ?_⟩; conv => whnf) | (refine ⟨fun _ => ?_, fun h => absurd h.symm Bool.false_ne_true⟩; conv => whnf))
      refine ⟨⟨by omega, by rw [bools_len]; omega⟩, ?_⟩
      (conv => whnf); repeat (first | (refine w ?_; conv => whnf) | (refine ⟨fun h => absurd h Bool.false_ne_true, fun _ => ?_⟩; conv => whnf) | (refine ⟨fun _ => ?_, fun h => absurd h.symm Bool.false_ne_true⟩; conv => whnf))
      refine ⟨_, bools_at (by omega), ?_⟩
      (conv => whnf); repeat (first | (refine w ?_; conv => whnf) | (refine ⟨fun h => absurd h Bool.false_ne_true, fun _ => ?_⟩; conv => whnf) | (refine ⟨fun _ => ?_, fun h => absurd h.symm Bool.false_ne_true⟩; conv => whnf))
      refine ⟨i + 1, hlt, by show images.length - (i + 1) < images.length - i; omega, le_of [0] rfl rfl rfl ⟨step_num hlt (by omega), rfl, rfl, rfl, rfl, trivial⟩ ⟨?_, trivial⟩⟩
      show Blk.row 4 1 ((bools _ n).set k.toNat [.bool true]) = Blk.row 4 1 _
      rw [sel_some hx hF, bools_set (f' := fun j => (sel (goneF keep) 0 (images.take i) ++ [k]).contains (j : Int))]
      intro j hj
      by_cases hjk : j = k.toNat
      · rw [if_pos hjk]
        have : (j : Int) = k := by omega
        simp [this]
      · rw [if_neg hjk]
        have : ¬ (j : Int) = k := by omega
        simp [this]
    · have hF : goneF keep i k = none := by rw [goneF, if_pos (by simpa using h1)]
      (conv => whnf); repeat (first | (refine w ?_; conv => whnf) | (refine ⟨fun h => absurd h Bool.false_ne_true, fun _ => ?_⟩; conv => whnf) | (refine ⟨fun _ => ?_, fun h => absurd h.symm Bool.false_ne_true⟩; conv => whnf))
      exact ⟨i + 1, hlt, by show images.length - (i + 1) < images.length - i; omega, le_of [0] rfl rfl rfl ⟨step_num hlt (by omega), rfl, rfl, rfl, rfl, trivial⟩ ⟨by rw [sel_none hx hF]; rfl, trivial⟩⟩
  · have hge := of_ge hge
    rw [take_of_all hge]
    generalize hgn : sel (goneF keep) 0 images = gn
    have hgo : gone images keep = gn := hgn
    rw [hgo]
    (conv => whnf); repeat (first | (refine w ?_; conv => whnf) | (refine ⟨fun h => absurd h Bool.false_ne_true, fun _ => ?_⟩; conv => whnf) | (refine ⟨fun _ => ?_, fun h => absurd h.symm Bool.false_ne_true⟩; conv => whnf))
    rw [bools_len]
    refine loop (fun i : Nat => mkSt [(32, .int .i64 i), (31, .int .i64 n), (30, .ref 0), (10, .ref 1)] [.row 4 1 (bools (fun j => gn.contains (j : Int)) n), .row 3 1 (nums (restL i gn))]) (fun i => i ≤ n) (fun i => n - i) 0 (Nat.zero_le _)
      (le_of [0, 1] rfl rfl rfl ⟨rfl, rfl, rfl, rfl, trivial⟩ ⟨rfl, rfl, trivial⟩) ?_
    clear hi
    intro i hi
    (conv => whnf); repeat (first | (refine w ?_; conv => whnf) | (refine ⟨fun h => absurd h Bool.false_ne_true, fun _ => ?_⟩; conv => whnf) | (refine ⟨fun _ => ?_, fun h => absurd h.symm Bool.false_ne_true⟩; conv => whnf))
    refine ⟨fun hlt => ?_, fun hge => ?_⟩
    · have hlt := of_lt hlt
      have hlen := restL_len i gn
      (conv => whnf); repeat (first | (refine w ?_; conv => whnf) | (refine ⟨fun h => absurd h Bool.false_ne_true, fun _ => ?_⟩; conv => whnf) | (refine ⟨fun _ => ?_, fun h => absurd h.symm Bool.false_ne_true⟩; conv => whnf))
      refine ⟨⟨by omega, by rw [bools_len]; omega⟩, ?_⟩
      (conv => whnf); repeat (first | (refine w ?_; conv => whnf) | (refine ⟨fun h => absurd h Bool.false_ne_true, fun _ => ?_⟩; conv => whnf) | (refine ⟨fun _ => ?_, fun h => absurd h.symm Bool.false_ne_true⟩; conv => whnf))
      refine ⟨rfl, _, bools_at (by omega), ?_⟩
      (conv => whnf); repeat (first | (refine w ?_; conv => whnf) | (refine ⟨fun h => absurd h Bool.false_ne_true, fun _ => ?_⟩; conv => whnf) | (refine ⟨fun _ => ?_, fun h => absurd h.symm Bool.false_ne_true⟩; conv => whnf))
      rw [Int.toNat_natCast]
      refine ⟨fun h1 => ?_, fun h1 => ?_⟩
      · (conv => whnf); repeat (first | (refine w ?_; conv => whnf) | (refine ⟨fun h => absurd h Bool.false_ne_true, fun _ => ?_⟩; conv => whnf) | (refine ⟨fun _ => ?_, fun h => absurd h.symm Bool.false_ne_true⟩; conv => whnf))
        refine ⟨by rw [nums_len]; show (_ + 1) * 8 ≤ _; omega, ?_⟩
        (conv => whnf); repeat (first | (refine w ?_; conv => whnf) | (refine ⟨fun h => absurd h Bool.false_ne_true, fun _ => ?_⟩; conv => whnf) | (refine ⟨fun _ => ?_, fun h => absurd h.symm Bool.false_ne_true⟩; conv => whnf))
        exact ⟨i + 1, hlt, by show n - (i + 1) < n - i; omega, le_of [0, 3] rfl rfl rfl ⟨step_num hlt (by omega), rfl, rfl, rfl, trivial⟩ ⟨rfl, by rw [restL_yes h1, nums_app]; rfl, trivial⟩⟩
      · (conv => whnf); repeat (first | (refine w ?_; conv => whnf) | (refine ⟨fun h => absurd h Bool.false_ne_true, fun _ => ?_⟩; conv => whnf) | (refine ⟨fun _ => ?_, fun h => absurd h.symm Bool.false_ne_true⟩; conv => whnf))
        exact ⟨i + 1, hlt, by show n - (i + 1) < n - i; omega, le_of [0, 1] rfl rfl rfl ⟨step_num hlt (by omega), rfl, rfl, rfl, trivial⟩ ⟨rfl, by rw [restL_no h1]; rfl, trivial⟩⟩
    · have hge := of_ge hge
      have : i = n := by omega
      subst this
      (conv => whnf); repeat (first | (refine w ?_; conv => whnf) | (refine ⟨fun h => absurd h Bool.false_ne_true, fun _ => ?_⟩; conv => whnf) | (refine ⟨fun _ => ?_, fun h => absurd h.symm Bool.false_ne_true⟩; conv => whnf))
      exact fin_frz TT rfl rfl
end Go.Av.Z

/- The complement. -/
namespace Go.Av.Z
open Go.Proofs

theorem mval_ok {a b : Graph} {m : Mor} (h : mval a b m = 0) : gval a = 0 ∧ gval b = 0 ∧ m.nodes.length = a.nodes.length ∧ m.edges.length = a.edges.length ∧ errs (mnode a b) 0 m.nodes = 0 ∧ errs (medge a b m) 0 m.edges = 0 := by
  unfold mval at h
  split at h
  · exact absurd h ‹_›
  · split at h
    · exact absurd h ‹_›
    · split at h
      · cases h
      · split at h
        · exact absurd h ‹_›
        · exact ⟨by omega, by omega, by omega, by omega, by omega, h⟩
theorem mval_node {a b : Graph} {m : Mor} (h : mval a b m = 0) : ∀ k ∈ m.nodes, 0 ≤ k ∧ k < b.nodes.length := by
  intro k hk
  obtain ⟨i, hi⟩ := List.mem_iff_getElem?.1 hk
  have := errs_off (mval_ok h).2.2.2.2.1 i k hi
  rw [Nat.zero_add, mnode] at this
  split at this
  · cases this
  · omega
theorem mval_edge {a b : Graph} {m : Mor} (h : mval a b m = 0) : ∀ k ∈ m.edges, 0 ≤ k ∧ k < b.edges.length := by
  intro k hk
  obtain ⟨i, hi⟩ := List.mem_iff_getElem?.1 hk
  have := errs_off (mval_ok h).2.2.2.2.2 i k hi
  rw [Nat.zero_add, medge] at this
  split at this
  · cases this
  · omega
theorem cgiv_ok {l g : Graph} {keep m : Mor} (h : cgiv l g keep m = 0) : mval l g m = 0 ∧ pval l keep = 0 := by
  unfold cgiv at h
  split at h
  · exact absurd h ‹_›
  · exact ⟨by omega, h⟩
/-- The error of a complement. -/
def cerr (l g : Graph) (keep m : Mor) : Int :=
  if cgiv l g keep m ≠ 0 then cgiv l g keep m else if 0 < (prs m.nodes keep.nodes).length + (prs m.edges keep.edges).length then 15 else if 0 < (dang g keep m).length then 14 else 0
/-- The complement. -/
def cpart (l g : Graph) (keep m : Mor) : Mor :=
  if cerr l g keep m = 0 then ⟨restL g.nodes.length (gone m.nodes keep.nodes), restL g.edges.length (gone m.edges keep.edges)⟩ else ⟨[], []⟩
theorem prs_len (images keep : List Int) (h : images.length ≤ 1000000) : (prs images keep).length ≤ 1000000000000 := by
  have h1 := pOut_len images keep images.length images.length
  have h2 : images.length * images.length ≤ 1000000 * 1000000 := Nat.mul_le_mul h h
  unfold prs; omega
theorem gt_sum {a b : Nat} (ha : a ≤ 1000000000000) (hb : b ≤ 1000000000000) : decide ((0 : Int) < IntKind.i64.wrap ((a : Int) + b)) = decide (0 < a + b) := by
  rw [wrap_small (by omega) (by omega), decide_eq_decide]; omega

theorem c114 (l g : Graph) (keep m : Mor) : Con P 114 [] [l.av, g.av, keep.av, m.av] (.tuple [(cpart l g keep m).av, .int .i64 (cerr l g keep m)]) [] := by
  refine go Tryz.func114 (by rfl) rfl rfl rfl fun hl => ?_
  (conv => whnf); repeat (first | (refine w ?_; conv => whnf) | (refine ⟨fun h => absurd h Bool.false_ne_true, fun _ => ?_⟩; conv => whnf) | (refine ⟨fun _ => ?_, fun h => absurd h.symm Bool.false_ne_true⟩; conv => whnf))
  refine ⟨_, _, c145 l g keep m, ?_⟩
  (conv => whnf); repeat (first | (refine w ?_; conv => whnf) | (refine ⟨fun h => absurd h Bool.false_ne_true, fun _ => ?_⟩; conv => whnf) | (refine ⟨fun _ => ?_, fun h => absurd h.symm Bool.false_ne_true⟩; conv => whnf))
  refine ⟨fun h1 => ?_, fun h1 => ?_⟩
  · have h1 : cgiv l g keep m ≠ 0 := by simpa using h1
    (conv => whnf); repeat (first | (refine w ?_; conv => whnf) | (refine ⟨fun h => absurd h Bool.false_ne_true, fun _ => ?_⟩; conv => whnf) | (refine ⟨fun _ => ?_, fun h => absurd h.symm Bool.false_ne_true⟩; conv => whnf))
    refine fin_frz TT ?_ rfl
    have e : cerr l g keep m = cgiv l g keep m := by rw [cerr, if_pos h1]
    rw [cpart, e, if_neg h1]; rfl
  have h1 : cgiv l g keep m = 0 := by simpa using h1
  obtain ⟨hmv, hpv⟩ := cgiv_ok h1
  obtain ⟨hgl, hgg, e1, e2, _⟩ := mval_ok hmv
  have b1 := gval_len hgl
  have b2 := gval_len hgg
  have p1 := prs_len m.nodes keep.nodes (by omega)
  have p2 := prs_len m.edges keep.edges (by omega)
  (conv => whnf); repeat (first | (refine w ?_; conv => whnf) | (refine ⟨fun h => absurd h Bool.false_ne_true, fun _ => ?_⟩; conv => whnf) | (refine ⟨fun _ => ?_, fun h => absurd h.symm Bool.false_ne_true⟩; conv => whnf))
  refine ⟨_, _, c146 l g keep m (by omega) (by omega), ?_⟩
  (conv => whnf); repeat (first | (refine w ?_; conv => whnf) | (refine ⟨fun h => absurd h Bool.false_ne_true, fun _ => ?_⟩; conv => whnf) | (refine ⟨fun _ => ?_, fun h => absurd h.symm Bool.false_ne_true⟩; conv => whnf))
  rw [prss_len, prss_len, gt_sum p1 p2]
  refine ⟨fun h2 => ?_, fun h2 => ?_⟩
  · have h2 := of_decide_eq_true h2
    (conv => whnf); repeat (first | (refine w ?_; conv => whnf) | (refine ⟨fun h => absurd h Bool.false_ne_true, fun _ => ?_⟩; conv => whnf) | (refine ⟨fun _ => ?_, fun h => absurd h.symm Bool.false_ne_true⟩; conv => whnf))
    refine fin_frz TT ?_ rfl
    have e : cerr l g keep m = 15 := by rw [cerr, if_neg (by omega), if_pos h2]
    rw [cpart, e, if_neg (by decide)]; rfl
  have h2 := of_decide_eq_false h2
  (conv => whnf); repeat (first | (refine w ?_; conv => whnf) | (refine ⟨fun h => absurd h Bool.false_ne_true, fun _ => ?_⟩; conv => whnf) | (refine ⟨fun _ => ?_, fun h => absurd h.symm Bool.false_ne_true⟩; conv => whnf))
  refine ⟨_, _, c147 l g keep m (by omega) (by omega), ?_⟩
  (conv => whnf); repeat (first | (refine w ?_; conv => whnf) | (refine ⟨fun h => absurd h Bool.false_ne_true, fun _ => ?_⟩; conv => whnf) | (refine ⟨fun _ => ?_, fun h => absurd h.symm Bool.false_ne_true⟩; conv => whnf))
  rw [nums_len]
  refine ⟨fun h3 => ?_, fun h3 => ?_⟩
  · have h3 : 0 < (dang g keep m).length := by have := of_decide_eq_true h3; omega
    (conv => whnf); repeat (first | (refine w ?_; conv => whnf) | (refine ⟨fun h => absurd h Bool.false_ne_true, fun _ => ?_⟩; conv => whnf) | (refine ⟨fun _ => ?_, fun h => absurd h.symm Bool.false_ne_true⟩; conv => whnf))
    refine fin_frz TT ?_ rfl
    have e : cerr l g keep m = 14 := by rw [cerr, if_neg (by omega), if_neg h2, if_pos h3]
    rw [cpart, e, if_neg (by decide)]; rfl
  have h3 : ¬ 0 < (dang g keep m).length := by have := of_decide_eq_false h3; omega
  have e : cerr l g keep m = 0 := by rw [cerr, if_neg (by omega), if_neg h2, if_neg h3]
  (conv => whnf); repeat (first | (refine w ?_; conv => whnf) | (refine ⟨fun h => absurd h Bool.false_ne_true, fun _ => ?_⟩; conv => whnf) | (refine ⟨fun _ => ?_, fun h => absurd h.symm Bool.false_ne_true⟩; conv => whnf))
  rw [nums_len]
  refine ⟨_, _, c148 g.nodes.length m.nodes keep.nodes (by omega) (by omega) (mval_node hmv), ?_⟩
  (conv => whnf); repeat (first | (refine w ?_; conv => whnf) | (refine ⟨fun h => absurd h Bool.false_ne_true, fun _ => ?_⟩; conv => whnf) | (refine ⟨fun _ => ?_, fun h => absurd h.symm Bool.false_ne_true⟩; conv => whnf))
  rw [edgs_len]
  refine ⟨_, _, c148 g.edges.length m.edges keep.edges (by omega) (by omega) (mval_edge hmv), ?_⟩
  (conv => whnf); repeat (first | (refine w ?_; conv => whnf) | (refine ⟨fun h => absurd h Bool.false_ne_true, fun _ => ?_⟩; conv => whnf) | (refine ⟨fun _ => ?_, fun h => absurd h.symm Bool.false_ne_true⟩; conv => whnf))
  refine ⟨by kernel_rfl, ?_⟩
  (conv => whnf); repeat (first | (refine w ?_; conv => whnf) | (refine ⟨fun h => absurd h Bool.false_ne_true, fun _ => ?_⟩; conv => whnf) | (refine ⟨fun _ => ?_, fun h => absurd h.symm Bool.false_ne_true⟩; conv => whnf))
  refine fin_frz TT ?_ rfl
  rw [cpart, e, if_pos rfl]; rfl
theorem c48 (l g : Graph) (keep m : Mor) : Con P 48 [] [l.av, g.av, keep.av, m.av] (.tuple [(cpart l g keep m).av, .int .i64 (cerr l g keep m)]) [] := by
  refine go Tryz.func48 (by rfl) rfl rfl rfl fun hl => ?_
  (conv => whnf); repeat (first | (refine w ?_; conv => whnf) | (refine ⟨fun h => absurd h Bool.false_ne_true, fun _ => ?_⟩; conv => whnf) | (refine ⟨fun _ => ?_, fun h => absurd h.symm Bool.false_ne_true⟩; conv => whnf))
  refine ⟨_, _, c84 l g keep m, ?_⟩
  (conv => whnf); repeat (first | (refine w ?_; conv => whnf) | (refine ⟨fun h => absurd h Bool.false_ne_true, fun _ => ?_⟩; conv => whnf) | (refine ⟨fun _ => ?_, fun h => absurd h.symm Bool.false_ne_true⟩; conv => whnf))
  refine ⟨fun h1 => ?_, fun h1 => ?_⟩
  · have h1 : cgiv l g keep m ≠ 0 := by simpa using h1
    (conv => whnf); repeat (first | (refine w ?_; conv => whnf) | (refine ⟨fun h => absurd h Bool.false_ne_true, fun _ => ?_⟩; conv => whnf) | (refine ⟨fun _ => ?_, fun h => absurd h.symm Bool.false_ne_true⟩; conv => whnf))
    refine fin_frz TT ?_ rfl
    have e : cerr l g keep m = cgiv l g keep m := by rw [cerr, if_pos h1]
    rw [cpart, e, if_neg h1]; rfl
  have h1 : cgiv l g keep m = 0 := by simpa using h1
  obtain ⟨hmv, hpv⟩ := cgiv_ok h1
  obtain ⟨hgl, hgg, e1, e2, _⟩ := mval_ok hmv
  have b1 := gval_len hgl
  have b2 := gval_len hgg
  have p1 := prs_len m.nodes keep.nodes (by omega)
  have p2 := prs_len m.edges keep.edges (by omega)
  (conv => whnf); repeat (first | (refine w ?_; conv => whnf) | (refine ⟨fun h => absurd h Bool.false_ne_true, fun _ => ?_⟩; conv => whnf) | (refine ⟨fun _ => ?_, fun h => absurd h.symm Bool.false_ne_true⟩; conv => whnf))
  refine ⟨_, _, c85 m.nodes keep.nodes (by omega), ?_⟩
  (conv => whnf); repeat (first | (refine w ?_; conv => whnf) | (refine ⟨fun h => absurd h Bool.false_ne_true, fun _ => ?_⟩; conv => whnf) | (refine ⟨fun _ => ?_, fun h => absurd h.symm Bool.false_ne_true⟩; conv => whnf))
  refine ⟨_, _, c85 m.edges keep.edges (by omega), ?_⟩
  (conv => whnf); repeat (first | (refine w ?_; conv => whnf) | (refine ⟨fun h => absurd h Bool.false_ne_true, fun _ => ?_⟩; conv => whnf) | (refine ⟨fun _ => ?_, fun h => absurd h.symm Bool.false_ne_true⟩; conv => whnf))
  refine ⟨by kernel_rfl, ?_⟩
  (conv => whnf); repeat (first | (refine w ?_; conv => whnf) | (refine ⟨fun h => absurd h Bool.false_ne_true, fun _ => ?_⟩; conv => whnf) | (refine ⟨fun _ => ?_, fun h => absurd h.symm Bool.false_ne_true⟩; conv => whnf))
  rw [prss_len, prss_len, gt_sum p1 p2]
  refine ⟨fun h2 => ?_, fun h2 => ?_⟩
  · have h2 := of_decide_eq_true h2
    (conv => whnf); repeat (first | (refine w ?_; conv => whnf) | (refine ⟨fun h => absurd h Bool.false_ne_true, fun _ => ?_⟩; conv => whnf) | (refine ⟨fun _ => ?_, fun h => absurd h.symm Bool.false_ne_true⟩; conv => whnf))
    refine fin_frz TT ?_ rfl
    have e : cerr l g keep m = 15 := by rw [cerr, if_neg (by omega), if_pos h2]
    rw [cpart, e, if_neg (by decide)]; rfl
  have h2 := of_decide_eq_false h2
  (conv => whnf); repeat (first | (refine w ?_; conv => whnf) | (refine ⟨fun h => absurd h Bool.false_ne_true, fun _ => ?_⟩; conv => whnf) | (refine ⟨fun _ => ?_, fun h => absurd h.symm Bool.false_ne_true⟩; conv => whnf))
  refine ⟨_, _, c86 l g keep m (by omega) (by omega), ?_⟩
  (conv => whnf); repeat (first | (refine w ?_; conv => whnf) | (refine ⟨fun h => absurd h Bool.false_ne_true, fun _ => ?_⟩; conv => whnf) | (refine ⟨fun _ => ?_, fun h => absurd h.symm Bool.false_ne_true⟩; conv => whnf))
  rw [nums_len]
  refine ⟨fun h3 => ?_, fun h3 => ?_⟩
  · have h3 : 0 < (dang g keep m).length := by have := of_decide_eq_true h3; omega
    (conv => whnf); repeat (first | (refine w ?_; conv => whnf) | (refine ⟨fun h => absurd h Bool.false_ne_true, fun _ => ?_⟩; conv => whnf) | (refine ⟨fun _ => ?_, fun h => absurd h.symm Bool.false_ne_true⟩; conv => whnf))
    refine fin_frz TT ?_ rfl
    have e : cerr l g keep m = 14 := by rw [cerr, if_neg (by omega), if_neg h2, if_pos h3]
    rw [cpart, e, if_neg (by decide)]; rfl
  have h3 : ¬ 0 < (dang g keep m).length := by have := of_decide_eq_false h3; omega
  have e : cerr l g keep m = 0 := by rw [cerr, if_neg (by omega), if_neg h2, if_neg h3]
  (conv => whnf); repeat (first | (refine w ?_; conv => whnf) | (refine ⟨fun h => absurd h Bool.false_ne_true, fun _ => ?_⟩; conv => whnf) | (refine ⟨fun _ => ?_, fun h => absurd h.symm Bool.false_ne_true⟩; conv => whnf))
  refine ⟨_, _, c88 m.nodes keep.nodes (by omega), ?_⟩
  (conv => whnf); repeat (first | (refine w ?_; conv => whnf) | (refine ⟨fun h => absurd h Bool.false_ne_true, fun _ => ?_⟩; conv => whnf) | (refine ⟨fun _ => ?_, fun h => absurd h.symm Bool.false_ne_true⟩; conv => whnf))
  rw [nums_len]
  refine ⟨_, _, c87 g.nodes.length (gone m.nodes keep.nodes) (by omega), ?_⟩
  (conv => whnf); repeat (first | (refine w ?_; conv => whnf) | (refine ⟨fun h => absurd h Bool.false_ne_true, fun _ => ?_⟩; conv => whnf) | (refine ⟨fun _ => ?_, fun h => absurd h.symm Bool.false_ne_true⟩; conv => whnf))
  refine ⟨_, _, c88 m.edges keep.edges (by omega), ?_⟩
  (conv => whnf); repeat (first | (refine w ?_; conv => whnf) | (refine ⟨fun h => absurd h Bool.false_ne_true, fun _ => ?_⟩; conv => whnf) | (refine ⟨fun _ => ?_, fun h => absurd h.symm Bool.false_ne_true⟩; conv => whnf))
  rw [edgs_len]
  refine ⟨_, _, c87 g.edges.length (gone m.edges keep.edges) (by omega), ?_⟩
  (conv => whnf); repeat (first | (refine w ?_; conv => whnf) | (refine ⟨fun h => absurd h Bool.false_ne_true, fun _ => ?_⟩; conv => whnf) | (refine ⟨fun _ => ?_, fun h => absurd h.symm Bool.false_ne_true⟩; conv => whnf))
  refine ⟨by kernel_rfl, ?_⟩
  (conv => whnf); repeat (first | (refine w ?_; conv => whnf) | (refine ⟨fun h => absurd h Bool.false_ne_true, fun _ => ?_⟩; conv => whnf) | (refine ⟨fun _ => ?_, fun h => absurd h.symm Bool.false_ne_true⟩; conv => whnf))
  refine fin_frz TT ?_ rfl
  rw [cpart, e, if_pos rfl]; rfl
end Go.Av.Z

/- Small functions of the transport and of its reference. -/
namespace Go.Av.Z
open Go.Proofs

theorem c51 (l by_ : List Int) (hn : l.length ≤ 1000000) (h : ∀ k ∈ l, 0 ≤ k ∧ k < by_.length) : Con P 51 [] [.slice 1 (nums l), .slice 1 (nums by_)] (.slice 1 (nums (l.map (at0 by_)))) [] := by
  refine go Tryz.func51 (by rfl) rfl rfl rfl fun hl => ?_
  (conv => whnf); repeat (first | (refine w ?_; conv => whnf) | (refine ⟨fun h => absurd h Bool.false_ne_true, fun _ => ?_⟩; conv => whnf) | (refine ⟨fun _ => ?_, fun h => absurd h.symm Bool.false_ne_true⟩; conv => whnf))
  refine loop (fun i : Nat => mkSt [(6, .int .i64 i), (0, .slice 1 (nums l)), (1, .slice 1 (nums by_)), (5, .ref 0)] [.row 3 1 (nums ((l.take i).map (at0 by_)))]) (fun i => i ≤ l.length) (fun i => l.length - i) 0 (Nat.zero_le _)
    (le_of [1] rfl rfl rfl ⟨rfl, rfl, rfl, rfl, trivial⟩ ⟨rfl, trivial⟩) ?_
  intro i hi
  (conv => whnf); repeat (first | (refine w ?_; conv => whnf) | (refine ⟨fun h => absurd h Bool.false_ne_true, fun _ => ?_⟩; conv => whnf) | (refine ⟨fun _ => ?_, fun h => absurd h.symm Bool.false_ne_true⟩; conv => whnf))
  rw [nums_len]
  refine ⟨fun hlt => ?_, fun hge => ?_⟩
  · have hlt := of_lt hlt
    have hx : l[i]? = some l[i] := List.getElem?_eq_getElem hlt
    generalize l[i] = k at hx
    have hk := h k (List.mem_of_getElem? hx)
    (conv => whnf); repeat (first | (refine w ?_; conv => whnf) | (refine ⟨fun h => absurd h Bool.false_ne_true, fun _ => ?_⟩; conv => whnf) | (refine ⟨fun _ => ?_, fun h => absurd h.symm Bool.false_ne_true⟩; conv => whnf))
    refine ⟨by omega, _, nums_at hx, ?_⟩
    (conv => whnf); repeat (first | (refine w ?_; conv => whnf) | (refine ⟨fun h => absurd h Bool.false_ne_true, fun _ => ?_⟩; conv => whnf) | (refine ⟨fun _ => ?_, fun h => absurd h.symm Bool.false_ne_true⟩; conv => whnf))
    refine ⟨by omega, _, nums_at (at0_some (by omega)), ?_⟩
    (conv => whnf); repeat (first | (refine w ?_; conv => whnf) | (refine ⟨fun h => absurd h Bool.false_ne_true, fun _ => ?_⟩; conv => whnf) | (refine ⟨fun _ => ?_, fun h => absurd h.symm Bool.false_ne_true⟩; conv => whnf))
    refine ⟨by rw [nums_len, List.length_map, List.length_take]; show (min i l.length + 1) * 8 ≤ _; omega, ?_⟩
    (conv => whnf); repeat (first | (refine w ?_; conv => whnf) | (refine ⟨fun h => absurd h Bool.false_ne_true, fun _ => ?_⟩; conv => whnf) | (refine ⟨fun _ => ?_, fun h => absurd h.symm Bool.false_ne_true⟩; conv => whnf))
    exact ⟨i + 1, hlt, by show l.length - (i + 1) < l.length - i; omega, le_of [2] rfl rfl rfl ⟨step_num hlt (by omega), rfl, rfl, rfl, trivial⟩ ⟨by rw [take_map _ hx, nums_app]; rfl, trivial⟩⟩
  · have hge := of_ge hge
    rw [take_of_all hge]
    (conv => whnf); repeat (first | (refine w ?_; conv => whnf) | (refine ⟨fun h => absurd h Bool.false_ne_true, fun _ => ?_⟩; conv => whnf) | (refine ⟨fun _ => ?_, fun h => absurd h.symm Bool.false_ne_true⟩; conv => whnf))
    exact fin_frz TT rfl rfl
/-- Two morphisms, one after the other. -/
def mthen (m n : Mor) : Mor := ⟨m.nodes.map (at0 n.nodes), m.edges.map (at0 n.edges)⟩
theorem c50 (m n : Mor) (h1 : m.nodes.length ≤ 1000000) (h2 : m.edges.length ≤ 1000000) (h3 : ∀ k ∈ m.nodes, 0 ≤ k ∧ k < n.nodes.length) (h4 : ∀ k ∈ m.edges, 0 ≤ k ∧ k < n.edges.length) : Con P 50 [] [m.av, n.av] (mthen m n).av [] := by
  refine go Tryz.func50 (by rfl) rfl rfl rfl fun hl => ?_
  (conv => whnf); repeat (first | (refine w ?_; conv => whnf) | (refine ⟨fun h => absurd h Bool.false_ne_true, fun _ => ?_⟩; conv => whnf) | (refine ⟨fun _ => ?_, fun h => absurd h.symm Bool.false_ne_true⟩; conv => whnf))
  refine ⟨_, _, c51 m.nodes n.nodes h1 h3, ?_⟩
  (conv => whnf); repeat (first | (refine w ?_; conv => whnf) | (refine ⟨fun h => absurd h Bool.false_ne_true, fun _ => ?_⟩; conv => whnf) | (refine ⟨fun _ => ?_, fun h => absurd h.symm Bool.false_ne_true⟩; conv => whnf))
  refine ⟨_, _, c51 m.edges n.edges h2 h4, ?_⟩
  (conv => whnf); repeat (first | (refine w ?_; conv => whnf) | (refine ⟨fun h => absurd h Bool.false_ne_true, fun _ => ?_⟩; conv => whnf) | (refine ⟨fun _ => ?_, fun h => absurd h.symm Bool.false_ne_true⟩; conv => whnf))
  refine ⟨by kernel_rfl, ?_⟩
  (conv => whnf); repeat (first | (refine w ?_; conv => whnf) | (refine ⟨fun h => absurd h Bool.false_ne_true, fun _ => ?_⟩; conv => whnf) | (refine ⟨fun _ => ?_, fun h => absurd h.symm Bool.false_ne_true⟩; conv => whnf))
  exact fin_frz TT rfl rfl

def cyes : Cond := .mk 1 [] ⟨[], []⟩ ⟨⟨[], []⟩, [], 0, []⟩
def cno : Cond := .mk 2 [cyes] ⟨[], []⟩ ⟨⟨[], []⟩, [], 0, []⟩
theorem c33 : Con P 33 [] [] cyes.av [] := by
  refine go Tryz.func33 (by rfl) rfl rfl rfl fun hl => ?_
  (conv => whnf); repeat (first | (refine w ?_; conv => whnf) | (refine ⟨fun h => absurd h Bool.false_ne_true, fun _ => ?_⟩; conv => whnf) | (refine ⟨fun _ => ?_, fun h => absurd h.symm Bool.false_ne_true⟩; conv => whnf))
  exact fin_frz TT rfl rfl
theorem c89 : Con P 89 [] [] cyes.av [] := by
  refine go Tryz.func89 (by rfl) rfl rfl rfl fun hl => ?_
  (conv => whnf); repeat (first | (refine w ?_; conv => whnf) | (refine ⟨fun h => absurd h Bool.false_ne_true, fun _ => ?_⟩; conv => whnf) | (refine ⟨fun _ => ?_, fun h => absurd h.symm Bool.false_ne_true⟩; conv => whnf))
  exact fin_frz TT rfl rfl
theorem c116 : Con P 116 [] [] cno.av [] := by
  refine go Tryz.func116 (by rfl) rfl rfl rfl fun hl => ?_
  (conv => whnf); repeat (first | (refine w ?_; conv => whnf) | (refine ⟨fun h => absurd h Bool.false_ne_true, fun _ => ?_⟩; conv => whnf) | (refine ⟨fun _ => ?_, fun h => absurd h.symm Bool.false_ne_true⟩; conv => whnf))
  refine ⟨_, _, c33, ?_⟩
  (conv => whnf); repeat (first | (refine w ?_; conv => whnf) | (refine ⟨fun h => absurd h Bool.false_ne_true, fun _ => ?_⟩; conv => whnf) | (refine ⟨fun _ => ?_, fun h => absurd h.symm Bool.false_ne_true⟩; conv => whnf))
  exact fin_frz TT rfl rfl
theorem c49 : Con P 49 [] [] cno.av [] := by
  refine go Tryz.func49 (by rfl) rfl rfl rfl fun hl => ?_
  (conv => whnf); repeat (first | (refine w ?_; conv => whnf) | (refine ⟨fun h => absurd h Bool.false_ne_true, fun _ => ?_⟩; conv => whnf) | (refine ⟨fun _ => ?_, fun h => absurd h.symm Bool.false_ne_true⟩; conv => whnf))
  refine ⟨_, _, c89, ?_⟩
  (conv => whnf); repeat (first | (refine w ?_; conv => whnf) | (refine ⟨fun h => absurd h Bool.false_ne_true, fun _ => ?_⟩; conv => whnf) | (refine ⟨fun _ => ?_, fun h => absurd h.symm Bool.false_ne_true⟩; conv => whnf))
  exact fin_frz TT rfl rfl
/-- The span of a rule. -/
theorem c21 (r : Rule) : Con P 21 [] [r.av] (.agg (glu r.left.graph r.right.graph r.keep r.into)) [] := by
  refine go Tryz.func21 (by rfl) rfl rfl rfl fun hl => ?_
  (conv => whnf); repeat (first | (refine w ?_; conv => whnf) | (refine ⟨fun h => absurd h Bool.false_ne_true, fun _ => ?_⟩; conv => whnf) | (refine ⟨fun _ => ?_, fun h => absurd h.symm Bool.false_ne_true⟩; conv => whnf))
  exact fin_frz TT rfl rfl
end Go.Av.Z

/- Conditions by themselves. -/
namespace Go.Av.Z
open Go.Proofs

def plainB (p : Pat) : Bool := ((p.slots.length : Int) == 0) && ((p.vars == 0) && ((p.tests.length : Int) == 0))
theorem c141 (p : Pat) : Con P 141 [] [p.av] (.bool (plainB p)) [] := by
  refine go Tryz.func141 (by rfl) rfl rfl rfl fun hl => ?_
  (conv => whnf); repeat (first | (refine w ?_; conv => whnf) | (refine ⟨fun h => absurd h Bool.false_ne_true, fun _ => ?_⟩; conv => whnf) | (refine ⟨fun _ => ?_, fun h => absurd h.symm Bool.false_ne_true⟩; conv => whnf))
  rw [slts_len]
  refine ⟨fun h1 => ?_, fun h1 => ?_⟩
  · (conv => whnf); repeat (first | (refine w ?_; conv => whnf) | (refine ⟨fun h => absurd h Bool.false_ne_true, fun _ => ?_⟩; conv => whnf) | (refine ⟨fun _ => ?_, fun h => absurd h.symm Bool.false_ne_true⟩; conv => whnf))
    refine ⟨fun h2 => ?_, fun h2 => ?_⟩
    · (conv => whnf); repeat (first | (refine w ?_; conv => whnf) | (refine ⟨fun h => absurd h Bool.false_ne_true, fun _ => ?_⟩; conv => whnf) | (refine ⟨fun _ => ?_, fun h => absurd h.symm Bool.false_ne_true⟩; conv => whnf))
      rw [tsts_len]
      refine fin_frz TT ?_ rfl
      rw [plainB, h1, h2]; rfl
    · (conv => whnf); repeat (first | (refine w ?_; conv => whnf) | (refine ⟨fun h => absurd h Bool.false_ne_true, fun _ => ?_⟩; conv => whnf) | (refine ⟨fun _ => ?_, fun h => absurd h.symm Bool.false_ne_true⟩; conv => whnf))
      refine fin_frz TT ?_ rfl
      rw [plainB, h1, h2]; rfl
  · (conv => whnf); repeat (first | (refine w ?_; conv => whnf) | (refine ⟨fun h => absurd h Bool.false_ne_true, fun _ => ?_⟩; conv => whnf) | (refine ⟨fun _ => ?_, fun h => absurd h.symm Bool.false_ne_true⟩; conv => whnf))
    refine fin_frz TT ?_ rfl
    rw [plainB, h1]; rfl
def unusedB (c : Cond) : Bool := ((c.map.nodes.length : Int) == 0) && (((c.map.edges.length : Int) == 0) && (((c.pat.graph.nodes.length : Int) == 0) && (((c.pat.graph.edges.length : Int) == 0) && plainB c.pat)))
theorem c140 (c : Cond) : Con P 140 [] [c.av] (.bool (unusedB c)) [] := by
  refine go Tryz.func140 (by rfl) rfl rfl rfl fun hl => ?_
  (conv => whnf); repeat (first | (refine w ?_; conv => whnf) | (refine ⟨fun h => absurd h Bool.false_ne_true, fun _ => ?_⟩; conv => whnf) | (refine ⟨fun _ => ?_, fun h => absurd h.symm Bool.false_ne_true⟩; conv => whnf))
  rw [nums_len]
  refine ⟨fun h1 => ?_, fun h1 => ?_⟩
  · (conv => whnf); repeat (first | (refine w ?_; conv => whnf) | (refine ⟨fun h => absurd h Bool.false_ne_true, fun _ => ?_⟩; conv => whnf) | (refine ⟨fun _ => ?_, fun h => absurd h.symm Bool.false_ne_true⟩; conv => whnf))
    rw [nums_len]
    refine ⟨fun h2 => ?_, fun h2 => ?_⟩
    · (conv => whnf); repeat (first | (refine w ?_; conv => whnf) | (refine ⟨fun h => absurd h Bool.false_ne_true, fun _ => ?_⟩; conv => whnf) | (refine ⟨fun _ => ?_, fun h => absurd h.symm Bool.false_ne_true⟩; conv => whnf))
      rw [nums_len]
      refine ⟨fun h3 => ?_, fun h3 => ?_⟩
      · (conv => whnf); repeat (first | (refine w ?_; conv => whnf) | (refine ⟨fun h => absurd h Bool.false_ne_true, fun _ => ?_⟩; conv => whnf) | (refine ⟨fun _ => ?_, fun h => absurd h.symm Bool.false_ne_true⟩; conv => whnf))
        rw [edgs_len]
        refine ⟨fun h4 => ?_, fun h4 => ?_⟩
        · (conv => whnf); repeat (first | (refine w ?_; conv => whnf) | (refine ⟨fun h => absurd h Bool.false_ne_true, fun _ => ?_⟩; conv => whnf) | (refine ⟨fun _ => ?_, fun h => absurd h.symm Bool.false_ne_true⟩; conv => whnf))
          refine ⟨_, _, c141 c.pat, ?_⟩
          (conv => whnf); repeat (first | (refine w ?_; conv => whnf) | (refine ⟨fun h => absurd h Bool.false_ne_true, fun _ => ?_⟩; conv => whnf) | (refine ⟨fun _ => ?_, fun h => absurd h.symm Bool.false_ne_true⟩; conv => whnf))
          refine fin_frz TT ?_ rfl
          rw [unusedB, h1, h2, h3, h4]; rfl
        · (conv => whnf); repeat (first | (refine w ?_; conv => whnf) | (refine ⟨fun h => absurd h Bool.false_ne_true, fun _ => ?_⟩; conv => whnf) | (refine ⟨fun _ => ?_, fun h => absurd h.symm Bool.false_ne_true⟩; conv => whnf))
          refine fin_frz TT ?_ rfl
          rw [unusedB, h1, h2, h3, h4]; rfl
      · (conv => whnf); repeat (first | (refine w ?_; conv => whnf) | (refine ⟨fun h => absurd h Bool.false_ne_true, fun _ => ?_⟩; conv => whnf) | (refine ⟨fun _ => ?_, fun h => absurd h.symm Bool.false_ne_true⟩; conv => whnf))
        refine fin_frz TT ?_ rfl
        rw [unusedB, h1, h2, h3]; rfl
    · (conv => whnf); repeat (first | (refine w ?_; conv => whnf) | (refine ⟨fun h => absurd h Bool.false_ne_true, fun _ => ?_⟩; conv => whnf) | (refine ⟨fun _ => ?_, fun h => absurd h.symm Bool.false_ne_true⟩; conv => whnf))
      refine fin_frz TT ?_ rfl
      rw [unusedB, h1, h2]; rfl
  · (conv => whnf); repeat (first | (refine w ?_; conv => whnf) | (refine ⟨fun h => absurd h Bool.false_ne_true, fun _ => ?_⟩; conv => whnf) | (refine ⟨fun _ => ?_, fun h => absurd h.symm Bool.false_ne_true⟩; conv => whnf))
    refine fin_frz TT ?_ rfl
    rw [unusedB, h1]; rfl
end Go.Av.Z

/- Conditions by themselves, on. -/
namespace Go.Av.Z
open Go.Proofs

def shpOk (c : Cond) : Bool :=
  if (c.kind == 1) = true then ((c.kids.length : Int) == 0) && unusedB c else if (c.kind == 2) = true then ((c.kids.length : Int) == 1) && unusedB c
  else if (c.kind == 3) = true ∨ (c.kind == 4) = true then decide ((0 : Int) < c.kids.length) && unusedB c else if (c.kind == 5) = true then ((c.kids.length : Int) == 1) else false
/-- The error of a condition by itself. -/
def shp (c : Cond) : Int := if (!shpOk c) = true then 1 else if (!plainB c.pat) = true then 8 else 0
theorem shp_end (c : Cond) {b : Bool} (h : shpOk c = b) : shp c = if (!b) = true then 1 else if (!plainB c.pat) = true then 8 else 0 := by rw [shp, h]

theorem c105 (c : Cond) : Con P 105 [] [c.av] (.int .i64 (shp c)) [] := by
  refine go Tryz.func105 (by rfl) rfl rfl rfl fun hl => ?_
  (conv => whnf); repeat (first | (refine w ?_; conv => whnf) | (refine ⟨fun h => absurd h Bool.false_ne_true, fun _ => ?_⟩; conv => whnf) | (refine ⟨fun _ => ?_, fun h => absurd h.symm Bool.false_ne_true⟩; conv => whnf))
  refine ⟨fun k1 => ?_, fun k1 => ?_⟩
  · have e : shpOk c = (((c.kids.length : Int) == 0) && unusedB c) := by rw [shpOk, if_pos k1]
    (conv => whnf); repeat (first | (refine w ?_; conv => whnf) | (refine ⟨fun h => absurd h Bool.false_ne_true, fun _ => ?_⟩; conv => whnf) | (refine ⟨fun _ => ?_, fun h => absurd h.symm Bool.false_ne_true⟩; conv => whnf))
    rw [cnds_len]
    refine ⟨fun n1 => ?_, fun n1 => ?_⟩
    · rw [n1, Bool.true_and] at e
      (conv => whnf); repeat (first | (refine w ?_; conv => whnf) | (refine ⟨fun h => absurd h Bool.false_ne_true, fun _ => ?_⟩; conv => whnf) | (refine ⟨fun _ => ?_, fun h => absurd h.symm Bool.false_ne_true⟩; conv => whnf))
      refine ⟨_, _, c140 c, ?_⟩
      (conv => whnf); repeat (first | (refine w ?_; conv => whnf) | (refine ⟨fun h => absurd h Bool.false_ne_true, fun _ => ?_⟩; conv => whnf) | (refine ⟨fun _ => ?_, fun h => absurd h.symm Bool.false_ne_true⟩; conv => whnf))
      refine ⟨fun h => ?_, fun h => ?_⟩
      · (conv => whnf); repeat (first | (refine w ?_; conv => whnf) | (refine ⟨fun h => absurd h Bool.false_ne_true, fun _ => ?_⟩; conv => whnf) | (refine ⟨fun _ => ?_, fun h => absurd h.symm Bool.false_ne_true⟩; conv => whnf))
        refine fin_frz TT ?_ rfl
        rw [shp_end c e, if_pos h]; rfl
      · (conv => whnf); repeat (first | (refine w ?_; conv => whnf) | (refine ⟨fun h => absurd h Bool.false_ne_true, fun _ => ?_⟩; conv => whnf) | (refine ⟨fun _ => ?_, fun h => absurd h.symm Bool.false_ne_true⟩; conv => whnf))
        refine ⟨_, _, c141 c.pat, ?_⟩
        (conv => whnf); repeat (first | (refine w ?_; conv => whnf) | (refine ⟨fun h => absurd h Bool.false_ne_true, fun _ => ?_⟩; conv => whnf) | (refine ⟨fun _ => ?_, fun h => absurd h.symm Bool.false_ne_true⟩; conv => whnf))
        refine ⟨fun p => ?_, fun p => ?_⟩
        · (conv => whnf); repeat (first | (refine w ?_; conv => whnf) | (refine ⟨fun h => absurd h Bool.false_ne_true, fun _ => ?_⟩; conv => whnf) | (refine ⟨fun _ => ?_, fun h => absurd h.symm Bool.false_ne_true⟩; conv => whnf))
          refine fin_frz TT ?_ rfl
          rw [shp_end c e, if_neg (by simp [h]), if_pos p]; rfl
        · (conv => whnf); repeat (first | (refine w ?_; conv => whnf) | (refine ⟨fun h => absurd h Bool.false_ne_true, fun _ => ?_⟩; conv => whnf) | (refine ⟨fun _ => ?_, fun h => absurd h.symm Bool.false_ne_true⟩; conv => whnf))
          refine fin_frz TT ?_ rfl
          rw [shp_end c e, if_neg (by simp [h]), if_neg (by simp [p])]; rfl
    · rw [n1, Bool.false_and] at e
      (conv => whnf); repeat (first | (refine w ?_; conv => whnf) | (refine ⟨fun h => absurd h Bool.false_ne_true, fun _ => ?_⟩; conv => whnf) | (refine ⟨fun _ => ?_, fun h => absurd h.symm Bool.false_ne_true⟩; conv => whnf))
      refine fin_frz TT ?_ rfl
      rw [shp_end c e]; rfl
  (conv => whnf); repeat (first | (refine w ?_; conv => whnf) | (refine ⟨fun h => absurd h Bool.false_ne_true, fun _ => ?_⟩; conv => whnf) | (refine ⟨fun _ => ?_, fun h => absurd h.symm Bool.false_ne_true⟩; conv => whnf))
  refine ⟨fun k2 => ?_, fun k2 => ?_⟩
  · have e : shpOk c = (((c.kids.length : Int) == 1) && unusedB c) := by rw [shpOk, if_neg (by simp [k1]), if_pos k2]
    (conv => whnf); repeat (first | (refine w ?_; conv => whnf) | (refine ⟨fun h => absurd h Bool.false_ne_true, fun _ => ?_⟩; conv => whnf) | (refine ⟨fun _ => ?_, fun h => absurd h.symm Bool.false_ne_true⟩; conv => whnf))
    rw [cnds_len]
    refine ⟨fun n1 => ?_, fun n1 => ?_⟩
    · rw [n1, Bool.true_and] at e
      (conv => whnf); repeat (first | (refine w ?_; conv => whnf) | (refine ⟨fun h => absurd h Bool.false_ne_true, fun _ => ?_⟩; conv => whnf) | (refine ⟨fun _ => ?_, fun h => absurd h.symm Bool.false_ne_true⟩; conv => whnf))
      refine ⟨_, _, c140 c, ?_⟩
      (conv => whnf); repeat (first | (refine w ?_; conv => whnf) | (refine ⟨fun h => absurd h Bool.false_ne_true, fun _ => ?_⟩; conv => whnf) | (refine ⟨fun _ => ?_, fun h => absurd h.symm Bool.false_ne_true⟩; conv => whnf))
      refine ⟨fun h => ?_, fun h => ?_⟩
      · (conv => whnf); repeat (first | (refine w ?_; conv => whnf) | (refine ⟨fun h => absurd h Bool.false_ne_true, fun _ => ?_⟩; conv => whnf) | (refine ⟨fun _ => ?_, fun h => absurd h.symm Bool.false_ne_true⟩; conv => whnf))
        refine fin_frz TT ?_ rfl
        rw [shp_end c e, if_pos h]; rfl
      · (conv => whnf); repeat (first | (refine w ?_; conv => whnf) | (refine ⟨fun h => absurd h Bool.false_ne_true, fun _ => ?_⟩; conv => whnf) | (refine ⟨fun _ => ?_, fun h => absurd h.symm Bool.false_ne_true⟩; conv => whnf))
        refine ⟨_, _, c141 c.pat, ?_⟩
        (conv => whnf); repeat (first | (refine w ?_; conv => whnf) | (refine ⟨fun h => absurd h Bool.false_ne_true, fun _ => ?_⟩; conv => whnf) | (refine ⟨fun _ => ?_, fun h => absurd h.symm Bool.false_ne_true⟩; conv => whnf))
        refine ⟨fun p => ?_, fun p => ?_⟩
        · (conv => whnf); repeat (first | (refine w ?_; conv => whnf) | (refine ⟨fun h => absurd h Bool.false_ne_true, fun _ => ?_⟩; conv => whnf) | (refine ⟨fun _ => ?_, fun h => absurd h.symm Bool.false_ne_true⟩; conv => whnf))
          refine fin_frz TT ?_ rfl
          rw [shp_end c e, if_neg (by simp [h]), if_pos p]; rfl
        · (conv => whnf); repeat (first | (refine w ?_; conv => whnf) | (refine ⟨fun h => absurd h Bool.false_ne_true, fun _ => ?_⟩; conv => whnf) | (refine ⟨fun _ => ?_, fun h => absurd h.symm Bool.false_ne_true⟩; conv => whnf))
          refine fin_frz TT ?_ rfl
          rw [shp_end c e, if_neg (by simp [h]), if_neg (by simp [p])]; rfl
    · rw [n1, Bool.false_and] at e
      (conv => whnf); repeat (first | (refine w ?_; conv => whnf) | (refine ⟨fun h => absurd h Bool.false_ne_true, fun _ => ?_⟩; conv => whnf) | (refine ⟨fun _ => ?_, fun h => absurd h.symm Bool.false_ne_true⟩; conv => whnf))
      refine fin_frz TT ?_ rfl
      rw [shp_end c e]; rfl
  (conv => whnf); repeat (first | (refine w ?_; conv => whnf) | (refine ⟨fun h => absurd h Bool.false_ne_true, fun _ => ?_⟩; conv => whnf) | (refine ⟨fun _ => ?_, fun h => absurd h.symm Bool.false_ne_true⟩; conv => whnf))
  refine ⟨fun k3 => ?_, fun k3 => ?_⟩
  · have e : shpOk c = (decide ((0 : Int) < c.kids.length) && unusedB c) := by rw [shpOk, if_neg (by simp [k1]), if_neg (by simp [k2]), if_pos (.inl k3)]
    (conv => whnf); repeat (first | (refine w ?_; conv => whnf) | (refine ⟨fun h => absurd h Bool.false_ne_true, fun _ => ?_⟩; conv => whnf) | (refine ⟨fun _ => ?_, fun h => absurd h.symm Bool.false_ne_true⟩; conv => whnf))
    refine ⟨fun _ => ?_, fun h => absurd (k3.symm.trans h) (by decide)⟩
    (conv => whnf); repeat (first | (refine w ?_; conv => whnf) | (refine ⟨fun h => absurd h Bool.false_ne_true, fun _ => ?_⟩; conv => whnf) | (refine ⟨fun _ => ?_, fun h => absurd h.symm Bool.false_ne_true⟩; conv => whnf))
    rw [cnds_len]
    refine ⟨fun n1 => ?_, fun n1 => ?_⟩
    · rw [n1, Bool.true_and] at e
      (conv => whnf); repeat (first | (refine w ?_; conv => whnf) | (refine ⟨fun h => absurd h Bool.false_ne_true, fun _ => ?_⟩; conv => whnf) | (refine ⟨fun _ => ?_, fun h => absurd h.symm Bool.false_ne_true⟩; conv => whnf))
      refine ⟨_, _, c140 c, ?_⟩
      (conv => whnf); repeat (first | (refine w ?_; conv => whnf) | (refine ⟨fun h => absurd h Bool.false_ne_true, fun _ => ?_⟩; conv => whnf) | (refine ⟨fun _ => ?_, fun h => absurd h.symm Bool.false_ne_true⟩; conv => whnf))
      refine ⟨fun h => ?_, fun h => ?_⟩
      · (conv => whnf); repeat (first | (refine w ?_; conv => whnf) | (refine ⟨fun h => absurd h Bool.false_ne_true, fun _ => ?_⟩; conv => whnf) | (refine ⟨fun _ => ?_, fun h => absurd h.symm Bool.false_ne_true⟩; conv => whnf))
        refine fin_frz TT ?_ rfl
        rw [shp_end c e, if_pos h]; rfl
      · (conv => whnf); repeat (first | (refine w ?_; conv => whnf) | (refine ⟨fun h => absurd h Bool.false_ne_true, fun _ => ?_⟩; conv => whnf) | (refine ⟨fun _ => ?_, fun h => absurd h.symm Bool.false_ne_true⟩; conv => whnf))
        refine ⟨_, _, c141 c.pat, ?_⟩
        (conv => whnf); repeat (first | (refine w ?_; conv => whnf) | (refine ⟨fun h => absurd h Bool.false_ne_true, fun _ => ?_⟩; conv => whnf) | (refine ⟨fun _ => ?_, fun h => absurd h.symm Bool.false_ne_true⟩; conv => whnf))
        refine ⟨fun p => ?_, fun p => ?_⟩
        · (conv => whnf); repeat (first | (refine w ?_; conv => whnf) | (refine ⟨fun h => absurd h Bool.false_ne_true, fun _ => ?_⟩; conv => whnf) | (refine ⟨fun _ => ?_, fun h => absurd h.symm Bool.false_ne_true⟩; conv => whnf))
          refine fin_frz TT ?_ rfl
          rw [shp_end c e, if_neg (by simp [h]), if_pos p]; rfl
        · (conv => whnf); repeat (first | (refine w ?_; conv => whnf) | (refine ⟨fun h => absurd h Bool.false_ne_true, fun _ => ?_⟩; conv => whnf) | (refine ⟨fun _ => ?_, fun h => absurd h.symm Bool.false_ne_true⟩; conv => whnf))
          refine fin_frz TT ?_ rfl
          rw [shp_end c e, if_neg (by simp [h]), if_neg (by simp [p])]; rfl
    · rw [n1, Bool.false_and] at e
      (conv => whnf); repeat (first | (refine w ?_; conv => whnf) | (refine ⟨fun h => absurd h Bool.false_ne_true, fun _ => ?_⟩; conv => whnf) | (refine ⟨fun _ => ?_, fun h => absurd h.symm Bool.false_ne_true⟩; conv => whnf))
      refine fin_frz TT ?_ rfl
      rw [shp_end c e]; rfl
  (conv => whnf); repeat (first | (refine w ?_; conv => whnf) | (refine ⟨fun h => absurd h Bool.false_ne_true, fun _ => ?_⟩; conv => whnf) | (refine ⟨fun _ => ?_, fun h => absurd h.symm Bool.false_ne_true⟩; conv => whnf))
  refine ⟨fun k4 => ?_, fun k4 => ?_⟩
  · have e : shpOk c = (decide ((0 : Int) < c.kids.length) && unusedB c) := by rw [shpOk, if_neg (by simp [k1]), if_neg (by simp [k2]), if_pos (.inr k4)]
    (conv => whnf); repeat (first | (refine w ?_; conv => whnf) | (refine ⟨fun h => absurd h Bool.false_ne_true, fun _ => ?_⟩; conv => whnf) | (refine ⟨fun _ => ?_, fun h => absurd h.symm Bool.false_ne_true⟩; conv => whnf))
    rw [cnds_len]
    refine ⟨fun n1 => ?_, fun n1 => ?_⟩
    · rw [n1, Bool.true_and] at e
      (conv => whnf); repeat (first | (refine w ?_; conv => whnf) | (refine ⟨fun h => absurd h Bool.false_ne_true, fun _ => ?_⟩; conv => whnf) | (refine ⟨fun _ => ?_, fun h => absurd h.symm Bool.false_ne_true⟩; conv => whnf))
      refine ⟨_, _, c140 c, ?_⟩
      (conv => whnf); repeat (first | (refine w ?_; conv => whnf) | (refine ⟨fun h => absurd h Bool.false_ne_true, fun _ => ?_⟩; conv => whnf) | (refine ⟨fun _ => ?_, fun h => absurd h.symm Bool.false_ne_true⟩; conv => whnf))
      refine ⟨fun h => ?_, fun h => ?_⟩
      · (conv => whnf); repeat (first | (refine w ?_; conv => whnf) | (refine ⟨fun h => absurd h Bool.false_ne_true, fun _ => ?_⟩; conv => whnf) | (refine ⟨fun _ => ?_, fun h => absurd h.symm Bool.false_ne_true⟩; conv => whnf))
        refine fin_frz TT ?_ rfl
        rw [shp_end c e, if_pos h]; rfl
      · (conv => whnf); repeat (first | (refine w ?_; conv => whnf) | (refine ⟨fun h => absurd h Bool.false_ne_true, fun _ => ?_⟩; conv => whnf) | (refine ⟨fun _ => ?_, fun h => absurd h.symm Bool.false_ne_true⟩; conv => whnf))
        refine ⟨_, _, c141 c.pat, ?_⟩
        (conv => whnf); repeat (first | (refine w ?_; conv => whnf) | (refine ⟨fun h => absurd h Bool.false_ne_true, fun _ => ?_⟩; conv => whnf) | (refine ⟨fun _ => ?_, fun h => absurd h.symm Bool.false_ne_true⟩; conv => whnf))
        refine ⟨fun p => ?_, fun p => ?_⟩
        · (conv => whnf); repeat (first | (refine w ?_; conv => whnf) | (refine ⟨fun h => absurd h Bool.false_ne_true, fun _ => ?_⟩; conv => whnf) | (refine ⟨fun _ => ?_, fun h => absurd h.symm Bool.false_ne_true⟩; conv => whnf))
          refine fin_frz TT ?_ rfl
          rw [shp_end c e, if_neg (by simp [h]), if_pos p]; rfl
        · (conv => whnf); repeat (first | (refine w ?_; conv => whnf) | (refine ⟨fun h => absurd h Bool.false_ne_true, fun _ => ?_⟩; conv => whnf) | (refine ⟨fun _ => ?_, fun h => absurd h.symm Bool.false_ne_true⟩; conv => whnf))
          refine fin_frz TT ?_ rfl
          rw [shp_end c e, if_neg (by simp [h]), if_neg (by simp [p])]; rfl
    · rw [n1, Bool.false_and] at e
      (conv => whnf); repeat (first | (refine w ?_; conv => whnf) | (refine ⟨fun h => absurd h Bool.false_ne_true, fun _ => ?_⟩; conv => whnf) | (refine ⟨fun _ => ?_, fun h => absurd h.symm Bool.false_ne_true⟩; conv => whnf))
      refine fin_frz TT ?_ rfl
      rw [shp_end c e]; rfl
  (conv => whnf); repeat (first | (refine w ?_; conv => whnf) | (refine ⟨fun h => absurd h Bool.false_ne_true, fun _ => ?_⟩; conv => whnf) | (refine ⟨fun _ => ?_, fun h => absurd h.symm Bool.false_ne_true⟩; conv => whnf))
  refine ⟨fun k5 => ?_, fun k5 => ?_⟩
  · have e : shpOk c = ((c.kids.length : Int) == 1) := by rw [shpOk, if_neg (by simp [k1]), if_neg (by simp [k2]), if_neg (by simp [k3, k4]), if_pos k5]
    (conv => whnf); repeat (first | (refine w ?_; conv => whnf) | (refine ⟨fun h => absurd h Bool.false_ne_true, fun _ => ?_⟩; conv => whnf) | (refine ⟨fun _ => ?_, fun h => absurd h.symm Bool.false_ne_true⟩; conv => whnf))
    rw [cnds_len]
    refine ⟨fun h => ?_, fun h => ?_⟩
    · (conv => whnf); repeat (first | (refine w ?_; conv => whnf) | (refine ⟨fun h => absurd h Bool.false_ne_true, fun _ => ?_⟩; conv => whnf) | (refine ⟨fun _ => ?_, fun h => absurd h.symm Bool.false_ne_true⟩; conv => whnf))
      refine fin_frz TT ?_ rfl
      rw [shp_end c e, if_pos h]; rfl
    · (conv => whnf); repeat (first | (refine w ?_; conv => whnf) | (refine ⟨fun h => absurd h Bool.false_ne_true, fun _ => ?_⟩; conv => whnf) | (refine ⟨fun _ => ?_, fun h => absurd h.symm Bool.false_ne_true⟩; conv => whnf))
      refine ⟨_, _, c141 c.pat, ?_⟩
      (conv => whnf); repeat (first | (refine w ?_; conv => whnf) | (refine ⟨fun h => absurd h Bool.false_ne_true, fun _ => ?_⟩; conv => whnf) | (refine ⟨fun _ => ?_, fun h => absurd h.symm Bool.false_ne_true⟩; conv => whnf))
      refine ⟨fun p => ?_, fun p => ?_⟩
      · (conv => whnf); repeat (first | (refine w ?_; conv => whnf) | (refine ⟨fun h => absurd h Bool.false_ne_true, fun _ => ?_⟩; conv => whnf) | (refine ⟨fun _ => ?_, fun h => absurd h.symm Bool.false_ne_true⟩; conv => whnf))
        refine fin_frz TT ?_ rfl
        rw [shp_end c e, if_neg (by simp [h]), if_pos p]; rfl
      · (conv => whnf); repeat (first | (refine w ?_; conv => whnf) | (refine ⟨fun h => absurd h Bool.false_ne_true, fun _ => ?_⟩; conv => whnf) | (refine ⟨fun _ => ?_, fun h => absurd h.symm Bool.false_ne_true⟩; conv => whnf))
        refine fin_frz TT ?_ rfl
        rw [shp_end c e, if_neg (by simp [h]), if_neg (by simp [p])]; rfl
  · have e : shpOk c = false := by rw [shpOk, if_neg (by simp [k1]), if_neg (by simp [k2]), if_neg (by simp [k3, k4]), if_neg (by simp [k5])]
    (conv => whnf); repeat (first | (refine w ?_; conv => whnf) | (refine ⟨fun h => absurd h Bool.false_ne_true, fun _ => ?_⟩; conv => whnf) | (refine ⟨fun _ => ?_, fun h => absurd h.symm Bool.false_ne_true⟩; conv => whnf))
    refine fin_frz TT ?_ rfl
    rw [shp_end c e]; rfl
end Go.Av.Z

/- The reference: conditions by themselves. -/
namespace Go.Av.Z
open Go.Proofs

/-- The lists of a condition, without its kids', are no longer than memory lets them be. -/
def Cond.fine (c : Cond) : Prop := c.map.nodes.length ≤ 1099511627776 ∧ c.map.edges.length ≤ 1099511627776 ∧ c.pat.graph.nodes.length ≤ 1099511627776 ∧ c.pat.graph.edges.length ≤ 1099511627776 ∧ c.pat.slots.length ≤ 1099511627776 ∧ c.pat.tests.length ≤ 1099511627776
theorem bare_eq (a b c d e f : Nat) (v : Int) (h : a ≤ 1099511627776 ∧ b ≤ 1099511627776 ∧ c ≤ 1099511627776 ∧ d ≤ 1099511627776 ∧ e ≤ 1099511627776 ∧ f ≤ 1099511627776) :
    ((IntKind.i64.wrap (IntKind.i64.wrap (IntKind.i64.wrap (IntKind.i64.wrap (IntKind.i64.wrap (IntKind.i64.wrap ((a : Int) + b) + c) + d) + e) + v) + f) == 0) && (v == 0)) = (((a : Int) == 0) && (((b : Int) == 0) && (((c : Int) == 0) && (((d : Int) == 0) && (((e : Int) == 0) && ((v == 0) && ((f : Int) == 0))))))) := by
  by_cases hv : v = 0
  · subst hv
    rw [wrap_small (n := (a : Int) + b) (by omega) (by omega), wrap_small (n := (a : Int) + b + c) (by omega) (by omega), wrap_small (n := (a : Int) + b + c + d) (by omega) (by omega), wrap_small (n := (a : Int) + b + c + d + e) (by omega) (by omega), wrap_small (n := (a : Int) + b + c + d + e + 0) (by omega) (by omega), wrap_small (n := (a : Int) + b + c + d + e + 0 + f) (by omega) (by omega)]
    rw [Bool.eq_iff_iff]
    simp
    omega
  · have : (v == 0) = false := by simpa using hv
    rw [this]; simp
theorem c107 (c : Cond) (hc : c.fine) : Con P 107 [] [c.av] (.bool (unusedB c)) [] := by
  have key := bare_eq c.map.nodes.length c.map.edges.length c.pat.graph.nodes.length c.pat.graph.edges.length c.pat.slots.length c.pat.tests.length c.pat.vars hc
  refine go Tryz.func107 (by rfl) rfl rfl rfl fun hl => ?_
  (conv => whnf); repeat (first | (refine w ?_; conv => whnf) | (refine ⟨fun h => absurd h Bool.false_ne_true, fun _ => ?_⟩; conv => whnf) | (refine ⟨fun _ => ?_, fun h => absurd h.symm Bool.false_ne_true⟩; conv => whnf))
  rw [nums_len, nums_len, nums_len, edgs_len, slts_len, tsts_len]
  refine ⟨fun h1 => ?_, fun h1 => ?_⟩
  · (conv => whnf); repeat (first | (refine w ?_; conv => whnf) | (refine ⟨fun h => absurd h Bool.false_ne_true, fun _ => ?_⟩; conv => whnf) | (refine ⟨fun _ => ?_, fun h => absurd h.symm Bool.false_ne_true⟩; conv => whnf))
    refine fin_frz TT ?_ rfl
    rw [unusedB, plainB, ← key, h1]; rfl
  · (conv => whnf); repeat (first | (refine w ?_; conv => whnf) | (refine ⟨fun h => absurd h Bool.false_ne_true, fun _ => ?_⟩; conv => whnf) | (refine ⟨fun _ => ?_, fun h => absurd h.symm Bool.false_ne_true⟩; conv => whnf))
    refine fin_frz TT ?_ rfl
    rw [unusedB, plainB, ← key, h1]; rfl
end Go.Av.Z

/- The reference: conditions by themselves, on. -/
namespace Go.Av.Z
open Go.Proofs

theorem unused_plain {c : Cond} (h : unusedB c = true) : plainB c.pat = true := by
  unfold unusedB at h
  simp only [Bool.and_eq_true] at h
  exact h.2.2.2.2
theorem shp_bad {c : Cond} (h : shpOk c = false) : shp c = 1 := by rw [shp, h]; rfl
theorem shp_good {c : Cond} (h : shpOk c = true) (hp : plainB c.pat = true) : shp c = 0 := by rw [shp, h, hp]; rfl
theorem c76 (c : Cond) (hc : c.fine) : Con P 76 [] [c.av] (.int .i64 (shp c)) [] := by
  refine go Tryz.func76 (by rfl) rfl rfl rfl fun hl => ?_
  (conv => whnf); repeat (first | (refine w ?_; conv => whnf) | (refine ⟨fun h => absurd h Bool.false_ne_true, fun _ => ?_⟩; conv => whnf) | (refine ⟨fun _ => ?_, fun h => absurd h.symm Bool.false_ne_true⟩; conv => whnf))
  rw [cnds_len]
  refine ⟨fun k1 => ?_, fun k1 => ?_⟩
  · have e : shpOk c = (((c.kids.length : Int) == 0) && unusedB c) := by rw [shpOk, if_pos k1]
    (conv => whnf); repeat (first | (refine w ?_; conv => whnf) | (refine ⟨fun h => absurd h Bool.false_ne_true, fun _ => ?_⟩; conv => whnf) | (refine ⟨fun _ => ?_, fun h => absurd h.symm Bool.false_ne_true⟩; conv => whnf))
    refine ⟨fun n1 => ?_, fun n1 => ?_⟩
    · have n0 : ((c.kids.length : Int) == 0) = false := by have := of_decide_eq_true n1; rw [beq_eq_false_iff_ne]; omega
      rw [n0, Bool.false_and] at e
      (conv => whnf); repeat (first | (refine w ?_; conv => whnf) | (refine ⟨fun h => absurd h Bool.false_ne_true, fun _ => ?_⟩; conv => whnf) | (refine ⟨fun _ => ?_, fun h => absurd h.symm Bool.false_ne_true⟩; conv => whnf))
      refine fin_frz TT ?_ rfl
      rw [shp_bad e]; rfl
    · have n0 : ((c.kids.length : Int) == 0) = true := by have := of_decide_eq_false n1; rw [beq_iff_eq]; omega
      rw [n0, Bool.true_and] at e
      (conv => whnf); repeat (first | (refine w ?_; conv => whnf) | (refine ⟨fun h => absurd h Bool.false_ne_true, fun _ => ?_⟩; conv => whnf) | (refine ⟨fun _ => ?_, fun h => absurd h.symm Bool.false_ne_true⟩; conv => whnf))
      refine ⟨_, _, c107 c hc, ?_⟩
      (conv => whnf); repeat (first | (refine w ?_; conv => whnf) | (refine ⟨fun h => absurd h Bool.false_ne_true, fun _ => ?_⟩; conv => whnf) | (refine ⟨fun _ => ?_, fun h => absurd h.symm Bool.false_ne_true⟩; conv => whnf))
      refine ⟨fun h => ?_, fun h => ?_⟩
      · (conv => whnf); repeat (first | (refine w ?_; conv => whnf) | (refine ⟨fun h => absurd h Bool.false_ne_true, fun _ => ?_⟩; conv => whnf) | (refine ⟨fun _ => ?_, fun h => absurd h.symm Bool.false_ne_true⟩; conv => whnf))
        refine fin_frz TT ?_ rfl
        rw [shp_bad (e.trans (by simpa using h))]; rfl
      · (conv => whnf); repeat (first | (refine w ?_; conv => whnf) | (refine ⟨fun h => absurd h Bool.false_ne_true, fun _ => ?_⟩; conv => whnf) | (refine ⟨fun _ => ?_, fun h => absurd h.symm Bool.false_ne_true⟩; conv => whnf))
        refine fin_frz TT ?_ rfl
        have h : unusedB c = true := by simpa using h
        rw [shp_good (e.trans h) (unused_plain h)]; rfl
  (conv => whnf); repeat (first | (refine w ?_; conv => whnf) | (refine ⟨fun h => absurd h Bool.false_ne_true, fun _ => ?_⟩; conv => whnf) | (refine ⟨fun _ => ?_, fun h => absurd h.symm Bool.false_ne_true⟩; conv => whnf))
  refine ⟨fun k2 => ?_, fun k2 => ?_⟩
  · have e : shpOk c = (((c.kids.length : Int) == 1) && unusedB c) := by rw [shpOk, if_neg (by simp [k1]), if_pos k2]
    (conv => whnf); repeat (first | (refine w ?_; conv => whnf) | (refine ⟨fun h => absurd h Bool.false_ne_true, fun _ => ?_⟩; conv => whnf) | (refine ⟨fun _ => ?_, fun h => absurd h.symm Bool.false_ne_true⟩; conv => whnf))
    refine ⟨fun n1 => ?_, fun n1 => ?_⟩
    · have n0 : ((c.kids.length : Int) == 1) = false := by simpa using n1
      rw [n0, Bool.false_and] at e
      (conv => whnf); repeat (first | (refine w ?_; conv => whnf) | (refine ⟨fun h => absurd h Bool.false_ne_true, fun _ => ?_⟩; conv => whnf) | (refine ⟨fun _ => ?_, fun h => absurd h.symm Bool.false_ne_true⟩; conv => whnf))
      refine fin_frz TT ?_ rfl
      rw [shp_bad e]; rfl
    · have n0 : ((c.kids.length : Int) == 1) = true := by simpa using n1
      rw [n0, Bool.true_and] at e
      (conv => whnf); repeat (first | (refine w ?_; conv => whnf) | (refine ⟨fun h => absurd h Bool.false_ne_true, fun _ => ?_⟩; conv => whnf) | (refine ⟨fun _ => ?_, fun h => absurd h.symm Bool.false_ne_true⟩; conv => whnf))
      refine ⟨_, _, c107 c hc, ?_⟩
      (conv => whnf); repeat (first | (refine w ?_; conv => whnf) | (refine ⟨fun h => absurd h Bool.false_ne_true, fun _ => ?_⟩; conv => whnf) | (refine ⟨fun _ => ?_, fun h => absurd h.symm Bool.false_ne_true⟩; conv => whnf))
      refine ⟨fun h => ?_, fun h => ?_⟩
      · (conv => whnf); repeat (first | (refine w ?_; conv => whnf) | (refine ⟨fun h => absurd h Bool.false_ne_true, fun _ => ?_⟩; conv => whnf) | (refine ⟨fun _ => ?_, fun h => absurd h.symm Bool.false_ne_true⟩; conv => whnf))
        refine fin_frz TT ?_ rfl
        rw [shp_bad (e.trans (by simpa using h))]; rfl
      · (conv => whnf); repeat (first | (refine w ?_; conv => whnf) | (refine ⟨fun h => absurd h Bool.false_ne_true, fun _ => ?_⟩; conv => whnf) | (refine ⟨fun _ => ?_, fun h => absurd h.symm Bool.false_ne_true⟩; conv => whnf))
        refine fin_frz TT ?_ rfl
        have h : unusedB c = true := by simpa using h
        rw [shp_good (e.trans h) (unused_plain h)]; rfl
  (conv => whnf); repeat (first | (refine w ?_; conv => whnf) | (refine ⟨fun h => absurd h Bool.false_ne_true, fun _ => ?_⟩; conv => whnf) | (refine ⟨fun _ => ?_, fun h => absurd h.symm Bool.false_ne_true⟩; conv => whnf))
  refine ⟨fun k3 => ?_, fun k3 => ?_⟩
  · have e : shpOk c = (decide ((0 : Int) < c.kids.length) && unusedB c) := by rw [shpOk, if_neg (by simp [k1]), if_neg (by simp [k2]), if_pos (.inl k3)]
    (conv => whnf); repeat (first | (refine w ?_; conv => whnf) | (refine ⟨fun h => absurd h Bool.false_ne_true, fun _ => ?_⟩; conv => whnf) | (refine ⟨fun _ => ?_, fun h => absurd h.symm Bool.false_ne_true⟩; conv => whnf))
    refine ⟨fun _ => ?_, fun h => absurd (k3.symm.trans h) (by decide)⟩
    (conv => whnf); repeat (first | (refine w ?_; conv => whnf) | (refine ⟨fun h => absurd h Bool.false_ne_true, fun _ => ?_⟩; conv => whnf) | (refine ⟨fun _ => ?_, fun h => absurd h.symm Bool.false_ne_true⟩; conv => whnf))
    refine ⟨fun n1 => ?_, fun n1 => ?_⟩
    · have n0 : decide ((0 : Int) < c.kids.length) = false := by have : ((c.kids.length : Int) == 0) = true := n1; simp at this; simp [this]
      rw [n0, Bool.false_and] at e
      (conv => whnf); repeat (first | (refine w ?_; conv => whnf) | (refine ⟨fun h => absurd h Bool.false_ne_true, fun _ => ?_⟩; conv => whnf) | (refine ⟨fun _ => ?_, fun h => absurd h.symm Bool.false_ne_true⟩; conv => whnf))
      refine fin_frz TT ?_ rfl
      rw [shp_bad e]; rfl
    · have n0 : decide ((0 : Int) < c.kids.length) = true := by have : ((c.kids.length : Int) == 0) = false := n1; simp at this; simp; exact List.length_pos_iff.2 this
      rw [n0, Bool.true_and] at e
      (conv => whnf); repeat (first | (refine w ?_; conv => whnf) | (refine ⟨fun h => absurd h Bool.false_ne_true, fun _ => ?_⟩; conv => whnf) | (refine ⟨fun _ => ?_, fun h => absurd h.symm Bool.false_ne_true⟩; conv => whnf))
      refine ⟨_, _, c107 c hc, ?_⟩
      (conv => whnf); repeat (first | (refine w ?_; conv => whnf) | (refine ⟨fun h => absurd h Bool.false_ne_true, fun _ => ?_⟩; conv => whnf) | (refine ⟨fun _ => ?_, fun h => absurd h.symm Bool.false_ne_true⟩; conv => whnf))
      refine ⟨fun h => ?_, fun h => ?_⟩
      · (conv => whnf); repeat (first | (refine w ?_; conv => whnf) | (refine ⟨fun h => absurd h Bool.false_ne_true, fun _ => ?_⟩; conv => whnf) | (refine ⟨fun _ => ?_, fun h => absurd h.symm Bool.false_ne_true⟩; conv => whnf))
        refine fin_frz TT ?_ rfl
        rw [shp_bad (e.trans (by simpa using h))]; rfl
      · (conv => whnf); repeat (first | (refine w ?_; conv => whnf) | (refine ⟨fun h => absurd h Bool.false_ne_true, fun _ => ?_⟩; conv => whnf) | (refine ⟨fun _ => ?_, fun h => absurd h.symm Bool.false_ne_true⟩; conv => whnf))
        refine fin_frz TT ?_ rfl
        have h : unusedB c = true := by simpa using h
        rw [shp_good (e.trans h) (unused_plain h)]; rfl
  (conv => whnf); repeat (first | (refine w ?_; conv => whnf) | (refine ⟨fun h => absurd h Bool.false_ne_true, fun _ => ?_⟩; conv => whnf) | (refine ⟨fun _ => ?_, fun h => absurd h.symm Bool.false_ne_true⟩; conv => whnf))
  refine ⟨fun k4 => ?_, fun k4 => ?_⟩
  · have e : shpOk c = (decide ((0 : Int) < c.kids.length) && unusedB c) := by rw [shpOk, if_neg (by simp [k1]), if_neg (by simp [k2]), if_pos (.inr k4)]
    (conv => whnf); repeat (first | (refine w ?_; conv => whnf) | (refine ⟨fun h => absurd h Bool.false_ne_true, fun _ => ?_⟩; conv => whnf) | (refine ⟨fun _ => ?_, fun h => absurd h.symm Bool.false_ne_true⟩; conv => whnf))
    refine ⟨fun n1 => ?_, fun n1 => ?_⟩
    · have n0 : decide ((0 : Int) < c.kids.length) = false := by have : ((c.kids.length : Int) == 0) = true := n1; simp at this; simp [this]
      rw [n0, Bool.false_and] at e
      (conv => whnf); repeat (first | (refine w ?_; conv => whnf) | (refine ⟨fun h => absurd h Bool.false_ne_true, fun _ => ?_⟩; conv => whnf) | (refine ⟨fun _ => ?_, fun h => absurd h.symm Bool.false_ne_true⟩; conv => whnf))
      refine fin_frz TT ?_ rfl
      rw [shp_bad e]; rfl
    · have n0 : decide ((0 : Int) < c.kids.length) = true := by have : ((c.kids.length : Int) == 0) = false := n1; simp at this; simp; exact List.length_pos_iff.2 this
      rw [n0, Bool.true_and] at e
      (conv => whnf); repeat (first | (refine w ?_; conv => whnf) | (refine ⟨fun h => absurd h Bool.false_ne_true, fun _ => ?_⟩; conv => whnf) | (refine ⟨fun _ => ?_, fun h => absurd h.symm Bool.false_ne_true⟩; conv => whnf))
      refine ⟨_, _, c107 c hc, ?_⟩
      (conv => whnf); repeat (first | (refine w ?_; conv => whnf) | (refine ⟨fun h => absurd h Bool.false_ne_true, fun _ => ?_⟩; conv => whnf) | (refine ⟨fun _ => ?_, fun h => absurd h.symm Bool.false_ne_true⟩; conv => whnf))
      refine ⟨fun h => ?_, fun h => ?_⟩
      · (conv => whnf); repeat (first | (refine w ?_; conv => whnf) | (refine ⟨fun h => absurd h Bool.false_ne_true, fun _ => ?_⟩; conv => whnf) | (refine ⟨fun _ => ?_, fun h => absurd h.symm Bool.false_ne_true⟩; conv => whnf))
        refine fin_frz TT ?_ rfl
        rw [shp_bad (e.trans (by simpa using h))]; rfl
      · (conv => whnf); repeat (first | (refine w ?_; conv => whnf) | (refine ⟨fun h => absurd h Bool.false_ne_true, fun _ => ?_⟩; conv => whnf) | (refine ⟨fun _ => ?_, fun h => absurd h.symm Bool.false_ne_true⟩; conv => whnf))
        refine fin_frz TT ?_ rfl
        have h : unusedB c = true := by simpa using h
        rw [shp_good (e.trans h) (unused_plain h)]; rfl
  (conv => whnf); repeat (first | (refine w ?_; conv => whnf) | (refine ⟨fun h => absurd h Bool.false_ne_true, fun _ => ?_⟩; conv => whnf) | (refine ⟨fun _ => ?_, fun h => absurd h.symm Bool.false_ne_true⟩; conv => whnf))
  refine ⟨fun k5 => ?_, fun k5 => ?_⟩
  · have e : shpOk c = ((c.kids.length : Int) == 1) := by rw [shpOk, if_neg (by simp [k1]), if_neg (by simp [k2]), if_neg (by simp [k3, k4]), if_pos k5]
    (conv => whnf); repeat (first | (refine w ?_; conv => whnf) | (refine ⟨fun h => absurd h Bool.false_ne_true, fun _ => ?_⟩; conv => whnf) | (refine ⟨fun _ => ?_, fun h => absurd h.symm Bool.false_ne_true⟩; conv => whnf))
    refine ⟨fun h => ?_, fun h => ?_⟩
    · (conv => whnf); repeat (first | (refine w ?_; conv => whnf) | (refine ⟨fun h => absurd h Bool.false_ne_true, fun _ => ?_⟩; conv => whnf) | (refine ⟨fun _ => ?_, fun h => absurd h.symm Bool.false_ne_true⟩; conv => whnf))
      refine fin_frz TT ?_ rfl
      rw [shp_bad (e.trans (by simpa using h))]; rfl
    · have e : shpOk c = true := e.trans (by simpa using h)
      have es : shp c = if (!plainB c.pat) = true then 8 else 0 := by rw [shp, e]; rfl
      (conv => whnf); repeat (first | (refine w ?_; conv => whnf) | (refine ⟨fun h => absurd h Bool.false_ne_true, fun _ => ?_⟩; conv => whnf) | (refine ⟨fun _ => ?_, fun h => absurd h.symm Bool.false_ne_true⟩; conv => whnf))
      rw [slts_len]
      refine ⟨fun p1 => ?_, fun p1 => ?_⟩
      · have hp : plainB c.pat = false := by have := of_decide_eq_true p1; rw [plainB, beq_eq_false_iff_ne.2 (show (c.pat.slots.length : Int) ≠ 0 by omega)]; rfl
        (conv => whnf); repeat (first | (refine w ?_; conv => whnf) | (refine ⟨fun h => absurd h Bool.false_ne_true, fun _ => ?_⟩; conv => whnf) | (refine ⟨fun _ => ?_, fun h => absurd h.symm Bool.false_ne_true⟩; conv => whnf))
        refine fin_frz TT ?_ rfl
        rw [es, hp]; rfl
      · have q1 : ((c.pat.slots.length : Int) == 0) = true := by have := of_decide_eq_false p1; rw [beq_iff_eq]; omega
        (conv => whnf); repeat (first | (refine w ?_; conv => whnf) | (refine ⟨fun h => absurd h Bool.false_ne_true, fun _ => ?_⟩; conv => whnf) | (refine ⟨fun _ => ?_, fun h => absurd h.symm Bool.false_ne_true⟩; conv => whnf))
        refine ⟨fun p2 => ?_, fun p2 => ?_⟩
        · have hp : plainB c.pat = false := by have q2 : (c.pat.vars == 0) = false := by simpa using p2
                                               rw [plainB, q1, q2]; rfl
          (conv => whnf); repeat (first | (refine w ?_; conv => whnf) | (refine ⟨fun h => absurd h Bool.false_ne_true, fun _ => ?_⟩; conv => whnf) | (refine ⟨fun _ => ?_, fun h => absurd h.symm Bool.false_ne_true⟩; conv => whnf))
          refine fin_frz TT ?_ rfl
          rw [es, hp]; rfl
        · have q2 : (c.pat.vars == 0) = true := by simpa using p2
          (conv => whnf); repeat (first | (refine w ?_; conv => whnf) | (refine ⟨fun h => absurd h Bool.false_ne_true, fun _ => ?_⟩; conv => whnf) | (refine ⟨fun _ => ?_, fun h => absurd h.symm Bool.false_ne_true⟩; conv => whnf))
          rw [tsts_len]
          refine ⟨fun p3 => ?_, fun p3 => ?_⟩
          · have hp : plainB c.pat = false := by have := of_decide_eq_true p3; rw [plainB, q1, q2, beq_eq_false_iff_ne.2 (show (c.pat.tests.length : Int) ≠ 0 by omega)]; rfl
            (conv => whnf); repeat (first | (refine w ?_; conv => whnf) | (refine ⟨fun h => absurd h Bool.false_ne_true, fun _ => ?_⟩; conv => whnf) | (refine ⟨fun _ => ?_, fun h => absurd h.symm Bool.false_ne_true⟩; conv => whnf))
            refine fin_frz TT ?_ rfl
            rw [es, hp]; rfl
          · have hp : plainB c.pat = true := by have := of_decide_eq_false p3; rw [plainB, q1, q2, beq_iff_eq.2 (show (c.pat.tests.length : Int) = 0 by omega)]; rfl
            (conv => whnf); repeat (first | (refine w ?_; conv => whnf) | (refine ⟨fun h => absurd h Bool.false_ne_true, fun _ => ?_⟩; conv => whnf) | (refine ⟨fun _ => ?_, fun h => absurd h.symm Bool.false_ne_true⟩; conv => whnf))
            refine fin_frz TT ?_ rfl
            rw [es, hp]; rfl
  · have e : shpOk c = false := by rw [shpOk, if_neg (by simp [k1]), if_neg (by simp [k2]), if_neg (by simp [k3, k4]), if_neg (by simp [k5])]
    (conv => whnf); repeat (first | (refine w ?_; conv => whnf) | (refine ⟨fun h => absurd h Bool.false_ne_true, fun _ => ?_⟩; conv => whnf) | (refine ⟨fun _ => ?_, fun h => absurd h.symm Bool.false_ne_true⟩; conv => whnf))
    refine fin_frz TT ?_ rfl
    rw [shp_bad e]; rfl
end Go.Av.Z

/- The size and the depth of a condition. -/
namespace Go.Av.Z
open Go.Proofs

def mx (m n : Int) : Int := if n > m then n else m
mutual
/-- The size and the depth of a condition, as the program reckons them. -/
def csz : Cond → Int × Int
  | .mk k kids _ _ => ((cszs kids (1, 0)).1, if (k == 5) = true then IntKind.i64.wrap ((cszs kids (1, 0)).2 + 1) else (cszs kids (1, 0)).2)
def cszs : List Cond → Int × Int → Int × Int
  | [], p => p
  | c :: r, p => cszs r (IntKind.i64.wrap (p.1 + (csz c).1), mx p.2 (csz c).2)
end
theorem cszs_app : ∀ (a : List Cond) (x : Cond) (p : Int × Int), cszs (a ++ [x]) p = (IntKind.i64.wrap ((cszs a p).1 + (csz x).1), mx (cszs a p).2 (csz x).2)
  | [], x, p => by simp [cszs]
  | c :: r, x, p => by simp only [List.cons_append, cszs]; exact cszs_app r x _
theorem cszs_take {l : List Cond} {i : Nat} {x : Cond} (h : l[i]? = some x) : cszs (l.take (i + 1)) (1, 0) = (IntKind.i64.wrap ((cszs (l.take i) (1, 0)).1 + (csz x).1), mx (cszs (l.take i) (1, 0)).2 (csz x).2) := by
  rw [List.take_add_one, h]; exact cszs_app _ _ _

theorem m269 (c : Cond) (ih : ∀ x ∈ c.kids, Con P 106 [] [x.av] (.tuple [.int .i64 (csz x).1, .int .i64 (csz x).2]) []) : Con P 106 [] [c.av] (.tuple [.int .i64 (csz c).1, .int .i64 (csz c).2]) [] := by
  have hlen : c.kids.length ≤ 9223372036854775807 ∨ True := .inr trivial
  refine go Tryz.func106 (by rfl) rfl rfl rfl fun hl => ?_
  have hn : c.kids.length ≤ 9223372036854775807 := by
    have := hl (cnds c.kids).length (by simp [lensL, lens, Cond.av, Cond.cs])
    rwa [cnds_len] at this
  (conv => whnf); repeat (first | (refine w ?_; conv => whnf) | (refine ⟨fun h => absurd h Bool.false_ne_true, fun _ => ?_⟩; conv => whnf) | (refine ⟨fun _ => ?_, fun h => absurd h.symm Bool.false_ne_true⟩; conv => whnf))
  rw [cnds_len]
  refine loop (fun i : Nat => mkSt [(13, .int .i64 i), (12, .int .i64 c.kids.length), (11, .slice 9 (cnds c.kids)), (1, .bptr 0 0), (4, .int .i64 (cszs (c.kids.take i) (1, 0)).1), (5, .int .i64 (cszs (c.kids.take i) (1, 0)).2)] [.box 35 c.cs]) (fun i => i ≤ c.kids.length) (fun i => c.kids.length - i) 0 (Nat.zero_le _)
    (le_of [0] rfl rfl rfl ⟨rfl, rfl, rfl, rfl, by rw [List.take_zero, cszs]; rfl, by rw [List.take_zero, cszs]; rfl, trivial⟩ ⟨rfl, trivial⟩) ?_
  intro i hi
  (conv => whnf); repeat (first | (refine w ?_; conv => whnf) | (refine ⟨fun h => absurd h Bool.false_ne_true, fun _ => ?_⟩; conv => whnf) | (refine ⟨fun _ => ?_, fun h => absurd h.symm Bool.false_ne_true⟩; conv => whnf))
  refine ⟨fun hlt => ?_, fun hge => ?_⟩
  · have hlt := of_lt hlt
    have hx : c.kids[i]? = some c.kids[i] := List.getElem?_eq_getElem hlt
    generalize c.kids[i] = x at hx
    (conv => whnf); repeat (first | (refine w ?_; conv => whnf) | (refine ⟨fun h => absurd h Bool.false_ne_true, fun _ => ?_⟩; conv => whnf) | (refine ⟨fun _ => ?_, fun h => absurd h.symm Bool.false_ne_true⟩; conv => whnf))
    refine ⟨by omega, _, cnds_at hx, ?_⟩
    (conv => whnf); repeat (first | (refine w ?_; conv => whnf) | (refine ⟨fun h => absurd h Bool.false_ne_true, fun _ => ?_⟩; conv => whnf) | (refine ⟨fun _ => ?_, fun h => absurd h.symm Bool.false_ne_true⟩; conv => whnf))
    refine ⟨_, _, ih x (List.mem_of_getElem? hx), ?_⟩
    (conv => whnf); repeat (first | (refine w ?_; conv => whnf) | (refine ⟨fun h => absurd h Bool.false_ne_true, fun _ => ?_⟩; conv => whnf) | (refine ⟨fun _ => ?_, fun h => absurd h.symm Bool.false_ne_true⟩; conv => whnf))
    exact ⟨i + 1, hlt, by show c.kids.length - (i + 1) < c.kids.length - i; omega, le_of [0] rfl rfl rfl ⟨step_num hlt hn, rfl, rfl, rfl, by rw [cszs_take hx]; rfl, by rw [cszs_take hx]; rfl, trivial⟩ ⟨rfl, trivial⟩⟩
  · have hge := of_ge hge
    rw [take_of_all hge]
    have e : csz c = ((cszs c.kids (1, 0)).1, if (c.kind == 5) = true then IntKind.i64.wrap ((cszs c.kids (1, 0)).2 + 1) else (cszs c.kids (1, 0)).2) := by cases c; rw [csz]; rfl
    (conv => whnf); repeat (first | (refine w ?_; conv => whnf) | (refine ⟨fun h => absurd h Bool.false_ne_true, fun _ => ?_⟩; conv => whnf) | (refine ⟨fun _ => ?_, fun h => absurd h.symm Bool.false_ne_true⟩; conv => whnf))
    refine ⟨fun h => ?_, fun h => ?_⟩
    · (conv => whnf); repeat (first | (refine w ?_; conv => whnf) | (refine ⟨fun h => absurd h Bool.false_ne_true, fun _ => ?_⟩; conv => whnf) | (refine ⟨fun _ => ?_, fun h => absurd h.symm Bool.false_ne_true⟩; conv => whnf))
      refine fin_frz TT ?_ rfl
      rw [e, if_pos h]; rfl
    · (conv => whnf); repeat (first | (refine w ?_; conv => whnf) | (refine ⟨fun h => absurd h Bool.false_ne_true, fun _ => ?_⟩; conv => whnf) | (refine ⟨fun _ => ?_, fun h => absurd h.symm Bool.false_ne_true⟩; conv => whnf))
      refine fin_frz TT ?_ rfl
      rw [e, if_neg (by simp [h])]; rfl
theorem kid_lt {c x : Cond} (h : x ∈ c.kids) : SizeOf.sizeOf x < SizeOf.sizeOf c := by
  cases c with
  | mk k kids m p =>
    have := List.sizeOf_lt_of_mem (show x ∈ kids from h)
    simp only [Cond.mk.sizeOf_spec]; omega
theorem c106 (c : Cond) : Con P 106 [] [c.av] (.tuple [.int .i64 (csz c).1, .int .i64 (csz c).2]) [] := m269 c fun x hx => c106 x
termination_by SizeOf.sizeOf c
decreasing_by exact kid_lt hx
theorem m76 (c : Cond) (ih : ∀ x ∈ c.kids, Con P 16 [] [x.av] (.tuple [.int .i64 (csz x).1, .int .i64 (csz x).2]) []) : Con P 16 [] [c.av] (.tuple [.int .i64 (csz c).1, .int .i64 (csz c).2]) [] := by
  have hlen : c.kids.length ≤ 9223372036854775807 ∨ True := .inr trivial
  refine go Tryz.func16 (by rfl) rfl rfl rfl fun hl => ?_
  have hn : c.kids.length ≤ 9223372036854775807 := by
    have := hl (cnds c.kids).length (by simp [lensL, lens, Cond.av, Cond.cs])
    rwa [cnds_len] at this
  (conv => whnf); repeat (first | (refine w ?_; conv => whnf) | (refine ⟨fun h => absurd h Bool.false_ne_true, fun _ => ?_⟩; conv => whnf) | (refine ⟨fun _ => ?_, fun h => absurd h.symm Bool.false_ne_true⟩; conv => whnf))
  refine loop (fun i : Nat => mkSt [(6, .int .i64 i), (1, .bptr 0 0), (4, .int .i64 (cszs (c.kids.take i) (1, 0)).1), (5, .int .i64 (cszs (c.kids.take i) (1, 0)).2)] [.box 35 c.cs]) (fun i => i ≤ c.kids.length) (fun i => c.kids.length - i) 0 (Nat.zero_le _)
    (le_of [0] rfl rfl rfl ⟨rfl, rfl, by rw [List.take_zero, cszs]; rfl, by rw [List.take_zero, cszs]; rfl, trivial⟩ ⟨rfl, trivial⟩) ?_
  intro i hi
  (conv => whnf); repeat (first | (refine w ?_; conv => whnf) | (refine ⟨fun h => absurd h Bool.false_ne_true, fun _ => ?_⟩; conv => whnf) | (refine ⟨fun _ => ?_, fun h => absurd h.symm Bool.false_ne_true⟩; conv => whnf))
  rw [cnds_len]
  refine ⟨fun hlt => ?_, fun hge => ?_⟩
  · have hlt := of_lt hlt
    have hx : c.kids[i]? = some c.kids[i] := List.getElem?_eq_getElem hlt
    generalize c.kids[i] = x at hx
    (conv => whnf); repeat (first | (refine w ?_; conv => whnf) | (refine ⟨fun h => absurd h Bool.false_ne_true, fun _ => ?_⟩; conv => whnf) | (refine ⟨fun _ => ?_, fun h => absurd h.symm Bool.false_ne_true⟩; conv => whnf))
    refine ⟨by omega, _, cnds_at hx, ?_⟩
    (conv => whnf); repeat (first | (refine w ?_; conv => whnf) | (refine ⟨fun h => absurd h Bool.false_ne_true, fun _ => ?_⟩; conv => whnf) | (refine ⟨fun _ => ?_, fun h => absurd h.symm Bool.false_ne_true⟩; conv => whnf))
    refine ⟨_, _, ih x (List.mem_of_getElem? hx), ?_⟩
    (conv => whnf); repeat (first | (refine w ?_; conv => whnf) | (refine ⟨fun h => absurd h Bool.false_ne_true, fun _ => ?_⟩; conv => whnf) | (refine ⟨fun _ => ?_, fun h => absurd h.symm Bool.false_ne_true⟩; conv => whnf))
    exact ⟨i + 1, hlt, by show c.kids.length - (i + 1) < c.kids.length - i; omega, le_of [0] rfl rfl rfl ⟨step_num hlt hn, rfl, by rw [cszs_take hx]; rfl, by rw [cszs_take hx]; rfl, trivial⟩ ⟨rfl, trivial⟩⟩
  · have hge := of_ge hge
    rw [take_of_all hge]
    have e : csz c = ((cszs c.kids (1, 0)).1, if (c.kind == 5) = true then IntKind.i64.wrap ((cszs c.kids (1, 0)).2 + 1) else (cszs c.kids (1, 0)).2) := by cases c; rw [csz]; rfl
    (conv => whnf); repeat (first | (refine w ?_; conv => whnf) | (refine ⟨fun h => absurd h Bool.false_ne_true, fun _ => ?_⟩; conv => whnf) | (refine ⟨fun _ => ?_, fun h => absurd h.symm Bool.false_ne_true⟩; conv => whnf))
    refine ⟨fun h => ?_, fun h => ?_⟩
    · (conv => whnf); repeat (first | (refine w ?_; conv => whnf) | (refine ⟨fun h => absurd h Bool.false_ne_true, fun _ => ?_⟩; conv => whnf) | (refine ⟨fun _ => ?_, fun h => absurd h.symm Bool.false_ne_true⟩; conv => whnf))
      refine fin_frz TT ?_ rfl
      rw [e, if_pos h]; rfl
    · (conv => whnf); repeat (first | (refine w ?_; conv => whnf) | (refine ⟨fun h => absurd h Bool.false_ne_true, fun _ => ?_⟩; conv => whnf) | (refine ⟨fun _ => ?_, fun h => absurd h.symm Bool.false_ne_true⟩; conv => whnf))
      refine fin_frz TT ?_ rfl
      rw [e, if_neg (by simp [h])]; rfl
theorem c16 (c : Cond) : Con P 16 [] [c.av] (.tuple [.int .i64 (csz c).1, .int .i64 (csz c).2]) [] := m76 c fun x hx => c16 x
termination_by SizeOf.sizeOf c
decreasing_by exact kid_lt hx
end Go.Av.Z

/- Conditions that are too large. -/
namespace Go.Av.Z
open Go.Proofs

/-- The error of a size and a depth. -/
def lrg (c : Cond) : Int := if decide (2000 < (csz c).1) = true ∨ decide (3 < (csz c).2) = true then 3 else 0
theorem c73 (c : Cond) : Con P 73 [] [c.av] (.int .i64 (lrg c)) [] := by
  refine go Tryz.func73 (by rfl) rfl rfl rfl fun hl => ?_
  (conv => whnf); repeat (first | (refine w ?_; conv => whnf) | (refine ⟨fun h => absurd h Bool.false_ne_true, fun _ => ?_⟩; conv => whnf) | (refine ⟨fun _ => ?_, fun h => absurd h.symm Bool.false_ne_true⟩; conv => whnf))
  refine ⟨_, _, c106 c, ?_⟩
  (conv => whnf); repeat (first | (refine w ?_; conv => whnf) | (refine ⟨fun h => absurd h Bool.false_ne_true, fun _ => ?_⟩; conv => whnf) | (refine ⟨fun _ => ?_, fun h => absurd h.symm Bool.false_ne_true⟩; conv => whnf))
  refine ⟨fun h => ?_, fun h => ?_⟩
  · (conv => whnf); repeat (first | (refine w ?_; conv => whnf) | (refine ⟨fun h => absurd h Bool.false_ne_true, fun _ => ?_⟩; conv => whnf) | (refine ⟨fun _ => ?_, fun h => absurd h.symm Bool.false_ne_true⟩; conv => whnf))
    refine fin_frz TT ?_ rfl
    rw [lrg, if_pos (.inl h)]; rfl
  · (conv => whnf); repeat (first | (refine w ?_; conv => whnf) | (refine ⟨fun h => absurd h Bool.false_ne_true, fun _ => ?_⟩; conv => whnf) | (refine ⟨fun _ => ?_, fun h => absurd h.symm Bool.false_ne_true⟩; conv => whnf))
    refine ⟨fun h2 => ?_, fun h2 => ?_⟩
    · (conv => whnf); repeat (first | (refine w ?_; conv => whnf) | (refine ⟨fun h => absurd h Bool.false_ne_true, fun _ => ?_⟩; conv => whnf) | (refine ⟨fun _ => ?_, fun h => absurd h.symm Bool.false_ne_true⟩; conv => whnf))
      refine fin_frz TT ?_ rfl
      rw [lrg, if_pos (.inr h2)]; rfl
    · (conv => whnf); repeat (first | (refine w ?_; conv => whnf) | (refine ⟨fun h => absurd h Bool.false_ne_true, fun _ => ?_⟩; conv => whnf) | (refine ⟨fun _ => ?_, fun h => absurd h.symm Bool.false_ne_true⟩; conv => whnf))
      refine fin_frz TT ?_ rfl
      rw [lrg, if_neg (by rw [show decide (2000 < (csz c).1) = false from h, show decide (3 < (csz c).2) = false from h2]; simp)]; rfl
theorem c37 (c : Cond) : Con P 37 [] [c.av] (.int .i64 (lrg c)) [] := by
  refine go Tryz.func37 (by rfl) rfl rfl rfl fun hl => ?_
  (conv => whnf); repeat (first | (refine w ?_; conv => whnf) | (refine ⟨fun h => absurd h Bool.false_ne_true, fun _ => ?_⟩; conv => whnf) | (refine ⟨fun _ => ?_, fun h => absurd h.symm Bool.false_ne_true⟩; conv => whnf))
  refine ⟨_, _, c16 c, ?_⟩
  (conv => whnf); repeat (first | (refine w ?_; conv => whnf) | (refine ⟨fun h => absurd h Bool.false_ne_true, fun _ => ?_⟩; conv => whnf) | (refine ⟨fun _ => ?_, fun h => absurd h.symm Bool.false_ne_true⟩; conv => whnf))
  refine ⟨fun h => ?_, fun h => ?_⟩
  · (conv => whnf); repeat (first | (refine w ?_; conv => whnf) | (refine ⟨fun h => absurd h Bool.false_ne_true, fun _ => ?_⟩; conv => whnf) | (refine ⟨fun _ => ?_, fun h => absurd h.symm Bool.false_ne_true⟩; conv => whnf))
    refine fin_frz TT ?_ rfl
    rw [lrg, if_pos (.inl h)]; rfl
  · (conv => whnf); repeat (first | (refine w ?_; conv => whnf) | (refine ⟨fun h => absurd h Bool.false_ne_true, fun _ => ?_⟩; conv => whnf) | (refine ⟨fun _ => ?_, fun h => absurd h.symm Bool.false_ne_true⟩; conv => whnf))
    refine ⟨fun h2 => ?_, fun h2 => ?_⟩
    · (conv => whnf); repeat (first | (refine w ?_; conv => whnf) | (refine ⟨fun h => absurd h Bool.false_ne_true, fun _ => ?_⟩; conv => whnf) | (refine ⟨fun _ => ?_, fun h => absurd h.symm Bool.false_ne_true⟩; conv => whnf))
      refine fin_frz TT ?_ rfl
      rw [lrg, if_pos (.inr h2)]; rfl
    · (conv => whnf); repeat (first | (refine w ?_; conv => whnf) | (refine ⟨fun h => absurd h Bool.false_ne_true, fun _ => ?_⟩; conv => whnf) | (refine ⟨fun _ => ?_, fun h => absurd h.symm Bool.false_ne_true⟩; conv => whnf))
      refine fin_frz TT ?_ rfl
      rw [lrg, if_neg (by rw [show decide (2000 < (csz c).1) = false from h, show decide (3 < (csz c).2) = false from h2]; simp)]; rfl
end Go.Av.Z

/- The reference: lists without repeats. -/
namespace Go.Av.Z
open Go.Proofs

theorem nodup_of {l : List Int} (h : ∀ (i k : Nat) (x y : Int), k < i → l[i]? = some x → l[k]? = some y → x ≠ y) : l.Nodup := by
  rw [List.Nodup, List.pairwise_iff_getElem]
  intro i j hi hj hij e
  exact h j i l[j] l[i] hij (List.getElem?_eq_getElem hj) (List.getElem?_eq_getElem hi) e.symm
theorem c83 (l : List Int) : Con P 83 [] [.slice 1 (nums l)] (.bool (decide l.Nodup)) [] := by
  refine go Tryz.func83 (by rfl) rfl rfl rfl fun hl => ?_
  (conv => whnf); repeat (first | (refine w ?_; conv => whnf) | (refine ⟨fun h => absurd h Bool.false_ne_true, fun _ => ?_⟩; conv => whnf) | (refine ⟨fun _ => ?_, fun h => absurd h.symm Bool.false_ne_true⟩; conv => whnf))
  have hn : l.length ≤ 9223372036854775807 := len_nums (rest := []) (fun n h => hl n (by simpa [lensL, lens] using h))
  refine loop (fun i : Nat => mkSt [(3, .int .i64 i), (0, .slice 1 (nums l))] []) (fun i => i ≤ l.length ∧ ∀ (a k : Nat) (x y : Int), a < i → k < a → l[a]? = some x → l[k]? = some y → x ≠ y) (fun i => l.length - i) 0 ⟨Nat.zero_le _, fun a k x y h => by omega⟩
    (le_of [] rfl rfl rfl ⟨rfl, rfl, trivial⟩ trivial) ?_
  rintro i ⟨hi, hno⟩
  (conv => whnf); repeat (first | (refine w ?_; conv => whnf) | (refine ⟨fun h => absurd h Bool.false_ne_true, fun _ => ?_⟩; conv => whnf) | (refine ⟨fun _ => ?_, fun h => absurd h.symm Bool.false_ne_true⟩; conv => whnf))
  rw [nums_len]
  refine ⟨fun hlt => ?_, fun hge => ?_⟩
  · have hlt := of_lt hlt
    have hx : l[i]? = some l[i] := List.getElem?_eq_getElem hlt
    generalize l[i] = x at hx
    (conv => whnf); repeat (first | (refine w ?_; conv => whnf) | (refine ⟨fun h => absurd h Bool.false_ne_true, fun _ => ?_⟩; conv => whnf) | (refine ⟨fun _ => ?_, fun h => absurd h.symm Bool.false_ne_true⟩; conv => whnf))
    refine loop (fun k : Nat => mkSt [(4, .int .i64 k), (3, .int .i64 i), (0, .slice 1 (nums l))] []) (fun k => k ≤ i ∧ ∀ (j : Nat) (y : Int), j < k → l[j]? = some y → x ≠ y) (fun k => i - k) 0 ⟨Nat.zero_le _, fun j y h => by omega⟩
      (le_of [] rfl rfl rfl ⟨rfl, rfl, rfl, trivial⟩ trivial) ?_
    rintro k ⟨hk, hnk⟩
    (conv => whnf); repeat (first | (refine w ?_; conv => whnf) | (refine ⟨fun h => absurd h Bool.false_ne_true, fun _ => ?_⟩; conv => whnf) | (refine ⟨fun _ => ?_, fun h => absurd h.symm Bool.false_ne_true⟩; conv => whnf))
    refine ⟨fun hlt2 => ?_, fun hge2 => ?_⟩
    · have hlt2 := of_lt hlt2
      have hy : l[k]? = some l[k] := List.getElem?_eq_getElem (by omega)
      generalize l[k] = y at hy
      (conv => whnf); repeat (first | (refine w ?_; conv => whnf) | (refine ⟨fun h => absurd h Bool.false_ne_true, fun _ => ?_⟩; conv => whnf) | (refine ⟨fun _ => ?_, fun h => absurd h.symm Bool.false_ne_true⟩; conv => whnf))
      refine ⟨by omega, _, nums_at hx, ?_⟩
      (conv => whnf); repeat (first | (refine w ?_; conv => whnf) | (refine ⟨fun h => absurd h Bool.false_ne_true, fun _ => ?_⟩; conv => whnf) | (refine ⟨fun _ => ?_, fun h => absurd h.symm Bool.false_ne_true⟩; conv => whnf))
      refine ⟨by omega, _, nums_at hy, ?_⟩
      (conv => whnf); repeat (first | (refine w ?_; conv => whnf) | (refine ⟨fun h => absurd h Bool.false_ne_true, fun _ => ?_⟩; conv => whnf) | (refine ⟨fun _ => ?_, fun h => absurd h.symm Bool.false_ne_true⟩; conv => whnf))
      refine ⟨by kernel_rfl, ?_⟩
      (conv => whnf); repeat (first | (refine w ?_; conv => whnf) | (refine ⟨fun h => absurd h Bool.false_ne_true, fun _ => ?_⟩; conv => whnf) | (refine ⟨fun _ => ?_, fun h => absurd h.symm Bool.false_ne_true⟩; conv => whnf))
      refine ⟨fun h => ?_, fun h => ?_⟩
      · have h : x = y := by simpa using h
        have hd : ¬ l.Nodup := fun hd => by
          obtain ⟨ha, e1⟩ := List.getElem?_eq_some_iff.1 hx
          obtain ⟨hb, e2⟩ := List.getElem?_eq_some_iff.1 hy
          exact List.pairwise_iff_getElem.1 hd k i hb ha hlt2 (by rw [e1, e2, h])
        (conv => whnf); repeat (first | (refine w ?_; conv => whnf) | (refine ⟨fun h => absurd h Bool.false_ne_true, fun _ => ?_⟩; conv => whnf) | (refine ⟨fun _ => ?_, fun h => absurd h.symm Bool.false_ne_true⟩; conv => whnf))
        refine fin_frz TT ?_ rfl
        simp [hd]; rfl
      · have h : x ≠ y := by simpa using h
        (conv => whnf); repeat (first | (refine w ?_; conv => whnf) | (refine ⟨fun h => absurd h Bool.false_ne_true, fun _ => ?_⟩; conv => whnf) | (refine ⟨fun _ => ?_, fun h => absurd h.symm Bool.false_ne_true⟩; conv => whnf))
        exact ⟨k + 1, ⟨hlt2, fun j z hj hz => by
          rcases Nat.lt_or_ge j k with h' | h'
          · exact hnk j z h' hz
          · have : j = k := by omega
            subst this; rw [hy] at hz; cases hz; exact h⟩, by show i - (k + 1) < i - k; omega, le_of [] rfl rfl rfl ⟨step_num hlt2 (by omega), rfl, rfl, trivial⟩ trivial⟩
    · have hge2 := of_ge hge2
      (conv => whnf); repeat (first | (refine w ?_; conv => whnf) | (refine ⟨fun h => absurd h Bool.false_ne_true, fun _ => ?_⟩; conv => whnf) | (refine ⟨fun _ => ?_, fun h => absurd h.symm Bool.false_ne_true⟩; conv => whnf))
      exact ⟨i + 1, ⟨hlt, fun a k x' y ha hk' h1 h2 => by
        rcases Nat.lt_or_ge a i with h' | h'
        · exact hno a k x' y h' hk' h1 h2
        · have : a = i := by omega
          subst this; rw [hx] at h1; cases h1; exact hnk k y (by omega) h2⟩, by show l.length - (i + 1) < l.length - i; omega, le_of [] rfl rfl rfl ⟨step_num hlt hn, rfl, trivial⟩ trivial⟩
  · have hge := of_ge hge
    have hd : l.Nodup := nodup_of fun a k x y hk h1 h2 => hno a k x y (by have := (List.getElem?_eq_some_iff.1 h1).1; omega) hk h1 h2
    (conv => whnf); repeat (first | (refine w ?_; conv => whnf) | (refine ⟨fun h => absurd h Bool.false_ne_true, fun _ => ?_⟩; conv => whnf) | (refine ⟨fun _ => ?_, fun h => absurd h.symm Bool.false_ne_true⟩; conv => whnf))
    refine fin_frz TT ?_ rfl
    simp [hd]; rfl
end Go.Av.Z

/- The reference: injective morphisms. -/
namespace Go.Av.Z
open Go.Proofs

/-- An injective morphism. -/
def minj (a b : Graph) (m : Mor) : Bool := (mval a b m == 0) && (decide m.nodes.Nodup && decide m.edges.Nodup)
theorem c46 (a b : Graph) (m : Mor) : Con P 46 [] [a.av, b.av, m.av] (.bool (minj a b m)) [] := by
  refine go Tryz.func46 (by rfl) rfl rfl rfl fun hl => ?_
  (conv => whnf); repeat (first | (refine w ?_; conv => whnf) | (refine ⟨fun h => absurd h Bool.false_ne_true, fun _ => ?_⟩; conv => whnf) | (refine ⟨fun _ => ?_, fun h => absurd h.symm Bool.false_ne_true⟩; conv => whnf))
  refine ⟨_, _, c45 a b m, ?_⟩
  (conv => whnf); repeat (first | (refine w ?_; conv => whnf) | (refine ⟨fun h => absurd h Bool.false_ne_true, fun _ => ?_⟩; conv => whnf) | (refine ⟨fun _ => ?_, fun h => absurd h.symm Bool.false_ne_true⟩; conv => whnf))
  refine ⟨fun h1 => ?_, fun h1 => ?_⟩
  · (conv => whnf); repeat (first | (refine w ?_; conv => whnf) | (refine ⟨fun h => absurd h Bool.false_ne_true, fun _ => ?_⟩; conv => whnf) | (refine ⟨fun _ => ?_, fun h => absurd h.symm Bool.false_ne_true⟩; conv => whnf))
    refine ⟨_, _, c83 m.nodes, ?_⟩
    (conv => whnf); repeat (first | (refine w ?_; conv => whnf) | (refine ⟨fun h => absurd h Bool.false_ne_true, fun _ => ?_⟩; conv => whnf) | (refine ⟨fun _ => ?_, fun h => absurd h.symm Bool.false_ne_true⟩; conv => whnf))
    refine ⟨fun h2 => ?_, fun h2 => ?_⟩
    · (conv => whnf); repeat (first | (refine w ?_; conv => whnf) | (refine ⟨fun h => absurd h Bool.false_ne_true, fun _ => ?_⟩; conv => whnf) | (refine ⟨fun _ => ?_, fun h => absurd h.symm Bool.false_ne_true⟩; conv => whnf))
      refine ⟨_, _, c83 m.edges, ?_⟩
      (conv => whnf); repeat (first | (refine w ?_; conv => whnf) | (refine ⟨fun h => absurd h Bool.false_ne_true, fun _ => ?_⟩; conv => whnf) | (refine ⟨fun _ => ?_, fun h => absurd h.symm Bool.false_ne_true⟩; conv => whnf))
      refine fin_frz TT ?_ rfl
      rw [minj, h1, h2]; rfl
    · (conv => whnf); repeat (first | (refine w ?_; conv => whnf) | (refine ⟨fun h => absurd h Bool.false_ne_true, fun _ => ?_⟩; conv => whnf) | (refine ⟨fun _ => ?_, fun h => absurd h.symm Bool.false_ne_true⟩; conv => whnf))
      refine fin_frz TT ?_ rfl
      rw [minj, h1, h2]; rfl
  · (conv => whnf); repeat (first | (refine w ?_; conv => whnf) | (refine ⟨fun h => absurd h Bool.false_ne_true, fun _ => ?_⟩; conv => whnf) | (refine ⟨fun _ => ?_, fun h => absurd h.symm Bool.false_ne_true⟩; conv => whnf))
    refine fin_frz TT ?_ rfl
    rw [minj, h1]; rfl
end Go.Av.Z

/-
  DERIVED: THE SHELF's CONTRACTS AT THIS DUMP, IN PLAIN WORDS (tools/lay-plain.mjs out of 'TryzShelf.lean', which tools/lay-shelf.mjs wrote): THE SAME DECLARATIONS UNDER THE SAME NAMES: 'import', 'namespace', 'open', 'def', 'theorem' AND NOTHING ELSE: no command of the shelf's: FOR A HAND-IN. Each laying: the table of numbers ('.._ren') and one theorem, a field a fact of the dump's own or the kernel's comparison; each contract: ONE APPLICATION.
-/
namespace Go.Proofs
open Go.Shelf
def Tryz.lays137_ren : Go.Shelf.Ren := ⟨fun | 137 => 197 | 217 => 206 | 266 => 209 | n => n, fun | 9 => 9 | 5 => 5 | 3 => 3 | n => n, fun | n => n⟩
theorem Tryz.lays137 : Go.Proofs.Lays.n137 Tryz.prog Tryz.lays137_ren := {
  mixed := by kernel_rfl
  f137 := Tryz.func197.trans (congrArg some (by kernel_rfl))
  f217 := Tryz.func206.trans (congrArg some (by kernel_rfl))
  f266 := Tryz.func209.trans (congrArg some (by kernel_rfl))
  t3 := Tryz.underlying3
  a3 := Tryz.isAgg3
  z3 := Tryz.sizeOf3
  v3 := Tryz.zeroValue3
  t5 := Tryz.underlying5
  a5 := Tryz.isAgg5
  z5 := Tryz.sizeOf5
  v5 := Tryz.zeroValue5
  t9 := Tryz.underlying9
  a9 := Tryz.isAgg9
  z9 := Tryz.sizeOf9
  v9 := Tryz.zeroValue9 }
open Go.RowKit in
/-- strings.IndexByte: "IndexByte returns the index of the first instance of c in s, or -1 if c is not present in s.": IT RETURNS 'Lib.indexByte s c'; the world is as it was. (LAID: no walk: one application.) -/
theorem Tryz.strings_IndexByte (s : ByteArray) (c : Int) (w : World) :
    Calls Tryz.prog 197 #[.string s, .int .u8 c] w fun e w' => e = .returned (.int .i64 (Lib.indexByte s.data.toList c.toNat.toUInt8)) ∧ w' = w := Any.strings_IndexByte Tryz.lays137 s c w
def Tryz.lays217_ren : Go.Shelf.Ren := ⟨fun | 217 => 206 | 266 => 209 | n => n, fun | 9 => 9 | 5 => 5 | 3 => 3 | n => n, fun | n => n⟩
theorem Tryz.lays217 : Go.Proofs.Lays.n217 Tryz.prog Tryz.lays217_ren := {
  mixed := by kernel_rfl
  f217 := Tryz.func206.trans (congrArg some (by kernel_rfl))
  f266 := Tryz.func209.trans (congrArg some (by kernel_rfl))
  t3 := Tryz.underlying3
  a3 := Tryz.isAgg3
  z3 := Tryz.sizeOf3
  v3 := Tryz.zeroValue3
  t5 := Tryz.underlying5
  a5 := Tryz.isAgg5
  z5 := Tryz.sizeOf5
  v5 := Tryz.zeroValue5
  t9 := Tryz.underlying9
  a9 := Tryz.isAgg9
  z9 := Tryz.sizeOf9
  v9 := Tryz.zeroValue9 }
open Go.RowKit Go.Lib in
/-- internal/stringslite.IndexByte (what strings.IndexByte calls): IT RETURNS 'Lib.indexByte s c'; the world is as it was. (LAID: no walk: one application.) -/
theorem Tryz.stringslite_IndexByte (s : ByteArray) (c : Int) (w : World) :
    Calls Tryz.prog 206 #[.string s, .int .u8 c] w fun e w' => e = .returned (.int .i64 (Lib.indexByte s.data.toList c.toNat.toUInt8)) ∧ w' = w := Any.stringslite_IndexByte Tryz.lays217 s c w
def Tryz.lays189_ren : Go.Shelf.Ren := ⟨fun | 189 => 112 | 125 => 144 | 257 => 143 | 128 => 168 | 129 => 169 | 294 => 160 | 295 => 161 | 296 => 162 | 297 => 163 | 298 => 164 | 299 => 165 | 216 => 110 | 300 => 166 | 301 => 167 | 328 => 180 | 329 => 181 | 330 => 182 | 331 => 183 | 332 => 184 | 215 => 142 | 343 => 199 | n => n, fun | 28 => 22 | 3 => 3 | 46 => 148 | 0 => 0 | 51 => 196 | 53 => 198 | 4 => 4 | 183 => 190 | 182 => 189 | 131 => 125 | 5 => 5 | 9 => 9 | 218 => 206 | 222 => 210 | 228 => 219 | 229 => 61 | n => n, fun | n => n⟩
theorem Tryz.lays189 : Go.Proofs.Lays.n189 Tryz.prog Tryz.lays189_ren := {
  mixed := by kernel_rfl
  f125 := Tryz.func144.trans (congrArg some (by kernel_rfl))
  f128 := Tryz.func168.trans (congrArg some (by kernel_rfl))
  f129 := Tryz.func169.trans (congrArg some (by kernel_rfl))
  f189 := Tryz.func112.trans (congrArg some (by kernel_rfl))
  f215 := Tryz.func142.trans (congrArg some (by kernel_rfl))
  f216 := Tryz.func110.trans (congrArg some (by kernel_rfl))
  f257 := Tryz.func143.trans (congrArg some (by kernel_rfl))
  f294 := Tryz.func160.trans (congrArg some (by kernel_rfl))
  f295 := Tryz.func161.trans (congrArg some (by kernel_rfl))
  f296 := Tryz.func162.trans (congrArg some (by kernel_rfl))
  f297 := Tryz.func163.trans (congrArg some (by kernel_rfl))
  f298 := Tryz.func164.trans (congrArg some (by kernel_rfl))
  f299 := Tryz.func165.trans (congrArg some (by kernel_rfl))
  f300 := Tryz.func166.trans (congrArg some (by kernel_rfl))
  f301 := Tryz.func167.trans (congrArg some (by kernel_rfl))
  f328 := Tryz.func180.trans (congrArg some (by kernel_rfl))
  f329 := Tryz.func181.trans (congrArg some (by kernel_rfl))
  f330 := Tryz.func182.trans (congrArg some (by kernel_rfl))
  f331 := Tryz.func183.trans (congrArg some (by kernel_rfl))
  f332 := Tryz.func184.trans (congrArg some (by kernel_rfl))
  f343 := Tryz.func199.trans (congrArg some (by kernel_rfl))
  t0 := Tryz.underlying0
  a0 := Tryz.isAgg0
  z0 := Tryz.sizeOf0
  v0 := Tryz.zeroValue0
  t3 := Tryz.underlying3
  a3 := Tryz.isAgg3
  z3 := Tryz.sizeOf3
  v3 := Tryz.zeroValue3
  t4 := Tryz.underlying4
  a4 := Tryz.isAgg4
  z4 := Tryz.sizeOf4
  v4 := Tryz.zeroValue4
  t5 := Tryz.underlying5
  a5 := Tryz.isAgg5
  z5 := Tryz.sizeOf5
  v5 := Tryz.zeroValue5
  t9 := Tryz.underlying9
  a9 := Tryz.isAgg9
  z9 := Tryz.sizeOf9
  v9 := Tryz.zeroValue9
  t28 := Tryz.underlying22
  a28 := Tryz.isAgg22
  z28 := Tryz.sizeOf22
  v28 := Tryz.zeroValue22
  t46 := Tryz.underlying148
  a46 := Tryz.isAgg148
  z46 := Tryz.sizeOf148
  v46 := Tryz.zeroValue148
  t51 := Tryz.underlying196
  a51 := Tryz.isAgg196
  z51 := Tryz.sizeOf196
  v51 := Tryz.zeroValue196
  t53 := Tryz.underlying198
  a53 := Tryz.isAgg198
  z53 := Tryz.sizeOf198
  v53 := Tryz.zeroValue198
  t131 := Tryz.underlying125
  a131 := Tryz.isAgg125
  z131 := Tryz.sizeOf125
  v131 := Tryz.zeroValue125
  t182 := Tryz.underlying189
  a182 := Tryz.isAgg189
  z182 := Tryz.sizeOf189
  v182 := Tryz.zeroValue189
  t183 := Tryz.underlying190
  a183 := Tryz.isAgg190
  z183 := Tryz.sizeOf190
  v183 := Tryz.zeroValue190
  t218 := Tryz.underlying206
  a218 := Tryz.isAgg206
  z218 := Tryz.sizeOf206
  v218 := Tryz.zeroValue206
  t222 := Tryz.underlying210
  a222 := Tryz.isAgg210
  z222 := Tryz.sizeOf210
  v222 := Tryz.zeroValue210
  t228 := Tryz.underlying219
  a228 := Tryz.isAgg219
  z228 := Tryz.sizeOf219
  v228 := Tryz.zeroValue219
  t229 := Tryz.underlying61
  a229 := Tryz.isAgg61
  z229 := Tryz.sizeOf61
  v229 := Tryz.zeroValue61 }
open Go.Sort Go.RowKit in
theorem Tryz.slices_Sort_int (blk off cap : Nat) (zs : List Int) (w : World) (hH : Holds (Value.int .i64) w blk off zs.toArray) (hblk : blk < w.heap.size) (hsz : zs.length < 4611686018427387904) :
    Calls Tryz.prog 112 #[.slice (some ⟨blk, off, none⟩) zs.length cap] w fun e w' =>
      e = .returned (.tuple #[]) ∧ ∃ n os, w' = grow (putRow (Value.int .i64) (Sort.ahead w n) blk off (zs.mergeSort fun x y => decide (x ≤ y)).toArray) os := Any.slices_Sort_int Tryz.lays189 blk off cap zs w hH hblk hsz
def Tryz.lays112_ren : Go.Shelf.Ren := ⟨fun | 112 => 159 | n => n, fun | 28 => 22 | 3 => 3 | 4 => 4 | 0 => 0 | n => n, fun | n => n⟩
theorem Tryz.lays112 : Go.Proofs.Lays.n112 Tryz.prog Tryz.lays112_ren := {
  mixed := by kernel_rfl
  f112 := Tryz.func159.trans (congrArg some (by kernel_rfl))
  t0 := Tryz.underlying0
  a0 := Tryz.isAgg0
  z0 := Tryz.sizeOf0
  v0 := Tryz.zeroValue0
  t3 := Tryz.underlying3
  a3 := Tryz.isAgg3
  z3 := Tryz.sizeOf3
  v3 := Tryz.zeroValue3
  t4 := Tryz.underlying4
  a4 := Tryz.isAgg4
  z4 := Tryz.sizeOf4
  v4 := Tryz.zeroValue4
  t28 := Tryz.underlying22
  a28 := Tryz.isAgg22
  z28 := Tryz.sizeOf22
  v28 := Tryz.zeroValue22 }
open Go.RowKit Go.Lib Go.Sort in
/-- slices.Reverse at []int, over an array: Go's loop from the two ends inward is walked; it makes 'Sort.reverseLoop 0 (len - 1)', which is 'Array.reverse' (Derived/Lib/SlicesMore.lean). (LAID: no walk: one application.) -/
theorem Tryz.slices_Reverse_int_arr (blk off cap : Nat) (d : Array Int) (w : World) (hH : Holds encI w blk off d) (hsz : d.size ≤ 9223372036854775807) :
    Calls Tryz.prog 159 #[.slice (some ⟨blk, off, none⟩) d.size cap] w fun e w' => e = .returned (.tuple #[]) ∧ ∃ n, w' = putRow encI (Sort.ahead w n) blk off d.reverse := Any.slices_Reverse_int_arr Tryz.lays112 blk off cap d w hH hsz
open Go.RowKit Go.Lib Go.Sort in
/-- slices.Reverse at []int: "Reverse reverses the elements of the slice in place.": THE SLICE's CELLS HOLD 'zs.reverse' BEHIND THE CALL; all else is as it was, but for the count of draws (the exchange 's[i], s[j] = s[j], s[i]' draws its order, once a round). IN THE WORDS OF slices.Sort's CONTRACT: 'Holds': the cells hold zs and none is frozen; 'putRow': the world with those cells holding another array. A slice of length 0 that is not nil is among them ('zs = []'); nil: '.._nil'. (LAID: no walk: one application.) -/
theorem Tryz.slices_Reverse_int (blk off cap : Nat) (zs : List Int) (w : World) (hH : Holds (Value.int .i64) w blk off zs.toArray) (hsz : zs.length ≤ 9223372036854775807) :
    Calls Tryz.prog 159 #[.slice (some ⟨blk, off, none⟩) zs.length cap] w fun e w' => e = .returned (.tuple #[]) ∧ ∃ n, w' = putRow (Value.int .i64) (Sort.ahead w n) blk off zs.reverse.toArray := Any.slices_Reverse_int Tryz.lays112 blk off cap zs w hH hsz
open Go.RowKit Go.Lib Go.Sort in
/-- The same at a slice of length 0, a nil one too: nothing is read, nothing written, nothing drawn. (LAID: no walk: one application.) -/
theorem Tryz.slices_Reverse_int_empty (a : Option Addr) (cap : Nat) (w : World) :
    Calls Tryz.prog 159 #[.slice a 0 cap] w fun e w' => e = .returned (.tuple #[]) ∧ w' = w := Any.slices_Reverse_int_empty Tryz.lays112 a cap w
def Tryz.laysNm220_ren : Go.Shelf.Ren := ⟨fun | 20 => 113 | n => n, fun | 22 => 22 | 3 => 3 | 4 => 4 | 0 => 0 | n => n, fun | n => n⟩
theorem Tryz.laysNm220 : Go.Proofs.Lays2.n20 Tryz.prog Tryz.laysNm220_ren := {
  mixed := by kernel_rfl
  f20 := Tryz.func113.trans (congrArg some (by kernel_rfl))
  t0 := Tryz.underlying0
  a0 := Tryz.isAgg0
  z0 := Tryz.sizeOf0
  v0 := Tryz.zeroValue0
  t3 := Tryz.underlying3
  a3 := Tryz.isAgg3
  z3 := Tryz.sizeOf3
  v3 := Tryz.zeroValue3
  t4 := Tryz.underlying4
  a4 := Tryz.isAgg4
  z4 := Tryz.sizeOf4
  v4 := Tryz.zeroValue4
  t22 := Tryz.underlying22
  a22 := Tryz.isAgg22
  z22 := Tryz.sizeOf22
  v22 := Tryz.zeroValue22
  i3 := by kernel_rfl }
open Go.RowKit Go.Lib Go.Sort in
/-- slices.Compact at []int, over an array: the library's two loops are walked. (LAID: no walk: one application.) -/
theorem Tryz.slices_Compact_int_arr (blk off cap : Nat) (d : Array Int) (w : World) (hH : Holds encI w blk off d) (hsz : d.size ≤ 9223372036854775807) (hcap : d.size ≤ cap) :
    Calls Tryz.prog 113 #[.slice (some ⟨blk, off, none⟩) d.size cap] w fun e w' => e = .returned (.slice (some ⟨blk, off, none⟩) (compactUpTo d d.size).length cap) ∧ ∃ q, w' = putRow encI (Sort.ahead w q) blk off (compactUpTo d d.size ++ List.replicate (d.size - (compactUpTo d d.size).length) 0).toArray := Any.slices_Compact_int_arr Tryz.laysNm220 blk off cap d w hH hsz hcap
open Go.RowKit Go.Lib Go.Sort in
/-- slices.Compact at []int: "Compact replaces consecutive runs of equal elements with a single copy. This is like the uniq command found on Unix. Compact modifies the contents of the slice s and returns the modified slice, which may have a smaller length. Compact zeroes the elements between the new length and the original length. The result preserves the nilness of s.": IT RETURNS THE SLICE CUT TO 'Lib.compact zs'; ITS CELLS HOLD 'Lib.compact zs', THEN ZERO VALUES up to the old length; all else is as it was, but for the count of draws. IN THE WORDS OF slices.Sort's CONTRACT ('Holds', 'putRow'): so the everyday 'slices.Sort(xs); xs = slices.Compact(xs)' goes from the one contract to the other. It asks 'zs.length ≤ cap' (every slice's: the reslicing 's[:k]' looks at it). Length 0, nil: '.._empty'. (LAID: no walk: one application.) -/
theorem Tryz.slices_Compact_int (blk off cap : Nat) (zs : List Int) (w : World) (hH : Holds (Value.int .i64) w blk off zs.toArray) (hsz : zs.length ≤ 9223372036854775807) (hcap : zs.length ≤ cap) :
    Calls Tryz.prog 113 #[.slice (some ⟨blk, off, none⟩) zs.length cap] w fun e w' => e = .returned (.slice (some ⟨blk, off, none⟩) (Lib.compact zs).length cap) ∧ ∃ q, w' = putRow (Value.int .i64) (Sort.ahead w q) blk off (Lib.compact zs ++ List.replicate (zs.length - (Lib.compact zs).length) 0).toArray := Any.slices_Compact_int Tryz.laysNm220 blk off cap zs w hH hsz hcap
open Go.RowKit Go.Lib Go.Sort in
/-- The same at a slice of length 0, a nil one too: it comes back as it is. (LAID: no walk: one application.) -/
theorem Tryz.slices_Compact_int_empty (a : Option Addr) (cap : Nat) (w : World) :
    Calls Tryz.prog 113 #[.slice a 0 cap] w fun e w' => e = .returned (.slice a 0 cap) ∧ w' = w := Any.slices_Compact_int_empty Tryz.laysNm220 a cap w
open Go.RowKit Go.Sort in
/-- .. and plain. (LAID: no walk: one application.) -/
theorem Tryz.slices_Sort_int_none (p : Option Addr) (cap : Nat) (w : World) :
    Calls Tryz.prog 112 #[.slice p 0 cap] w fun e w' => e = .returned (.tuple #[]) ∧ w' = w := Any.slices_Sort_int_none Tryz.lays189 p cap w
end Go.Proofs

/- Sort and Compact of Go's library, as contracts. -/
namespace Go.Av

/-- An own row's elements turn, new blocks come, nothing else. -/
theorem SimX.turned {C : Ctx} {tm : TM} {hp : HP} {a : Act} {w w' : World} {σ : Sig} {F : Nat → Prop} (h : SimX C tm hp a w σ F) {id : Nat} {e sz : Nat} {xs ys : List (List AV)} {sv : Value} {g : Nat} (hb : hp id = some (.row e sz xs)) (hs : σ id = some sv) (hg : blkNo sv = some g)
    (hgb : w.grownBy w' (some g)) (hB : BlkOk w' F σ sv (.row e sz ys)) : SimX C tm (updH hp id (.row e sz ys)) a w' σ F := by
  refine h.next hgb.os hgb.tape hgb.output hgb.size (fun _ h => h) (fun _ h => .inl h) (fun _ _ h => h) (fun k hk => ?_) ?_
  · by_cases hkg : k = g
    · subst hkg; exact .inr ⟨id, _, sv, hb, rfl, hs, hg⟩
    · exact .inl (hgb.block k hk (fun e => hkg (Option.some.inj e)))
  · intro j b2 hb2
    by_cases hj : j = id
    · subst hj
      rw [updH_self] at hb2
      obtain rfl := Option.some.inj hb2
      refine .inr ⟨sv, hs, hB, fun _ g' hg' => ?_⟩
      have ho := h.own j _ sv g' hb rfl hs hg'
      refine ⟨ho.1, Nat.lt_of_lt_of_le ho.2.2 hgb.size, ho.2.1, fun id' b3 sv3 hne hb3 hl3 hs3 hg3 => ?_⟩
      rw [updH_ne hne] at hb3
      exact h.apart id' j b3 _ sv3 sv g' hb3 hb hl3 rfl hne hs3 hs hg3 hg'
    · rw [updH_ne hj] at hb2
      refine .inl ⟨hb2, fun hl2 sv0 g' hs0 hg' => ⟨hgb.block g' (h.own j b2 sv0 g' hb2 hl2 hs0 hg').2.2 (fun e => ?_), (h.own j b2 sv0 g' hb2 hl2 hs0 hg').1⟩⟩
      exact h.apart j id b2 _ sv0 sv g' hb2 hb hl2 rfl hj hs0 hs hg' (by rw [hg, ← Option.some.inj e])

theorem updH_hpOf (b b' : Blk) : updH (hpOf [b]) 0 b' = hpOf [b'] := by
  funext i
  cases i <;> simp [updH, hpOf]

end Go.Av
namespace Go.Av.Z
open Go.Proofs
/-- What a row of numbers is. -/
theorem row_nums {w : World} {F : Nat → Prop} {σ : Sig} {sv : Value} {l : List Int} (h : BlkOk w F σ sv (.row 3 1 (nums l))) :
    l.length ≤ maxLen ∧ ((sv = .slice none 0 0 ∧ l = []) ∨ ∃ g cap cur, sv = .slice (some ⟨g, 0, none⟩) l.length cap ∧ w.heap[g]? = some (.cells cur 3 (0, 0)) ∧ l.length ≤ cap ∧ cap ≤ maxLen ∧ cur.size = cap * 1 ∧ cur.toList.take l.length = l.map (Value.int .i64)) := by
  obtain ⟨vs, ho, hm, hsz, hv⟩ := h
  rw [nums_len] at hm ho
  refine ⟨hm, ?_⟩
  have hvs : vs = l.map (Value.int .i64) := by
    have h1 := ho.1
    rw [Nat.mul_one] at h1
    apply List.ext_getElem (by simpa using h1)
    intro j h2 h3
    have h4 : j < l.length := by simpa using h3
    have := hv j 0 (.int .i64 l[j]) (by rw [List.getD_eq_getElem?_getD, nums_at (List.getElem?_eq_getElem h4)]; rfl)
    have := this.unint
    rw [Nat.mul_one, Nat.add_zero, List.getD_eq_getElem?_getD, List.getElem?_eq_getElem h2] at this
    simpa using this
  subst hvs
  rcases ho.2 with ⟨h1, h2⟩ | ⟨g, cap, cur, h1, _, h2, h3, h4, h5, h6⟩
  · exact .inl ⟨h1, List.eq_nil_of_length_eq_zero h2⟩
  · exact .inr ⟨g, cap, cur, h1, h2, h3, h4, h5, by rwa [Nat.mul_one] at h6⟩

theorem nums_row {w : World} {F : Nat → Prop} {σ : Sig} {sv : Value} {l : List Int} (hm : l.length ≤ maxLen) (h : w.ownsRow 0 3 1 sv l.length (l.map (Value.int .i64))) : BlkOk w F σ sv (.row 3 1 (nums l)) := by
  refine ⟨_, by rw [nums_len]; exact h, by rwa [nums_len], ?_, ?_⟩
  · intro el hel
    simp only [nums, List.mem_map] at hel
    obtain ⟨n, _, rfl⟩ := hel
    exact ⟨rfl, by simp [AV.cell]⟩
  · intro j q x hx
    cases hj : l[j]? with
    | none =>
      have : (nums l)[j]? = none := List.getElem?_eq_none (by rw [nums_len]; exact List.getElem?_eq_none_iff.1 hj)
      rw [List.getD_eq_getElem?_getD, this] at hx; simp at hx
    | some n =>
      rw [List.getD_eq_getElem?_getD, nums_at hj] at hx
      cases q with
      | succ q => simp at hx
      | zero =>
        obtain rfl : AV.int .i64 n = x := by simpa using hx
        rw [Nat.mul_one, Nat.add_zero, List.getD_eq_getElem?_getD, List.getElem?_map, hj]
        exact .int ..

theorem _root_.Go.Av.Val.pre {w : World} {F : Nat → Prop} {σ : Sig} {sz : Nat} {xs : List (List AV)} {A : Option Addr} {n c : Nat} (h : Val w F σ (.slice sz xs) (.slice A n c)) {k : Nat} (hk : k ≤ xs.length) : Val w F σ (.slice sz (xs.take k)) (.slice A k c) := by
  have h' : ∀ v, v = Value.slice A n c → Val w F σ (.slice sz xs) v → Val w F σ (.slice sz (xs.take k)) (.slice A k c) := by
    intro v hv hval
    cases hval with
    | slice _ _ A' c' cs hc hm hs h0 hh =>
      simp only [Value.slice.injEq] at hv
      obtain ⟨rfl, rfl, rfl⟩ := hv
      have hlen : (xs.take k).length = k := by simp [hk]
      have hget : ∀ (j q : Nat) (x : AV), ((xs.take k).getD j [])[q]? = some x → (xs.getD j [])[q]? = some x := by
        intro j q x hx
        rw [List.getD_eq_getElem?_getD, List.getElem?_take] at hx
        rw [List.getD_eq_getElem?_getD]
        split at hx
        · exact hx
        · simp at hx
      have := Val.slice (w := w) (F := F) (σ := σ) sz (xs.take k) A' c' cs (by rw [hlen]; omega) (by rw [hlen]; omega) (fun el hel => hs el (List.mem_of_mem_take hel))
        (fun hne => by
          obtain ⟨ad, he, hcs⟩ := h0 (fun e => hne (by rw [e]; simp))
          exact ⟨ad, he, fun j q x hx => hcs j q x (hget j q x hx)⟩) (fun j q x hx => hh j q x (hget j q x hx))
      rwa [hlen] at this
  exact h' _ rfl h
/-- A list, sorted. -/
def srt (l : List Int) : List Int := l.mergeSort fun x y => decide (x ≤ y)
theorem srt_len (l : List Int) : (srt l).length = l.length := by simp [srt]

theorem max_small : maxLen < 4611686018427387904 * 4 := by decide

theorem lent_row {w : World} {F : Nat → Prop} {σ : Sig} {vs : Array Value} {l : List Int} (hX : SimX ⟨w, F, blocksOf σ [.row 3 1 (nums l)]⟩ noTM (hpOf [.row 3 1 (nums l)]) act0 w σ F) (hargs : AllVal w F σ [.ref 0] vs) :
    ∃ sv, vs = #[sv] ∧ σ 0 = some sv ∧ BlkOk w F σ sv (.row 3 1 (nums l)) := by
  obtain ⟨h1, h2⟩ := hargs
  have h3 := h2 0 (.ref 0) rfl
  obtain ⟨sv, hs, hB⟩ := hX.blk 0 _ rfl
  refine ⟨sv, ?_, hs, hB⟩
  generalize hv : vs.getD 0 undef = v at h3
  cases h3 with
  | ref _ _ h _ =>
    rw [hs] at h
    obtain rfl := Option.some.inj h
    apply Array.ext (by simpa using h1)
    intro i h4 h5
    have : i = 0 := by simp at h5; omega
    subst this
    rw [← hv]
    simp [Array.getD, h4]

/-- slices.Sort at []int: the lent row is sorted. -/
theorem c112 (l : List Int) (hn : l.length < 4611686018427387904) : Con P 112 [.row 3 1 (nums l)] [.ref 0] (.tuple []) [.row 3 1 (nums (srt l))] := by
  refine ⟨⟨_, Tryz.func112, rfl, rfl⟩, ?_, Nat.le_refl _⟩
  intro w F σ vs hX hfree hargs
  obtain ⟨sv, rfl, hs, hB⟩ := lent_row hX hargs
  obtain ⟨hm, ⟨rfl, rfl⟩ | ⟨g, cap, cur, rfl, hg, h1, h2, h3, h4⟩⟩ := row_nums hB
  · refine (Tryz.slices_Sort_int_none none 0 w).mono ?_
    rintro e w' ⟨rfl, rfl⟩
    exact ⟨_, σ, F, rfl, fun _ _ h => h, hfree, .tuple [] #[] rfl (by simp), by simpa [srt] using hX⟩
  · refine (Tryz.slices_Sort_int g 0 cap l w (holds_of_blockI hg h4) (Array.getElem?_eq_some_iff.1 hg).1 hn).mono ?_
    rintro e w' ⟨rfl, n, os, rfl⟩
    refine ⟨_, σ, F, rfl, fun _ _ h => h, hfree, .tuple [] #[] rfl (by simp), ?_⟩
    have := hX.turned (id := 0) (g := g) (ys := nums (srt l)) rfl hs rfl (grownBy_sortedI (n := n) (os := os) (srt l).toArray) (nums_row (by rw [srt_len]; exact hm) (by
      have := ownsRow_sortedI (n := n) (os := os) (base := 0) (ss := l) (ts := srt l) (srt_len l) (Nat.zero_le _) hg h1 h2 h3
      rw [← srt_len l] at this ⊢
      exact this))
    rw [updH_hpOf] at this
    exact this

/-- slices.Compact at []int: the lent row is gone. -/
theorem c113 (l : List Int) : Con P 113 [.row 3 1 (nums l)] [.ref 0] (.slice 1 (nums (Lib.compact l))) [.dead] := by
  refine ⟨⟨_, Tryz.func113, rfl, rfl⟩, ?_, Nat.le_refl _⟩
  intro w F σ vs hX hfree hargs
  obtain ⟨sv, rfl, hs, hB⟩ := lent_row hX hargs
  obtain ⟨hm, ⟨rfl, rfl⟩ | ⟨g, cap, cur, rfl, hg, h1, h2, h3, h4⟩⟩ := row_nums hB
  · refine (Tryz.slices_Compact_int_empty none 0 w).mono ?_
    rintro e w' ⟨rfl, rfl⟩
    refine ⟨_, σ, F, rfl, fun _ _ h => h, hfree, ?_, ?_⟩
    · exact .slice 1 [] none 0 (fun _ _ => undef) (Nat.le_refl _) (by simp) (by simp) (fun h => absurd rfl h) (by simp)
    · have := hX.kill 0 (by rw [hs]; rfl)
      rwa [updH_hpOf] at this
  · refine (Tryz.slices_Compact_int g 0 cap l w (holds_of_blockI hg h4) (by unfold maxLen at hm; omega) h1).mono ?_
    rintro e w' ⟨rfl, n, rfl⟩
    have hcl : (Lib.compact l).length ≤ l.length := by
      unfold Lib.compact Lib.compactUpTo
      rw [List.length_map]
      exact Nat.le_trans (List.length_filter_le _ _) (by simp)
    have hl2 : (Lib.compact l ++ List.replicate (l.length - (Lib.compact l).length) 0).length = l.length := by simp; omega
    have hgr : ∀ d : Array Int, Sort.putRow (Value.int .i64) (Sort.ahead w n) g 0 d = Sort.grow (Sort.putRow (Value.int .i64) (Sort.ahead w n) g 0 d) #[] := fun d => by rw [Sort.grow_empty]
    rw [hgr]
    have := hX.turned (id := 0) (g := g) (ys := nums (Lib.compact l ++ List.replicate (l.length - (Lib.compact l).length) 0)) rfl hs rfl (grownBy_sortedI (n := n) (os := #[]) _) (nums_row (by rw [hl2]; exact hm) (by
      have := ownsRow_sortedI (n := n) (os := #[]) (base := 0) (ss := l) hl2 (Nat.zero_le _) hg h1 h2 h3
      rw [hl2]
      exact this))
    rw [updH_hpOf] at this
    obtain ⟨F', hF⟩ := this.freezeRow (id := 0) rfl
    rw [updH_hpOf] at hF
    obtain ⟨sv2, hs2, hB2⟩ := hF.blk 0 _ rfl
    rw [hs] at hs2
    obtain rfl := Option.some.inj hs2
    have hk := hF.kill 0 (by rw [hs]; rfl)
    rw [updH_hpOf] at hk
    refine ⟨_, σ, F', rfl, fun _ _ h => h, hfree, ?_, hk⟩
    have hv : Val _ F' noSig (.slice 1 (nums (Lib.compact l ++ List.replicate (l.length - (Lib.compact l).length) 0))) (.slice (some ⟨g, 0, none⟩) l.length cap) := hB2
    have := (hv.ofNoSig (σ := σ)).pre (k := (Lib.compact l).length) (by rw [nums_len, hl2]; exact hcl)
    rwa [nums, ← List.map_take, List.take_left] at this
end Go.Av.Z

/- slices.Grow of nil. -/
namespace Go.Proofs
open Go.RowKit

theorem run_append_make_nil (t ty e u : TypeId) (i : TypeInfo) (z : Value) {P : Program} {w : World} (ht : P.underlying t = some (.slice e)) (hu : P.underlying u = some (.int .i64)) (hi : P.info? e = some i) (hz : i.zero = some z) (n : Nat)
    (h0 : 0 < n) (h63 : (n : Int) ≤ 1000000000000) (hs : 0 < i.size) (h48 : n * i.bytes ≤ 281474976710656) :
    (Builtin.append_ #[t, u] ty #[.slice none 0 0, .int .i64 n]).run P w =
      .ok (.slice (some ⟨w.heap.size, 0, none⟩) n (grownCap w n 0 e)) (w.drew.alloc (.cells (Builtin.zeroCells z.cells n ++ Builtin.zeroCells z.cells (grownCap w n 0 e - n)) e)) := by
  have hn : n ≠ 0 := by omega
  have h63' : ¬ (9223372036854775807 < (n : Int)) := by omega
  have h48' : ¬ (281474976710656 < Builtin.nextslicecap n 0 * i.bytes) := by rw [nextslicecap_zero h0]; omega
  have hw : IntKind.i64.wrap (n : Int) = (n : Int) := Go.Av.Z.wrap_small (by omega) (by omega)
  have hb : ¬ (281474976710656 < (n : Int) * (i.bytes : Int)) := by
    rw [← Int.natCast_mul]; omega
  have hns : n * i.size ≠ 0 := Nat.mul_ne_zero hn (by omega)
  have hneg : ¬ ((n : Int) < 0) := by omega
  simp [Builtin.append_, run_underlying ht, run_underlying hu, sizeOf, typeInfo, zeroValue, hi, hz, hn, h63', h48', Question.forced, run_firstCells_none, newRow, grownCap, hw, hb, hns, hneg, asInt, asIntOf]

theorem grow_zero (w : World) : Calls Tryz.prog 200 #[.slice none 0 0, .int .i64 0] w fun e w' => e = .returned (.slice none 0 0) ∧ w' = w := by
  go_enter Tryz.func200, Tryz.ntmps200
  go_wp2
  go_ret
  exact ⟨rfl, rfl⟩
set_option maxHeartbeats 4000000 in
theorem grow_pos (n : Nat) (h0 : 0 < n) (hn : n ≤ 1000000) (w : World) : Calls Tryz.prog 200 #[.slice none 0 0, .int .i64 n] w fun e w' =>
    ∃ cap cells, e = .returned (.slice (some ⟨w.heap.size, 0, none⟩) 0 cap) ∧ w' = w.drew.alloc (.cells cells 3) ∧ cells.size = cap ∧ cap ≤ maxLen := by
  have hge := fun W : World => grownCap_ge W n 0 3
  have hle := fun W : World => grownCap_le_maxLen W n 0 3 (by unfold maxLen; omega)
  go_enter Tryz.func200, Tryz.ntmps200
  go_wp2
  all_goals try (exfalso; have hb : Tryz.t3.bytes = 8 := rfl; have hz : Builtin.nextslicecap n 0 = n := nextslicecap_zero h0; simp only [hb, hz] at *; omega)
  go_ret
  refine ⟨_, rfl, _, rfl, ?_, hle w⟩
  have h1 := hge w
  unfold grownCap at h1
  simp only [Builtin.zeroCells, Array.size_append, Array.size_map, Array.size_range]
  simp
  omega
end Go.Proofs

namespace Go.Av.Z
open Go.Proofs
/-- Grow of nil: a row without elements. -/
theorem c200 (n : Nat) (hn : n ≤ 1000000) : Con P 200 [] [.nils 0, .int .i64 n] (.ref 0) [.row 3 1 []] := by
  refine ⟨⟨_, Tryz.func200, rfl, rfl⟩, ?_, Nat.zero_le _⟩
  intro w F σ vs hX hfree hargs
  have hvs : vs = #[.slice none 0 0, .int .i64 n] := by
    obtain ⟨h1, h2⟩ := hargs
    have h3 := h2 0 (.nils 0) rfl
    have h4 := (h2 1 (.int .i64 n) rfl).unint
    generalize hv : vs.getD 0 undef = v at h3
    cases h3
    apply Array.ext (by simpa using h1)
    intro i k1 k2
    simp at k2
    rcases (by omega : i = 0 ∨ i = 1) with rfl | rfl
    · simpa [Array.getD, k1] using hv
    · simpa [Array.getD, k1] using h4
  subst hvs
  have h0 : σ 0 = none := hfree 0 (Nat.zero_le _)
  have hup : ∀ b, updH (hpOf []) 0 b = hpOf [b] := by
    intro b; funext i
    cases i <;> simp [updH, hpOf]
  have hold : ∀ sv id, 1 ≤ id → updS σ 0 sv id = none := by
    intro sv id h
    rw [updS_ne (by omega)]
    exact hfree id (Nat.zero_le _)
  rcases Nat.eq_zero_or_pos n with rfl | hp
  · refine (grow_zero w).mono ?_
    rintro e w' ⟨rfl, rfl⟩
    refine ⟨_, updS σ 0 (.slice none 0 0), F, rfl, updS_le h0, hold _, .ref 0 _ (updS_self ..) rfl, ?_⟩
    have := hX.nilRow h0 3 1
    rwa [hup] at this
  · refine (grow_pos n hp hn w).mono ?_
    rintro e w' ⟨cap, cells, rfl, rfl, hc, hm⟩
    refine ⟨_, updS σ 0 (.slice (some ⟨w.heap.size, 0, none⟩) 0 cap), F, rfl, updS_le h0, hold _, .ref 0 _ (updS_self ..) rfl, ?_⟩
    have hd := hX.drew (w.drawn + 1)
    have hB : BlkOk (w.drew.alloc (.cells cells 3)) F (updS σ 0 (.slice (some ⟨w.heap.size, 0, none⟩) 0 cap)) (.slice (some ⟨w.heap.size, 0, none⟩) 0 cap) (.row 3 1 []) :=
      ⟨[], World.ownsRow_made w.drew cells cap (Nat.zero_le _) hm (by omega), by simp, by simp, by simp⟩
    have := SimX.alloc (w := w.drew) (C := ⟨w, F, blocksOf σ []⟩) hd h0 rfl hB
    rwa [hup] at this
end Go.Av.Z

/- Injective morphisms; sorted lists. -/
namespace Go.Av.Z
open Go.Proofs

theorem c115 (l : List Int) (hn : l.length ≤ 1099511627776) : Con P 115 [] [.slice 1 (nums l)] (.slice 1 (nums (srt l))) [] := by
  refine go Tryz.func115 (by rfl) rfl rfl rfl fun hl => ?_
  (conv => whnf); repeat (first | (refine w ?_; conv => whnf) | (refine ⟨fun h => absurd h Bool.false_ne_true, fun _ => ?_⟩; conv => whnf) | (refine ⟨fun _ => ?_, fun h => absurd h.symm Bool.false_ne_true⟩; conv => whnf))
  refine ⟨_, _, c32 l hn, ?_⟩
  (conv => whnf); repeat (first | (refine w ?_; conv => whnf) | (refine ⟨fun h => absurd h Bool.false_ne_true, fun _ => ?_⟩; conv => whnf) | (refine ⟨fun _ => ?_, fun h => absurd h.symm Bool.false_ne_true⟩; conv => whnf))
  refine ⟨_, _, c112 l (by omega), ?_⟩
  (conv => whnf); repeat (first | (refine w ?_; conv => whnf) | (refine ⟨fun h => absurd h Bool.false_ne_true, fun _ => ?_⟩; conv => whnf) | (refine ⟨fun _ => ?_, fun h => absurd h.symm Bool.false_ne_true⟩; conv => whnf))
  refine fin_frz TT ?_ rfl
  rfl
theorem c79 (l : List Int) (hn : l.length ≤ 1099511627776) : Con P 79 [] [.slice 1 (nums l)] (.int .i64 (Lib.compact (srt l)).length) [] := by
  refine go Tryz.func79 (by rfl) rfl rfl rfl fun hl => ?_
  (conv => whnf); repeat (first | (refine w ?_; conv => whnf) | (refine ⟨fun h => absurd h Bool.false_ne_true, fun _ => ?_⟩; conv => whnf) | (refine ⟨fun _ => ?_, fun h => absurd h.symm Bool.false_ne_true⟩; conv => whnf))
  refine ⟨_, _, c32 l hn, ?_⟩
  (conv => whnf); repeat (first | (refine w ?_; conv => whnf) | (refine ⟨fun h => absurd h Bool.false_ne_true, fun _ => ?_⟩; conv => whnf) | (refine ⟨fun _ => ?_, fun h => absurd h.symm Bool.false_ne_true⟩; conv => whnf))
  refine ⟨_, _, c112 l (by omega), ?_⟩
  (conv => whnf); repeat (first | (refine w ?_; conv => whnf) | (refine ⟨fun h => absurd h Bool.false_ne_true, fun _ => ?_⟩; conv => whnf) | (refine ⟨fun _ => ?_, fun h => absurd h.symm Bool.false_ne_true⟩; conv => whnf))
  refine ⟨_, _, c113 (srt l), ?_⟩
  (conv => whnf); repeat (first | (refine w ?_; conv => whnf) | (refine ⟨fun h => absurd h Bool.false_ne_true, fun _ => ?_⟩; conv => whnf) | (refine ⟨fun _ => ?_, fun h => absurd h.symm Bool.false_ne_true⟩; conv => whnf))
  refine fin_frz TT ?_ rfl
  rw [nums_len]; rfl
theorem keeps_get {s : List Int} {j : Nat} (hj : j + 1 < s.length) : Lib.keeps s.toArray (j + 1) = decide (s[j + 1] ≠ s[j]) := by
  unfold Lib.keeps
  have h1 : s.toArray[j + 1]! = s[j + 1] := by simp [hj]
  have h2 : s.toArray[j + 1 - 1]! = s[j] := by simp [show j < s.length by omega]
  rw [h1, h2]
  simp
theorem compact_len {s : List Int} (hs : s.Pairwise fun x y => x ≤ y) : (Lib.compact s).length = s.length ↔ s.Nodup := by
  unfold Lib.compact Lib.compactUpTo
  rw [List.length_map]
  constructor
  · intro h
    have hall : ∀ j ∈ List.range s.length, Lib.keeps s.toArray j = true := by
      have : (List.range s.length).filter (Lib.keeps s.toArray) = List.range s.length := (List.filter_sublist (l := List.range s.length)).eq_of_length (by simpa using h)
      exact List.filter_eq_self.1 this
    have hstep : ∀ j (hj : j + 1 < s.length), s[j] < s[j + 1] := by
      intro j hj
      have h1 := hall (j + 1) (by simpa using hj)
      rw [keeps_get hj] at h1
      have h1 : s[j + 1] ≠ s[j] := by simpa using h1
      have h2 := List.pairwise_iff_getElem.1 hs j (j + 1) (by omega) hj (by omega)
      omega
    have hlt : ∀ (d i : Nat) (h : i + 1 + d < s.length), s[i] < s[i + 1 + d] := by
      intro d
      induction d with
      | zero => intro i h; exact hstep i h
      | succ d ih =>
        intro i h
        have h1 := ih i (by omega)
        have h2 := hstep (i + 1 + d) (by omega)
        have e : i + 1 + (d + 1) = i + 1 + d + 1 := by omega
        simp only [e]
        omega
    rw [List.Nodup, List.pairwise_iff_getElem]
    intro i j hi hj hij e
    have := hlt (j - (i + 1)) i (by omega)
    have e2 : i + 1 + (j - (i + 1)) = j := by omega
    simp only [e2] at this
    omega
  · intro h
    rw [List.filter_eq_self.2, List.length_range]
    intro j hj
    cases j with
    | zero => simp [Lib.keeps]
    | succ j =>
      have hj : j + 1 < s.length := by simpa using hj
      rw [keeps_get hj]
      have := List.pairwise_iff_getElem.1 h j (j + 1) (by omega) hj (by omega)
      simpa using fun e : s[j + 1] = s[j] => this e.symm
theorem srt_sorted (l : List Int) : (srt l).Pairwise fun x y => x ≤ y := by
  have := List.pairwise_mergeSort (le := fun x y : Int => decide (x ≤ y)) (fun a b c h1 h2 => by simp at *; omega) (fun a b => by simp; omega) l
  exact this.imp fun h => by simpa using h
theorem srt_perm (l : List Int) : (srt l).Perm l := List.mergeSort_perm ..
theorem images_eq (l : List Int) : ((((Lib.compact (srt l)).length : Int)) == (l.length : Int)) = decide l.Nodup := by
  rw [Bool.eq_iff_iff]
  rw [beq_iff_eq, decide_eq_true_eq, ← (srt_perm l).nodup_iff, ← compact_len (srt_sorted l), srt_len]
  omega
theorem mval_len {a b : Graph} {m : Mor} (h : mval a b m = 0) : m.nodes.length = a.nodes.length ∧ m.edges.length = a.edges.length ∧ m.nodes.length ≤ 40 ∧ m.edges.length ≤ 80 := by
  unfold mval at h
  split at h
  · contradiction
  · rename_i h1
    have h1 := gval_len (Classical.not_not.1 h1)
    split at h
    · contradiction
    · split at h
      · cases h
      · rename_i h2
        omega
theorem c41 (a b : Graph) (m : Mor) : Con P 41 [] [a.av, b.av, m.av] (.bool (minj a b m)) [] := by
  refine go Tryz.func41 (by rfl) rfl rfl rfl fun hl => ?_
  (conv => whnf); repeat (first | (refine w ?_; conv => whnf) | (refine ⟨fun h => absurd h Bool.false_ne_true, fun _ => ?_⟩; conv => whnf) | (refine ⟨fun _ => ?_, fun h => absurd h.symm Bool.false_ne_true⟩; conv => whnf))
  refine ⟨_, _, c40 a b m, ?_⟩
  (conv => whnf); repeat (first | (refine w ?_; conv => whnf) | (refine ⟨fun h => absurd h Bool.false_ne_true, fun _ => ?_⟩; conv => whnf) | (refine ⟨fun _ => ?_, fun h => absurd h.symm Bool.false_ne_true⟩; conv => whnf))
  refine ⟨fun h1 => ?_, fun h1 => ?_⟩
  · have hm := mval_len (by simpa using h1 : mval a b m = 0)
    (conv => whnf); repeat (first | (refine w ?_; conv => whnf) | (refine ⟨fun h => absurd h Bool.false_ne_true, fun _ => ?_⟩; conv => whnf) | (refine ⟨fun _ => ?_, fun h => absurd h.symm Bool.false_ne_true⟩; conv => whnf))
    refine ⟨_, _, c79 m.nodes (by omega), ?_⟩
    (conv => whnf); repeat (first | (refine w ?_; conv => whnf) | (refine ⟨fun h => absurd h Bool.false_ne_true, fun _ => ?_⟩; conv => whnf) | (refine ⟨fun _ => ?_, fun h => absurd h.symm Bool.false_ne_true⟩; conv => whnf))
    rw [nums_len, images_eq]
    refine ⟨fun h2 => ?_, fun h2 => ?_⟩
    · (conv => whnf); repeat (first | (refine w ?_; conv => whnf) | (refine ⟨fun h => absurd h Bool.false_ne_true, fun _ => ?_⟩; conv => whnf) | (refine ⟨fun _ => ?_, fun h => absurd h.symm Bool.false_ne_true⟩; conv => whnf))
      refine ⟨_, _, c79 m.edges (by omega), ?_⟩
      (conv => whnf); repeat (first | (refine w ?_; conv => whnf) | (refine ⟨fun h => absurd h Bool.false_ne_true, fun _ => ?_⟩; conv => whnf) | (refine ⟨fun _ => ?_, fun h => absurd h.symm Bool.false_ne_true⟩; conv => whnf))
      refine ⟨by kernel_rfl, ?_⟩
      (conv => whnf); repeat (first | (refine w ?_; conv => whnf) | (refine ⟨fun h => absurd h Bool.false_ne_true, fun _ => ?_⟩; conv => whnf) | (refine ⟨fun _ => ?_, fun h => absurd h.symm Bool.false_ne_true⟩; conv => whnf))
      refine fin_frz TT ?_ rfl
      rw [minj, h1, h2, nums_len, images_eq]; rfl
    · (conv => whnf); repeat (first | (refine w ?_; conv => whnf) | (refine ⟨fun h => absurd h Bool.false_ne_true, fun _ => ?_⟩; conv => whnf) | (refine ⟨fun _ => ?_, fun h => absurd h.symm Bool.false_ne_true⟩; conv => whnf))
      refine ⟨by kernel_rfl, ?_⟩
      (conv => whnf); repeat (first | (refine w ?_; conv => whnf) | (refine ⟨fun h => absurd h Bool.false_ne_true, fun _ => ?_⟩; conv => whnf) | (refine ⟨fun _ => ?_, fun h => absurd h.symm Bool.false_ne_true⟩; conv => whnf))
      refine fin_frz TT ?_ rfl
      rw [minj, h1, h2]; rfl
  · (conv => whnf); repeat (first | (refine w ?_; conv => whnf) | (refine ⟨fun h => absurd h Bool.false_ne_true, fun _ => ?_⟩; conv => whnf) | (refine ⟨fun _ => ?_, fun h => absurd h.symm Bool.false_ne_true⟩; conv => whnf))
    refine ⟨by kernel_rfl, ?_⟩
    (conv => whnf); repeat (first | (refine w ?_; conv => whnf) | (refine ⟨fun h => absurd h Bool.false_ne_true, fun _ => ?_⟩; conv => whnf) | (refine ⟨fun _ => ?_, fun h => absurd h.symm Bool.false_ne_true⟩; conv => whnf))
    refine fin_frz TT ?_ rfl
    rw [minj, h1]; rfl
end Go.Av.Z
