/- Part 6 of 7 of a proof: the logic Av, contracts of functions. -/
import Derived.Test.YtbkbaphmpkapmaaGreatAvE
set_option linter.unusedVariables false
set_option maxRecDepth 100000
/- Partitions: the places of classes; the reference's partitions. -/
set_option maxHeartbeats 4000000
namespace Go.Av.Z
open Go.Proofs

theorem c208 (p : List Int) (h : Ptn p) (hn : p.length ≤ 80) : Con P 208 [] [.slice 1 (nums p)] (.bool true) [] := by
  refine go Tryz.func208 (by rfl) rfl rfl rfl fun hl => ?_
  (conv => whnf); repeat (first | (refine w ?_; conv => whnf) | (refine ⟨fun h => absurd h Bool.false_ne_true, fun _ => ?_⟩; conv => whnf) | (refine ⟨fun _ => ?_, fun h => absurd h.symm Bool.false_ne_true⟩; conv => whnf))
  rw [nums_len]
  refine loop (fun i : Nat => mkSt [(7, .int .i64 i), (6, .int .i64 p.length), (5, .slice 1 (nums p)), (0, .slice 1 (nums p))] []) (fun i => i ≤ p.length) (fun i => p.length - i) 0 (Nat.zero_le _)
    (le_of [] rfl rfl rfl ⟨rfl, rfl, rfl, rfl, trivial⟩ trivial) ?_
  intro i hi
  (conv => whnf); repeat (first | (refine w ?_; conv => whnf) | (refine ⟨fun h => absurd h Bool.false_ne_true, fun _ => ?_⟩; conv => whnf) | (refine ⟨fun _ => ?_, fun h => absurd h.symm Bool.false_ne_true⟩; conv => whnf))
  refine ⟨fun hlt => ?_, fun hge => ?_⟩
  · have hlt := of_lt hlt
    have h1 := h.low i hlt
    have h2 := h.up i hlt
    have h3 := h.idem i hlt
    have hx := gt_some hlt
    generalize gt p i = x at *
    (conv => whnf); repeat (first | (refine w ?_; conv => whnf) | (refine ⟨fun h => absurd h Bool.false_ne_true, fun _ => ?_⟩; conv => whnf) | (refine ⟨fun _ => ?_, fun h => absurd h.symm Bool.false_ne_true⟩; conv => whnf))
    refine ⟨by omega, _, nums_at hx, ?_⟩
    (conv => whnf); repeat (first | (refine w ?_; conv => whnf) | (refine ⟨fun h => absurd h Bool.false_ne_true, fun _ => ?_⟩; conv => whnf) | (refine ⟨fun _ => ?_, fun h => absurd h.symm Bool.false_ne_true⟩; conv => whnf))
    refine ⟨fun h => absurd h (by simp <;> omega), fun _ => ?_⟩
    (conv => whnf); repeat (first | (refine w ?_; conv => whnf) | (refine ⟨fun h => absurd h Bool.false_ne_true, fun _ => ?_⟩; conv => whnf) | (refine ⟨fun _ => ?_, fun h => absurd h.symm Bool.false_ne_true⟩; conv => whnf))
    refine ⟨fun h => absurd h (by simp <;> omega), fun _ => ?_⟩
    (conv => whnf); repeat (first | (refine w ?_; conv => whnf) | (refine ⟨fun h => absurd h Bool.false_ne_true, fun _ => ?_⟩; conv => whnf) | (refine ⟨fun _ => ?_, fun h => absurd h.symm Bool.false_ne_true⟩; conv => whnf))
    refine ⟨by omega, _, nums_at (gt_some (by omega)), ?_⟩
    (conv => whnf); repeat (first | (refine w ?_; conv => whnf) | (refine ⟨fun h => absurd h Bool.false_ne_true, fun _ => ?_⟩; conv => whnf) | (refine ⟨fun _ => ?_, fun h => absurd h.symm Bool.false_ne_true⟩; conv => whnf))
    rw [h3]
    refine ⟨fun h => absurd h (by simp), fun _ => ?_⟩
    (conv => whnf); repeat (first | (refine w ?_; conv => whnf) | (refine ⟨fun h => absurd h Bool.false_ne_true, fun _ => ?_⟩; conv => whnf) | (refine ⟨fun _ => ?_, fun h => absurd h.symm Bool.false_ne_true⟩; conv => whnf))
    exact ⟨i + 1, hlt, by show p.length - (i + 1) < p.length - i; omega, le_of [] rfl rfl rfl ⟨step_num hlt (by omega), rfl, rfl, rfl, trivial⟩ trivial⟩
  · (conv => whnf); repeat (first | (refine w ?_; conv => whnf) | (refine ⟨fun h => absurd h Bool.false_ne_true, fun _ => ?_⟩; conv => whnf) | (refine ⟨fun _ => ?_, fun h => absurd h.symm Bool.false_ne_true⟩; conv => whnf))
    refine fin_frz TT ?_ rfl
    rfl
theorem c204 (p : List Int) (h : Ptn p) (hn : p.length ≤ 80) : Con P 204 [] [.slice 1 (nums p)] (.int .i64 0) [] := by
  refine go Tryz.func204 (by rfl) rfl rfl rfl fun hl => ?_
  (conv => whnf); repeat (first | (refine w ?_; conv => whnf) | (refine ⟨fun h => absurd h Bool.false_ne_true, fun _ => ?_⟩; conv => whnf) | (refine ⟨fun _ => ?_, fun h => absurd h.symm Bool.false_ne_true⟩; conv => whnf))
  rw [nums_len]
  refine ⟨fun h => absurd h (by simp <;> omega), fun _ => ?_⟩
  (conv => whnf); repeat (first | (refine w ?_; conv => whnf) | (refine ⟨fun h => absurd h Bool.false_ne_true, fun _ => ?_⟩; conv => whnf) | (refine ⟨fun _ => ?_, fun h => absurd h.symm Bool.false_ne_true⟩; conv => whnf))
  refine ⟨_, _, c208 p h hn, ?_⟩
  (conv => whnf); repeat (first | (refine w ?_; conv => whnf) | (refine ⟨fun h => absurd h Bool.false_ne_true, fun _ => ?_⟩; conv => whnf) | (refine ⟨fun _ => ?_, fun h => absurd h.symm Bool.false_ne_true⟩; conv => whnf))
  refine fin_frz TT ?_ rfl
  rfl
theorem c190 (p : List Int) (h : Ptn p) (hn : p.length ≤ 80) : Con P 190 [] [.slice 1 (nums p)] (.bool true) [] := by
  refine go Tryz.func190 (by rfl) rfl rfl rfl fun hl => ?_
  (conv => whnf); repeat (first | (refine w ?_; conv => whnf) | (refine ⟨fun h => absurd h Bool.false_ne_true, fun _ => ?_⟩; conv => whnf) | (refine ⟨fun _ => ?_, fun h => absurd h.symm Bool.false_ne_true⟩; conv => whnf))
  rw [nums_len]
  refine ⟨fun h => absurd h (by simp <;> omega), fun _ => ?_⟩
  (conv => whnf); repeat (first | (refine w ?_; conv => whnf) | (refine ⟨fun h => absurd h Bool.false_ne_true, fun _ => ?_⟩; conv => whnf) | (refine ⟨fun _ => ?_, fun h => absurd h.symm Bool.false_ne_true⟩; conv => whnf))
  refine loop (fun i : Nat => mkSt [(3, .int .i64 i), (0, .slice 1 (nums p))] []) (fun i => i ≤ p.length) (fun i => p.length - i) 0 (Nat.zero_le _)
    (le_of [] rfl rfl rfl ⟨rfl, rfl, trivial⟩ trivial) ?_
  intro i hi
  (conv => whnf); repeat (first | (refine w ?_; conv => whnf) | (refine ⟨fun h => absurd h Bool.false_ne_true, fun _ => ?_⟩; conv => whnf) | (refine ⟨fun _ => ?_, fun h => absurd h.symm Bool.false_ne_true⟩; conv => whnf))
  rw [nums_len]
  refine ⟨fun hlt => ?_, fun hge => ?_⟩
  · have hlt := of_lt hlt
    have h1 := h.low i hlt
    have h2 := h.up i hlt
    have h3 := h.idem i hlt
    have hx := gt_some hlt
    generalize gt p i = x at *
    (conv => whnf); repeat (first | (refine w ?_; conv => whnf) | (refine ⟨fun h => absurd h Bool.false_ne_true, fun _ => ?_⟩; conv => whnf) | (refine ⟨fun _ => ?_, fun h => absurd h.symm Bool.false_ne_true⟩; conv => whnf))
    refine ⟨by omega, _, nums_at hx, ?_⟩
    (conv => whnf); repeat (first | (refine w ?_; conv => whnf) | (refine ⟨fun h => absurd h Bool.false_ne_true, fun _ => ?_⟩; conv => whnf) | (refine ⟨fun _ => ?_, fun h => absurd h.symm Bool.false_ne_true⟩; conv => whnf))
    refine ⟨fun h => absurd h (by simp <;> omega), fun _ => ?_⟩
    (conv => whnf); repeat (first | (refine w ?_; conv => whnf) | (refine ⟨fun h => absurd h Bool.false_ne_true, fun _ => ?_⟩; conv => whnf) | (refine ⟨fun _ => ?_, fun h => absurd h.symm Bool.false_ne_true⟩; conv => whnf))
    refine ⟨by omega, _, nums_at hx, ?_⟩
    (conv => whnf); repeat (first | (refine w ?_; conv => whnf) | (refine ⟨fun h => absurd h Bool.false_ne_true, fun _ => ?_⟩; conv => whnf) | (refine ⟨fun _ => ?_, fun h => absurd h.symm Bool.false_ne_true⟩; conv => whnf))
    refine ⟨fun h => absurd h (by simp <;> omega), fun _ => ?_⟩
    (conv => whnf); repeat (first | (refine w ?_; conv => whnf) | (refine ⟨fun h => absurd h Bool.false_ne_true, fun _ => ?_⟩; conv => whnf) | (refine ⟨fun _ => ?_, fun h => absurd h.symm Bool.false_ne_true⟩; conv => whnf))
    refine ⟨by omega, _, nums_at hx, ?_⟩
    (conv => whnf); repeat (first | (refine w ?_; conv => whnf) | (refine ⟨fun h => absurd h Bool.false_ne_true, fun _ => ?_⟩; conv => whnf) | (refine ⟨fun _ => ?_, fun h => absurd h.symm Bool.false_ne_true⟩; conv => whnf))
    refine ⟨by omega, _, nums_at (gt_some (by omega)), ?_⟩
    (conv => whnf); repeat (first | (refine w ?_; conv => whnf) | (refine ⟨fun h => absurd h Bool.false_ne_true, fun _ => ?_⟩; conv => whnf) | (refine ⟨fun _ => ?_, fun h => absurd h.symm Bool.false_ne_true⟩; conv => whnf))
    refine ⟨by omega, _, nums_at hx, ?_⟩
    (conv => whnf); repeat (first | (refine w ?_; conv => whnf) | (refine ⟨fun h => absurd h Bool.false_ne_true, fun _ => ?_⟩; conv => whnf) | (refine ⟨fun _ => ?_, fun h => absurd h.symm Bool.false_ne_true⟩; conv => whnf))
    refine ⟨by kernel_rfl, ?_⟩
    (conv => whnf); repeat (first | (refine w ?_; conv => whnf) | (refine ⟨fun h => absurd h Bool.false_ne_true, fun _ => ?_⟩; conv => whnf) | (refine ⟨fun _ => ?_, fun h => absurd h.symm Bool.false_ne_true⟩; conv => whnf))
    rw [h3]
    refine ⟨fun h => absurd h (by simp), fun _ => ?_⟩
    (conv => whnf); repeat (first | (refine w ?_; conv => whnf) | (refine ⟨fun h => absurd h Bool.false_ne_true, fun _ => ?_⟩; conv => whnf) | (refine ⟨fun _ => ?_, fun h => absurd h.symm Bool.false_ne_true⟩; conv => whnf))
    exact ⟨i + 1, hlt, by show p.length - (i + 1) < p.length - i; omega, le_of [] rfl rfl rfl ⟨step_num hlt (by omega), rfl, trivial⟩ trivial⟩
  · (conv => whnf); repeat (first | (refine w ?_; conv => whnf) | (refine ⟨fun h => absurd h Bool.false_ne_true, fun _ => ?_⟩; conv => whnf) | (refine ⟨fun _ => ?_, fun h => absurd h.symm Bool.false_ne_true⟩; conv => whnf))
    refine fin_frz TT ?_ rfl
    rfl
theorem c176 (p : List Int) (h : Ptn p) (hn : p.length ≤ 80) : Con P 176 [] [.slice 1 (nums p)] (.int .i64 0) [] := by
  refine go Tryz.func176 (by rfl) rfl rfl rfl fun hl => ?_
  (conv => whnf); repeat (first | (refine w ?_; conv => whnf) | (refine ⟨fun h => absurd h Bool.false_ne_true, fun _ => ?_⟩; conv => whnf) | (refine ⟨fun _ => ?_, fun h => absurd h.symm Bool.false_ne_true⟩; conv => whnf))
  rw [nums_len]
  refine ⟨fun h => absurd h (by simp <;> omega), fun _ => ?_⟩
  (conv => whnf); repeat (first | (refine w ?_; conv => whnf) | (refine ⟨fun h => absurd h Bool.false_ne_true, fun _ => ?_⟩; conv => whnf) | (refine ⟨fun _ => ?_, fun h => absurd h.symm Bool.false_ne_true⟩; conv => whnf))
  refine ⟨_, _, c190 p h hn, ?_⟩
  (conv => whnf); repeat (first | (refine w ?_; conv => whnf) | (refine ⟨fun h => absurd h Bool.false_ne_true, fun _ => ?_⟩; conv => whnf) | (refine ⟨fun _ => ?_, fun h => absurd h.symm Bool.false_ne_true⟩; conv => whnf))
  refine fin_frz TT ?_ rfl
  rfl
/-- The places of the first i elements' classes, and how many classes there are. -/
def qst (p : List Int) : Nat → List Int × Nat
  | 0 => ([], 0)
  | i + 1 => if gt p i = i then ((qst p i).1 ++ [((qst p i).2 : Int)], (qst p i).2 + 1) else ((qst p i).1 ++ [gt (qst p i).1 (gt p i).toNat], (qst p i).2)
theorem qst_len (p : List Int) : ∀ i, (qst p i).1.length = i
  | 0 => rfl
  | i + 1 => by rw [qst]; split <;> simp [qst_len p i]
theorem qst_le (p : List Int) : ∀ i, (qst p i).2 ≤ i
  | 0 => Nat.le_refl _
  | i + 1 => by have := qst_le p i; rw [qst]; split <;> simp <;> omega
def qn (p : List Int) : List Int := (qst p p.length).1
def qc (p : List Int) : Nat := (qst p p.length).2
theorem c188 (p : List Int) (h : Ptn p) (hn : p.length ≤ 80) : Con P 188 [] [.slice 1 (nums p)] (.tuple [.slice 1 (nums (qn p)), .int .i64 (qc p), .int .i64 0]) [] := by
  refine go Tryz.func188 (by rfl) rfl rfl rfl fun hl => ?_
  (conv => whnf); repeat (first | (refine w ?_; conv => whnf) | (refine ⟨fun h => absurd h Bool.false_ne_true, fun _ => ?_⟩; conv => whnf) | (refine ⟨fun _ => ?_, fun h => absurd h.symm Bool.false_ne_true⟩; conv => whnf))
  refine ⟨_, _, c204 p h hn, ?_⟩
  (conv => whnf); repeat (first | (refine w ?_; conv => whnf) | (refine ⟨fun h => absurd h Bool.false_ne_true, fun _ => ?_⟩; conv => whnf) | (refine ⟨fun _ => ?_, fun h => absurd h.symm Bool.false_ne_true⟩; conv => whnf))
  rw [nums_len]
  refine loop (fun i : Nat => mkSt [(17, .int .i64 i), (16, .int .i64 p.length), (15, .slice 1 (nums p)), (6, .ref 0), (7, .int .i64 (qst p i).2)] [.row 3 1 (nums (qst p i).1)]) (fun i => i ≤ p.length) (fun i => p.length - i) 0 (Nat.zero_le _)
    (le_of [2] rfl rfl rfl ⟨rfl, rfl, rfl, rfl, rfl, trivial⟩ ⟨rfl, trivial⟩) ?_
  intro i hi
  have hql := qst_len p i
  have hqc := qst_le p i
  (conv => whnf); repeat (first | (refine w ?_; conv => whnf) | (refine ⟨fun h => absurd h Bool.false_ne_true, fun _ => ?_⟩; conv => whnf) | (refine ⟨fun _ => ?_, fun h => absurd h.symm Bool.false_ne_true⟩; conv => whnf))
  refine ⟨fun hlt => ?_, fun hge => ?_⟩
  · have hlt := of_lt hlt
    have h1 := h.low i hlt
    have h2 := h.up i hlt
    have hx := gt_some hlt
    have e : qst p (i + 1) = if gt p i = i then ((qst p i).1 ++ [((qst p i).2 : Int)], (qst p i).2 + 1) else ((qst p i).1 ++ [gt (qst p i).1 (gt p i).toNat], (qst p i).2) := rfl
    generalize gt p i = x at *
    (conv => whnf); repeat (first | (refine w ?_; conv => whnf) | (refine ⟨fun h => absurd h Bool.false_ne_true, fun _ => ?_⟩; conv => whnf) | (refine ⟨fun _ => ?_, fun h => absurd h.symm Bool.false_ne_true⟩; conv => whnf))
    refine ⟨by omega, _, nums_at hx, ?_⟩
    (conv => whnf); repeat (first | (refine w ?_; conv => whnf) | (refine ⟨fun h => absurd h Bool.false_ne_true, fun _ => ?_⟩; conv => whnf) | (refine ⟨fun _ => ?_, fun h => absurd h.symm Bool.false_ne_true⟩; conv => whnf))
    refine ⟨fun k => ?_, fun k => ?_⟩
    · have k : x = i := by simpa using k
      rw [if_pos k] at e
      (conv => whnf); repeat (first | (refine w ?_; conv => whnf) | (refine ⟨fun h => absurd h Bool.false_ne_true, fun _ => ?_⟩; conv => whnf) | (refine ⟨fun _ => ?_, fun h => absurd h.symm Bool.false_ne_true⟩; conv => whnf))
      refine ⟨by rw [nums_len, hql]; show (_ + 1) * 8 ≤ _; omega, ?_⟩
      (conv => whnf); repeat (first | (refine w ?_; conv => whnf) | (refine ⟨fun h => absurd h Bool.false_ne_true, fun _ => ?_⟩; conv => whnf) | (refine ⟨fun _ => ?_, fun h => absurd h.symm Bool.false_ne_true⟩; conv => whnf))
      exact ⟨i + 1, hlt, by show p.length - (i + 1) < p.length - i; omega, le_of [2] rfl rfl rfl ⟨step_num hlt (by omega), rfl, rfl, rfl, by rw [e]; exact step_num (n := 100) (by omega) (by omega), trivial⟩ ⟨by rw [e, nums_app]; rfl, trivial⟩⟩
    · have k : x ≠ i := by simpa using k
      rw [if_neg k] at e
      (conv => whnf); repeat (first | (refine w ?_; conv => whnf) | (refine ⟨fun h => absurd h Bool.false_ne_true, fun _ => ?_⟩; conv => whnf) | (refine ⟨fun _ => ?_, fun h => absurd h.symm Bool.false_ne_true⟩; conv => whnf))
      refine ⟨⟨by omega, by rw [nums_len, hql]; omega⟩, ?_⟩
      (conv => whnf); repeat (first | (refine w ?_; conv => whnf) | (refine ⟨fun h => absurd h Bool.false_ne_true, fun _ => ?_⟩; conv => whnf) | (refine ⟨fun _ => ?_, fun h => absurd h.symm Bool.false_ne_true⟩; conv => whnf))
      refine ⟨rfl, _, nums_at (gt_some (by omega)), ?_⟩
      (conv => whnf); repeat (first | (refine w ?_; conv => whnf) | (refine ⟨fun h => absurd h Bool.false_ne_true, fun _ => ?_⟩; conv => whnf) | (refine ⟨fun _ => ?_, fun h => absurd h.symm Bool.false_ne_true⟩; conv => whnf))
      refine ⟨by rw [nums_len, hql]; show (_ + 1) * 8 ≤ _; omega, ?_⟩
      (conv => whnf); repeat (first | (refine w ?_; conv => whnf) | (refine ⟨fun h => absurd h Bool.false_ne_true, fun _ => ?_⟩; conv => whnf) | (refine ⟨fun _ => ?_, fun h => absurd h.symm Bool.false_ne_true⟩; conv => whnf))
      exact ⟨i + 1, hlt, by show p.length - (i + 1) < p.length - i; omega, le_of [2] rfl rfl rfl ⟨step_num hlt (by omega), rfl, rfl, rfl, by rw [e]; rfl, trivial⟩ ⟨by rw [e, nums_app]; rfl, trivial⟩⟩
  · have hge := of_ge hge
    have : i = p.length := by omega
    subst this
    (conv => whnf); repeat (first | (refine w ?_; conv => whnf) | (refine ⟨fun h => absurd h Bool.false_ne_true, fun _ => ?_⟩; conv => whnf) | (refine ⟨fun _ => ?_, fun h => absurd h.symm Bool.false_ne_true⟩; conv => whnf))
    refine fin_frz TT ?_ rfl
    rfl
end Go.Av.Z

/- The reference: partitions. -/
set_option maxHeartbeats 4000000
namespace Go.Av.Z
open Go.Proofs

theorem c153 (p : List Int) (h : Ptn p) (hn : p.length ≤ 80) : Con P 153 [] [.slice 1 (nums p)] (.tuple [.slice 1 (nums (qn p)), .int .i64 (qc p), .int .i64 0]) [] := by
  refine go Tryz.func153 (by rfl) rfl rfl rfl fun hl => ?_
  (conv => whnf); repeat (first | (refine w ?_; conv => whnf) | (refine ⟨fun h => absurd h Bool.false_ne_true, fun _ => ?_⟩; conv => whnf) | (refine ⟨fun _ => ?_, fun h => absurd h.symm Bool.false_ne_true⟩; conv => whnf))
  refine ⟨_, _, c176 p h hn, ?_⟩
  (conv => whnf); repeat (first | (refine w ?_; conv => whnf) | (refine ⟨fun h => absurd h Bool.false_ne_true, fun _ => ?_⟩; conv => whnf) | (refine ⟨fun _ => ?_, fun h => absurd h.symm Bool.false_ne_true⟩; conv => whnf))
  refine loop (fun i : Nat => mkSt [(8, .int .i64 i), (0, .slice 1 (nums p)), (6, .ref 0), (7, .int .i64 (qst p i).2)] [.row 3 1 (nums (qst p i).1)]) (fun i => i ≤ p.length) (fun i => p.length - i) 0 (Nat.zero_le _)
    (le_of [2] rfl rfl rfl ⟨rfl, rfl, rfl, rfl, trivial⟩ ⟨rfl, trivial⟩) ?_
  intro i hi
  have hql := qst_len p i
  have hqc := qst_le p i
  (conv => whnf); repeat (first | (refine w ?_; conv => whnf) | (refine ⟨fun h => absurd h Bool.false_ne_true, fun _ => ?_⟩; conv => whnf) | (refine ⟨fun _ => ?_, fun h => absurd h.symm Bool.false_ne_true⟩; conv => whnf))
  rw [nums_len]
  refine ⟨fun hlt => ?_, fun hge => ?_⟩
  · have hlt := of_lt hlt
    have h1 := h.low i hlt
    have h2 := h.up i hlt
    have hx := gt_some hlt
    have e : qst p (i + 1) = if gt p i = i then ((qst p i).1 ++ [((qst p i).2 : Int)], (qst p i).2 + 1) else ((qst p i).1 ++ [gt (qst p i).1 (gt p i).toNat], (qst p i).2) := rfl
    generalize gt p i = x at *
    (conv => whnf); repeat (first | (refine w ?_; conv => whnf) | (refine ⟨fun h => absurd h Bool.false_ne_true, fun _ => ?_⟩; conv => whnf) | (refine ⟨fun _ => ?_, fun h => absurd h.symm Bool.false_ne_true⟩; conv => whnf))
    refine ⟨by omega, _, nums_at hx, ?_⟩
    (conv => whnf); repeat (first | (refine w ?_; conv => whnf) | (refine ⟨fun h => absurd h Bool.false_ne_true, fun _ => ?_⟩; conv => whnf) | (refine ⟨fun _ => ?_, fun h => absurd h.symm Bool.false_ne_true⟩; conv => whnf))
    refine ⟨fun k => ?_, fun k => ?_⟩
    · have k : x = i := by simpa using k
      rw [if_pos k] at e
      (conv => whnf); repeat (first | (refine w ?_; conv => whnf) | (refine ⟨fun h => absurd h Bool.false_ne_true, fun _ => ?_⟩; conv => whnf) | (refine ⟨fun _ => ?_, fun h => absurd h.symm Bool.false_ne_true⟩; conv => whnf))
      refine ⟨by rw [nums_len, hql]; show (_ + 1) * 8 ≤ _; omega, ?_⟩
      (conv => whnf); repeat (first | (refine w ?_; conv => whnf) | (refine ⟨fun h => absurd h Bool.false_ne_true, fun _ => ?_⟩; conv => whnf) | (refine ⟨fun _ => ?_, fun h => absurd h.symm Bool.false_ne_true⟩; conv => whnf))
      exact ⟨i + 1, hlt, by show p.length - (i + 1) < p.length - i; omega, le_of [2] rfl rfl rfl ⟨step_num hlt (by omega), rfl, rfl, by rw [e]; exact step_num (n := 100) (by omega) (by omega), trivial⟩ ⟨by rw [e, nums_app]; rfl, trivial⟩⟩
    · have k : x ≠ i := by simpa using k
      rw [if_neg k] at e
      (conv => whnf); repeat (first | (refine w ?_; conv => whnf) | (refine ⟨fun h => absurd h Bool.false_ne_true, fun _ => ?_⟩; conv => whnf) | (refine ⟨fun _ => ?_, fun h => absurd h.symm Bool.false_ne_true⟩; conv => whnf))
      refine ⟨by omega, _, nums_at hx, ?_⟩
      (conv => whnf); repeat (first | (refine w ?_; conv => whnf) | (refine ⟨fun h => absurd h Bool.false_ne_true, fun _ => ?_⟩; conv => whnf) | (refine ⟨fun _ => ?_, fun h => absurd h.symm Bool.false_ne_true⟩; conv => whnf))
      refine ⟨⟨by omega, by rw [nums_len, hql]; omega⟩, ?_⟩
      (conv => whnf); repeat (first | (refine w ?_; conv => whnf) | (refine ⟨fun h => absurd h Bool.false_ne_true, fun _ => ?_⟩; conv => whnf) | (refine ⟨fun _ => ?_, fun h => absurd h.symm Bool.false_ne_true⟩; conv => whnf))
      refine ⟨rfl, _, nums_at (gt_some (by omega)), ?_⟩
      (conv => whnf); repeat (first | (refine w ?_; conv => whnf) | (refine ⟨fun h => absurd h Bool.false_ne_true, fun _ => ?_⟩; conv => whnf) | (refine ⟨fun _ => ?_, fun h => absurd h.symm Bool.false_ne_true⟩; conv => whnf))
      refine ⟨by rw [nums_len, hql]; show (_ + 1) * 8 ≤ _; omega, ?_⟩
      (conv => whnf); repeat (first | (refine w ?_; conv => whnf) | (refine ⟨fun h => absurd h Bool.false_ne_true, fun _ => ?_⟩; conv => whnf) | (refine ⟨fun _ => ?_, fun h => absurd h.symm Bool.false_ne_true⟩; conv => whnf))
      exact ⟨i + 1, hlt, by show p.length - (i + 1) < p.length - i; omega, le_of [2] rfl rfl rfl ⟨step_num hlt (by omega), rfl, rfl, by rw [e]; rfl, trivial⟩ ⟨by rw [e, nums_app]; rfl, trivial⟩⟩
  · have hge := of_ge hge
    have : i = p.length := by omega
    subst this
    (conv => whnf); repeat (first | (refine w ?_; conv => whnf) | (refine ⟨fun h => absurd h Bool.false_ne_true, fun _ => ?_⟩; conv => whnf) | (refine ⟨fun _ => ?_, fun h => absurd h.symm Bool.false_ne_true⟩; conv => whnf))
    refine fin_frz TT ?_ rfl
    rfl
theorem rng0_succ (n : Nat) : rng 0 (n + 1) = rng 0 n ++ [(n : Int)] := by rw [rng_succ, Nat.zero_add]
theorem c151 (n : Nat) (hn : n ≤ 1000000) : Con P 151 [] [.int .i64 n] (.slice 1 (nums (rng 0 n))) [] := by
  refine go Tryz.func151 (by rfl) rfl rfl rfl fun hl => ?_
  (conv => whnf); repeat (first | (refine w ?_; conv => whnf) | (refine ⟨fun h => absurd h Bool.false_ne_true, fun _ => ?_⟩; conv => whnf) | (refine ⟨fun _ => ?_, fun h => absurd h.symm Bool.false_ne_true⟩; conv => whnf))
  refine loop (fun i : Nat => mkSt [(4, .int .i64 i), (0, .int .i64 n), (3, .ref 0)] [.row 3 1 (nums (rng 0 i))]) (fun i => i ≤ n) (fun i => n - i) 0 (Nat.zero_le _)
    (le_of [1] rfl rfl rfl ⟨rfl, rfl, rfl, trivial⟩ ⟨rfl, trivial⟩) ?_
  intro i hi
  (conv => whnf); repeat (first | (refine w ?_; conv => whnf) | (refine ⟨fun h => absurd h Bool.false_ne_true, fun _ => ?_⟩; conv => whnf) | (refine ⟨fun _ => ?_, fun h => absurd h.symm Bool.false_ne_true⟩; conv => whnf))
  refine ⟨fun hlt => ?_, fun hge => ?_⟩
  · have hlt := of_lt hlt
    (conv => whnf); repeat (first | (refine w ?_; conv => whnf) | (refine ⟨fun h => absurd h Bool.false_ne_true, fun _ => ?_⟩; conv => whnf) | (refine ⟨fun _ => ?_, fun h => absurd h.symm Bool.false_ne_true⟩; conv => whnf))
    refine ⟨by rw [nums_len, rng_len]; show (_ + 1) * 8 ≤ _; omega, ?_⟩
    (conv => whnf); repeat (first | (refine w ?_; conv => whnf) | (refine ⟨fun h => absurd h Bool.false_ne_true, fun _ => ?_⟩; conv => whnf) | (refine ⟨fun _ => ?_, fun h => absurd h.symm Bool.false_ne_true⟩; conv => whnf))
    exact ⟨i + 1, hlt, by show n - (i + 1) < n - i; omega, le_of [2] rfl rfl rfl ⟨step_num hlt (by omega), rfl, rfl, trivial⟩ ⟨by rw [rng0_succ, nums_app]; rfl, trivial⟩⟩
  · have hge := of_ge hge
    have : i = n := by omega
    subst this
    (conv => whnf); repeat (first | (refine w ?_; conv => whnf) | (refine ⟨fun h => absurd h Bool.false_ne_true, fun _ => ?_⟩; conv => whnf) | (refine ⟨fun _ => ?_, fun h => absurd h.symm Bool.false_ne_true⟩; conv => whnf))
    refine fin_frz TT ?_ rfl
    rfl
theorem c152 (p : List Int) (a b : Nat) (ha : a < p.length) (hb : b < p.length) (hn : p.length ≤ 1000000) : Con P 152 [] [.slice 1 (nums p), .int .i64 a, .int .i64 b] (.slice 1 (nums (mrg p a b))) [] := by
  have hx := gt_some ha
  have hy := gt_some hb
  have e : mrg p a b = p.map fun k => if k = max (gt p a) (gt p b) then min (gt p a) (gt p b) else k := rfl
  rw [e]
  generalize gt p a = x at *
  generalize gt p b = y at *
  refine go Tryz.func152 (by rfl) rfl rfl rfl fun hl => ?_
  (conv => whnf); repeat (first | (refine w ?_; conv => whnf) | (refine ⟨fun h => absurd h Bool.false_ne_true, fun _ => ?_⟩; conv => whnf) | (refine ⟨fun _ => ?_, fun h => absurd h.symm Bool.false_ne_true⟩; conv => whnf))
  refine ⟨by omega, _, nums_at hx, ?_⟩
  (conv => whnf); repeat (first | (refine w ?_; conv => whnf) | (refine ⟨fun h => absurd h Bool.false_ne_true, fun _ => ?_⟩; conv => whnf) | (refine ⟨fun _ => ?_, fun h => absurd h.symm Bool.false_ne_true⟩; conv => whnf))
  refine ⟨by omega, _, nums_at hy, ?_⟩
  (conv => whnf); repeat (first | (refine w ?_; conv => whnf) | (refine ⟨fun h => absurd h Bool.false_ne_true, fun _ => ?_⟩; conv => whnf) | (refine ⟨fun _ => ?_, fun h => absurd h.symm Bool.false_ne_true⟩; conv => whnf))
  refine ⟨by omega, _, nums_at hx, ?_⟩
  (conv => whnf); repeat (first | (refine w ?_; conv => whnf) | (refine ⟨fun h => absurd h Bool.false_ne_true, fun _ => ?_⟩; conv => whnf) | (refine ⟨fun _ => ?_, fun h => absurd h.symm Bool.false_ne_true⟩; conv => whnf))
  refine ⟨by omega, _, nums_at hy, ?_⟩
  (conv => whnf); repeat (first | (refine w ?_; conv => whnf) | (refine ⟨fun h => absurd h Bool.false_ne_true, fun _ => ?_⟩; conv => whnf) | (refine ⟨fun _ => ?_, fun h => absurd h.symm Bool.false_ne_true⟩; conv => whnf))
  refine ⟨by kernel_rfl, ?_⟩
  (conv => whnf); repeat (first | (refine w ?_; conv => whnf) | (refine ⟨fun h => absurd h Bool.false_ne_true, fun _ => ?_⟩; conv => whnf) | (refine ⟨fun _ => ?_, fun h => absurd h.symm Bool.false_ne_true⟩; conv => whnf))
  refine loop (fun i : Nat => mkSt [(10, .int .i64 i), (0, .slice 1 (nums p)), (7, .int .i64 (min x y)), (8, .int .i64 (max x y)), (9, .ref 0)] [.row 3 1 (nums ((p.take i).map fun k => if k = max x y then min x y else k))]) (fun i => i ≤ p.length) (fun i => p.length - i) 0 (Nat.zero_le _)
    (le_of [1] rfl rfl rfl ⟨rfl, rfl, by rw [← if_min]; rfl, by rw [← if_max]; rfl, rfl, trivial⟩ ⟨rfl, trivial⟩) ?_
  intro i hi
  (conv => whnf); repeat (first | (refine w ?_; conv => whnf) | (refine ⟨fun h => absurd h Bool.false_ne_true, fun _ => ?_⟩; conv => whnf) | (refine ⟨fun _ => ?_, fun h => absurd h.symm Bool.false_ne_true⟩; conv => whnf))
  rw [nums_len]
  refine ⟨fun hlt => ?_, fun hge => ?_⟩
  · have hlt := of_lt hlt
    have hz := gt_some hlt
    generalize gt p i = z at *
    (conv => whnf); repeat (first | (refine w ?_; conv => whnf) | (refine ⟨fun h => absurd h Bool.false_ne_true, fun _ => ?_⟩; conv => whnf) | (refine ⟨fun _ => ?_, fun h => absurd h.symm Bool.false_ne_true⟩; conv => whnf))
    refine ⟨by omega, _, nums_at hz, ?_⟩
    (conv => whnf); repeat (first | (refine w ?_; conv => whnf) | (refine ⟨fun h => absurd h Bool.false_ne_true, fun _ => ?_⟩; conv => whnf) | (refine ⟨fun _ => ?_, fun h => absurd h.symm Bool.false_ne_true⟩; conv => whnf))
    refine ⟨fun k => ?_, fun k => ?_⟩
    · have k : z = max x y := by simpa using k
      (conv => whnf); repeat (first | (refine w ?_; conv => whnf) | (refine ⟨fun h => absurd h Bool.false_ne_true, fun _ => ?_⟩; conv => whnf) | (refine ⟨fun _ => ?_, fun h => absurd h.symm Bool.false_ne_true⟩; conv => whnf))
      refine ⟨by rw [nums_len, List.length_map, List.length_take]; show (_ + 1) * 8 ≤ _; omega, ?_⟩
      (conv => whnf); repeat (first | (refine w ?_; conv => whnf) | (refine ⟨fun h => absurd h Bool.false_ne_true, fun _ => ?_⟩; conv => whnf) | (refine ⟨fun _ => ?_, fun h => absurd h.symm Bool.false_ne_true⟩; conv => whnf))
      exact ⟨i + 1, hlt, by show p.length - (i + 1) < p.length - i; omega, le_of [2] rfl rfl rfl ⟨step_num hlt (by omega), rfl, rfl, rfl, rfl, trivial⟩ ⟨by rw [take_map _ hz, nums_app, if_pos k]; rfl, trivial⟩⟩
    · have k : z ≠ max x y := by simpa using k
      (conv => whnf); repeat (first | (refine w ?_; conv => whnf) | (refine ⟨fun h => absurd h Bool.false_ne_true, fun _ => ?_⟩; conv => whnf) | (refine ⟨fun _ => ?_, fun h => absurd h.symm Bool.false_ne_true⟩; conv => whnf))
      refine ⟨by rw [nums_len, List.length_map, List.length_take]; show (_ + 1) * 8 ≤ _; omega, ?_⟩
      (conv => whnf); repeat (first | (refine w ?_; conv => whnf) | (refine ⟨fun h => absurd h Bool.false_ne_true, fun _ => ?_⟩; conv => whnf) | (refine ⟨fun _ => ?_, fun h => absurd h.symm Bool.false_ne_true⟩; conv => whnf))
      exact ⟨i + 1, hlt, by show p.length - (i + 1) < p.length - i; omega, le_of [2] rfl rfl rfl ⟨step_num hlt (by omega), rfl, rfl, rfl, rfl, trivial⟩ ⟨by rw [take_map _ hz, nums_app, if_neg k]; rfl, trivial⟩⟩
  · have hge := of_ge hge
    rw [take_of_all hge]
    (conv => whnf); repeat (first | (refine w ?_; conv => whnf) | (refine ⟨fun h => absurd h Bool.false_ne_true, fun _ => ?_⟩; conv => whnf) | (refine ⟨fun _ => ?_, fun h => absurd h.symm Bool.false_ne_true⟩; conv => whnf))
    refine fin_frz TT ?_ rfl
    rfl
theorem c126 (n : Nat) (l : List (Int × Int)) (hn : n ≤ 80) (hr : inR n l) (hl2 : l.length ≤ 1000000) : Con P 126 [] [.int .i64 n, .slice 2 (przs l)] (.tuple [.slice 1 (nums (gen n l)), .int .i64 0]) [] := by
  refine go Tryz.func126 (by rfl) rfl rfl rfl fun hl => ?_
  (conv => whnf); repeat (first | (refine w ?_; conv => whnf) | (refine ⟨fun h => absurd h Bool.false_ne_true, fun _ => ?_⟩; conv => whnf) | (refine ⟨fun _ => ?_, fun h => absurd h.symm Bool.false_ne_true⟩; conv => whnf))
  refine ⟨fun h => absurd h (by simp; omega), fun _ => ?_⟩
  (conv => whnf); repeat (first | (refine w ?_; conv => whnf) | (refine ⟨fun h => absurd h Bool.false_ne_true, fun _ => ?_⟩; conv => whnf) | (refine ⟨fun _ => ?_, fun h => absurd h.symm Bool.false_ne_true⟩; conv => whnf))
  refine loop (fun i : Nat => mkSt [(6, .int .i64 i), (0, .int .i64 n), (1, .slice 2 (przs l))] []) (fun i => i ≤ l.length) (fun i => l.length - i) 0 (Nat.zero_le _)
    (le_of [] rfl rfl rfl ⟨rfl, rfl, rfl, trivial⟩ trivial) ?_
  intro i hi
  (conv => whnf); repeat (first | (refine w ?_; conv => whnf) | (refine ⟨fun h => absurd h Bool.false_ne_true, fun _ => ?_⟩; conv => whnf) | (refine ⟨fun _ => ?_, fun h => absurd h.symm Bool.false_ne_true⟩; conv => whnf))
  rw [przs_len]
  refine ⟨fun hlt => ?_, fun hge => ?_⟩
  · have hlt := of_lt hlt
    have hx : l[i]? = some l[i] := List.getElem?_eq_getElem hlt
    generalize l[i] = x at hx
    obtain ⟨x1, x2⟩ := hr x (List.mem_of_getElem? hx)
    (conv => whnf); repeat (first | (refine w ?_; conv => whnf) | (refine ⟨fun h => absurd h Bool.false_ne_true, fun _ => ?_⟩; conv => whnf) | (refine ⟨fun _ => ?_, fun h => absurd h.symm Bool.false_ne_true⟩; conv => whnf))
    refine ⟨by omega, _, przs_at hx, ?_⟩
    (conv => whnf); repeat (first | (refine w ?_; conv => whnf) | (refine ⟨fun h => absurd h Bool.false_ne_true, fun _ => ?_⟩; conv => whnf) | (refine ⟨fun _ => ?_, fun h => absurd h.symm Bool.false_ne_true⟩; conv => whnf))
    refine ⟨fun h => absurd h (by simp <;> omega), fun _ => ?_⟩
    (conv => whnf); repeat (first | (refine w ?_; conv => whnf) | (refine ⟨fun h => absurd h Bool.false_ne_true, fun _ => ?_⟩; conv => whnf) | (refine ⟨fun _ => ?_, fun h => absurd h.symm Bool.false_ne_true⟩; conv => whnf))
    refine ⟨by omega, _, przs_at hx, ?_⟩
    (conv => whnf); repeat (first | (refine w ?_; conv => whnf) | (refine ⟨fun h => absurd h Bool.false_ne_true, fun _ => ?_⟩; conv => whnf) | (refine ⟨fun _ => ?_, fun h => absurd h.symm Bool.false_ne_true⟩; conv => whnf))
    refine ⟨fun h => absurd h (by simp <;> omega), fun _ => ?_⟩
    (conv => whnf); repeat (first | (refine w ?_; conv => whnf) | (refine ⟨fun h => absurd h Bool.false_ne_true, fun _ => ?_⟩; conv => whnf) | (refine ⟨fun _ => ?_, fun h => absurd h.symm Bool.false_ne_true⟩; conv => whnf))
    refine ⟨by omega, _, przs_at hx, ?_⟩
    (conv => whnf); repeat (first | (refine w ?_; conv => whnf) | (refine ⟨fun h => absurd h Bool.false_ne_true, fun _ => ?_⟩; conv => whnf) | (refine ⟨fun _ => ?_, fun h => absurd h.symm Bool.false_ne_true⟩; conv => whnf))
    refine ⟨fun h => absurd h (by simp <;> omega), fun _ => ?_⟩
    (conv => whnf); repeat (first | (refine w ?_; conv => whnf) | (refine ⟨fun h => absurd h Bool.false_ne_true, fun _ => ?_⟩; conv => whnf) | (refine ⟨fun _ => ?_, fun h => absurd h.symm Bool.false_ne_true⟩; conv => whnf))
    refine ⟨by omega, _, przs_at hx, ?_⟩
    (conv => whnf); repeat (first | (refine w ?_; conv => whnf) | (refine ⟨fun h => absurd h Bool.false_ne_true, fun _ => ?_⟩; conv => whnf) | (refine ⟨fun _ => ?_, fun h => absurd h.symm Bool.false_ne_true⟩; conv => whnf))
    refine ⟨fun h => absurd h (by simp <;> omega), fun _ => ?_⟩
    (conv => whnf); repeat (first | (refine w ?_; conv => whnf) | (refine ⟨fun h => absurd h Bool.false_ne_true, fun _ => ?_⟩; conv => whnf) | (refine ⟨fun _ => ?_, fun h => absurd h.symm Bool.false_ne_true⟩; conv => whnf))
    exact ⟨i + 1, hlt, by show l.length - (i + 1) < l.length - i; omega, le_of [] rfl rfl rfl ⟨step_num hlt (by omega), rfl, rfl, trivial⟩ trivial⟩
  · (conv => whnf); repeat (first | (refine w ?_; conv => whnf) | (refine ⟨fun h => absurd h Bool.false_ne_true, fun _ => ?_⟩; conv => whnf) | (refine ⟨fun _ => ?_, fun h => absurd h.symm Bool.false_ne_true⟩; conv => whnf))
    refine ⟨_, _, c151 n (by omega), ?_⟩
    (conv => whnf); repeat (first | (refine w ?_; conv => whnf) | (refine ⟨fun h => absurd h Bool.false_ne_true, fun _ => ?_⟩; conv => whnf) | (refine ⟨fun _ => ?_, fun h => absurd h.symm Bool.false_ne_true⟩; conv => whnf))
    refine loop (fun i : Nat => mkSt [(8, .int .i64 i), (1, .slice 2 (przs l)), (7, .slice 1 (nums (gen n (l.take i))))] []) (fun i => i ≤ l.length) (fun i => l.length - i) 0 (Nat.zero_le _)
      (le_of [] rfl rfl rfl ⟨rfl, rfl, rfl, trivial⟩ trivial) ?_
    clear hi hge
    intro i hi
    (conv => whnf); repeat (first | (refine w ?_; conv => whnf) | (refine ⟨fun h => absurd h Bool.false_ne_true, fun _ => ?_⟩; conv => whnf) | (refine ⟨fun _ => ?_, fun h => absurd h.symm Bool.false_ne_true⟩; conv => whnf))
    rw [przs_len]
    refine ⟨fun hlt => ?_, fun hge => ?_⟩
    · have hlt := of_lt hlt
      have hx : l[i]? = some l[i] := List.getElem?_eq_getElem hlt
      generalize l[i] = x at hx
      obtain ⟨x1, x2⟩ := hr x (List.mem_of_getElem? hx)
      obtain ⟨a, ha⟩ := Int.eq_ofNat_of_zero_le x1.1
      obtain ⟨b, hb⟩ := Int.eq_ofNat_of_zero_le x2.1
      have hg := gen_take (n := n) hx
      have hlen := gen_len n (l.take i)
      rw [ha, hb] at hg
      have hat : (przs l)[i]? = some [.int .i64 a, .int .i64 b] := by rw [przs_at hx, ha, hb]
      (conv => whnf); repeat (first | (refine w ?_; conv => whnf) | (refine ⟨fun h => absurd h Bool.false_ne_true, fun _ => ?_⟩; conv => whnf) | (refine ⟨fun _ => ?_, fun h => absurd h.symm Bool.false_ne_true⟩; conv => whnf))
      refine ⟨by omega, _, hat, ?_⟩
      (conv => whnf); repeat (first | (refine w ?_; conv => whnf) | (refine ⟨fun h => absurd h Bool.false_ne_true, fun _ => ?_⟩; conv => whnf) | (refine ⟨fun _ => ?_, fun h => absurd h.symm Bool.false_ne_true⟩; conv => whnf))
      refine ⟨by omega, _, hat, ?_⟩
      (conv => whnf); repeat (first | (refine w ?_; conv => whnf) | (refine ⟨fun h => absurd h Bool.false_ne_true, fun _ => ?_⟩; conv => whnf) | (refine ⟨fun _ => ?_, fun h => absurd h.symm Bool.false_ne_true⟩; conv => whnf))
      refine ⟨_, _, c152 (gen n (l.take i)) a b (by omega) (by omega) (by omega), ?_⟩
      (conv => whnf); repeat (first | (refine w ?_; conv => whnf) | (refine ⟨fun h => absurd h Bool.false_ne_true, fun _ => ?_⟩; conv => whnf) | (refine ⟨fun _ => ?_, fun h => absurd h.symm Bool.false_ne_true⟩; conv => whnf))
      refine ⟨by kernel_rfl, ?_⟩
      (conv => whnf); repeat (first | (refine w ?_; conv => whnf) | (refine ⟨fun h => absurd h Bool.false_ne_true, fun _ => ?_⟩; conv => whnf) | (refine ⟨fun _ => ?_, fun h => absurd h.symm Bool.false_ne_true⟩; conv => whnf))
      exact ⟨i + 1, hlt, by show l.length - (i + 1) < l.length - i; omega, le_of [] rfl rfl rfl ⟨step_num hlt (by omega), rfl, by rw [hg]; rfl, trivial⟩ trivial⟩
    · have hge := of_ge hge
      rw [take_of_all hge]
      (conv => whnf); repeat (first | (refine w ?_; conv => whnf) | (refine ⟨fun h => absurd h Bool.false_ne_true, fun _ => ?_⟩; conv => whnf) | (refine ⟨fun _ => ?_, fun h => absurd h.symm Bool.false_ne_true⟩; conv => whnf))
      refine fin_frz TT ?_ rfl
      rfl
end Go.Av.Z

/- Quotients of graphs. -/
set_option maxHeartbeats 4000000
namespace Go.Av.Z
open Go.Proofs

/-- The nodes of the classes that begin among the first i elements. -/
def quoN (l : List Int) (p : List Int) : Nat → List Int
  | 0 => []
  | i + 1 => if gt p i = i then quoN l p i ++ [gt l i] else quoN l p i
def mapE (q : List Int) (e : Edge) : Edge := ⟨e.type, at0 q e.src, at0 q e.dst⟩
/-- The edges of the classes that begin among the first i elements. -/
def quoE (l : List Edge) (q p : List Int) : Nat → List Edge
  | 0 => []
  | i + 1 => if gt p i = i then quoE l q p i ++ [mapE q (atE l i)] else quoE l q p i
theorem quoN_len (l p : List Int) : ∀ i, (quoN l p i).length ≤ i
  | 0 => Nat.le_refl _
  | i + 1 => by have := quoN_len l p i; rw [quoN]; split <;> simp <;> omega
theorem quoE_len (l : List Edge) (q p : List Int) : ∀ i, (quoE l q p i).length ≤ i
  | 0 => Nat.le_refl _
  | i + 1 => by have := quoE_len l q p i; rw [quoE]; split <;> simp <;> omega
/-- The graph of the classes; where nodes and edges go. -/
def quoG (g : Graph) (p r : List Int) : Graph := ⟨quoN g.nodes p p.length, quoE g.edges (qn p) r r.length⟩
def quoM (p r : List Int) : Mor := ⟨qn p, qn r⟩
theorem gen_ptn {n : Nat} : ∀ {l : List (Int × Int)}, inR n l → Ptn (gen n l) := by
  intro l
  unfold gen
  have : ∀ (l : List (Int × Int)) (p : List Int), Ptn p → p.length = n → inR n l → Ptn (l.foldl (fun p x => mrg p x.1 x.2) p) := by
    intro l
    induction l with
    | nil => intro p hp _ _; exact hp
    | cons x r ih =>
      intro p hp hl hr
      rw [List.foldl_cons]
      have hx := hr x (List.mem_cons_self ..)
      exact ih _ ((Frs.self hp).mrg (by omega) (by omega)).ptn (by rw [mrg_len]; exact hl) fun y hy => hr y (List.mem_cons_of_mem _ hy)
  exact fun hr => this l _ (ptn_rng n) (rng_len 0 n) hr

theorem qn_len (p : List Int) : (qn p).length = p.length := qst_len p _
theorem c173 (g : Graph) (n m : List (Int × Int)) (hg : gval g = 0) (hn : inR g.nodes.length n) (hm : inR g.edges.length m) (hn2 : n.length ≤ 1000000) (hm2 : m.length ≤ 1000000) :
    Con P 173 [] [g.av, .slice 2 (przs n), .slice 2 (przs m)] (.tuple [(quoG g (gen g.nodes.length n) (gen g.edges.length m)).av, (quoM (gen g.nodes.length n) (gen g.edges.length m)).av, .int .i64 0]) [] := by
  have hl := gval_len hg
  have hp1 := gen_ptn hn
  have hr1 := gen_ptn hm
  have hp2 := gen_len g.nodes.length n
  have hr2 := gen_len g.edges.length m
  have k1 := c187 g.nodes.length n (by omega) hn hn2
  have k2 := c187 g.edges.length m (by omega) hm hm2
  generalize gen g.nodes.length n = p at *
  generalize gen g.edges.length m = r at *
  refine go Tryz.func173 (by rfl) rfl rfl rfl fun hl => ?_
  (conv => whnf); repeat (first | (refine w ?_; conv => whnf) | (refine ⟨fun h => absurd h Bool.false_ne_true, fun _ => ?_⟩; conv => whnf) | (refine ⟨fun _ => ?_, fun h => absurd h.symm Bool.false_ne_true⟩; conv => whnf))
  rw [nums_len]
  refine ⟨_, _, k1, ?_⟩
  (conv => whnf); repeat (first | (refine w ?_; conv => whnf) | (refine ⟨fun h => absurd h Bool.false_ne_true, fun _ => ?_⟩; conv => whnf) | (refine ⟨fun _ => ?_, fun h => absurd h.symm Bool.false_ne_true⟩; conv => whnf))
  rw [edgs_len]
  refine ⟨_, _, k2, ?_⟩
  (conv => whnf); repeat (first | (refine w ?_; conv => whnf) | (refine ⟨fun h => absurd h Bool.false_ne_true, fun _ => ?_⟩; conv => whnf) | (refine ⟨fun _ => ?_, fun h => absurd h.symm Bool.false_ne_true⟩; conv => whnf))
  refine ⟨_, _, c188 p hp1 (by omega), ?_⟩
  (conv => whnf); repeat (first | (refine w ?_; conv => whnf) | (refine ⟨fun h => absurd h Bool.false_ne_true, fun _ => ?_⟩; conv => whnf) | (refine ⟨fun _ => ?_, fun h => absurd h.symm Bool.false_ne_true⟩; conv => whnf))
  refine ⟨_, _, c188 r hr1 (by omega), ?_⟩
  (conv => whnf); repeat (first | (refine w ?_; conv => whnf) | (refine ⟨fun h => absurd h Bool.false_ne_true, fun _ => ?_⟩; conv => whnf) | (refine ⟨fun _ => ?_, fun h => absurd h.symm Bool.false_ne_true⟩; conv => whnf))
  rw [nums_len]
  refine loop (fun i : Nat => mkSt [(64, .int .i64 i), (63, .int .i64 p.length), (62, .slice 1 (nums p)), (11, .slice 1 (nums r)), (3, .bptr 0 0), (6, .bptr 1 0), (7, .bptr 4 0), (18, .bptr 7 0), (12, .slice 1 (nums (qn p))), (15, .slice 1 (nums (qn r)))] [.box 25 g.cs, .box 25 [.ref 2, .ref 3], .row 3 1 [], .row 109 3 [], .box 32 [.ref 5, .ref 6], .row 3 1 [], .row 3 1 [], .box 25 [.ref 8, .ref 9], .row 3 1 (nums (quoN g.nodes p i)), .row 109 3 []]) (fun i => i ≤ p.length) (fun i => p.length - i) 0 (Nat.zero_le _)
    (le_of [0, 1, 2, 3, 4, 5, 6, 11, 12, 13] rfl rfl rfl ⟨rfl, rfl, rfl, rfl, rfl, rfl, rfl, rfl, rfl, rfl, trivial⟩ ⟨rfl, rfl, rfl, rfl, rfl, rfl, rfl, rfl, rfl, rfl, trivial⟩) ?_
  intro i hi
  have hql := quoN_len g.nodes p i
  (conv => whnf); repeat (first | (refine w ?_; conv => whnf) | (refine ⟨fun h => absurd h Bool.false_ne_true, fun _ => ?_⟩; conv => whnf) | (refine ⟨fun _ => ?_, fun h => absurd h.symm Bool.false_ne_true⟩; conv => whnf))
  refine ⟨fun hlt => ?_, fun hge => ?_⟩
  · have hlt := of_lt hlt
    have hx := gt_some hlt
    have e : quoN g.nodes p (i + 1) = if gt p i = i then quoN g.nodes p i ++ [gt g.nodes i] else quoN g.nodes p i := rfl
    generalize gt p i = x at *
    (conv => whnf); repeat (first | (refine w ?_; conv => whnf) | (refine ⟨fun h => absurd h Bool.false_ne_true, fun _ => ?_⟩; conv => whnf) | (refine ⟨fun _ => ?_, fun h => absurd h.symm Bool.false_ne_true⟩; conv => whnf))
    refine ⟨by omega, _, nums_at hx, ?_⟩
    (conv => whnf); repeat (first | (refine w ?_; conv => whnf) | (refine ⟨fun h => absurd h Bool.false_ne_true, fun _ => ?_⟩; conv => whnf) | (refine ⟨fun _ => ?_, fun h => absurd h.symm Bool.false_ne_true⟩; conv => whnf))
    refine ⟨fun k => ?_, fun k => ?_⟩
    · have k : x = i := by simpa using k
      rw [if_pos k] at e
      (conv => whnf); repeat (first | (refine w ?_; conv => whnf) | (refine ⟨fun h => absurd h Bool.false_ne_true, fun _ => ?_⟩; conv => whnf) | (refine ⟨fun _ => ?_, fun h => absurd h.symm Bool.false_ne_true⟩; conv => whnf))
      refine ⟨by omega, _, nums_at (gt_some (by omega)), ?_⟩
      (conv => whnf); repeat (first | (refine w ?_; conv => whnf) | (refine ⟨fun h => absurd h Bool.false_ne_true, fun _ => ?_⟩; conv => whnf) | (refine ⟨fun _ => ?_, fun h => absurd h.symm Bool.false_ne_true⟩; conv => whnf))
      refine ⟨by rw [nums_len]; show (_ + 1) * 8 ≤ _; omega, ?_⟩
      (conv => whnf); repeat (first | (refine w ?_; conv => whnf) | (refine ⟨fun h => absurd h Bool.false_ne_true, fun _ => ?_⟩; conv => whnf) | (refine ⟨fun _ => ?_, fun h => absurd h.symm Bool.false_ne_true⟩; conv => whnf))
      refine ⟨by kernel_rfl, ?_⟩
      (conv => whnf); repeat (first | (refine w ?_; conv => whnf) | (refine ⟨fun h => absurd h Bool.false_ne_true, fun _ => ?_⟩; conv => whnf) | (refine ⟨fun _ => ?_, fun h => absurd h.symm Bool.false_ne_true⟩; conv => whnf))
      exact ⟨i + 1, hlt, by show p.length - (i + 1) < p.length - i; omega, le_of [0, 1, 2, 3, 4, 5, 6, 7, 11, 9] rfl rfl rfl ⟨step_num hlt (by omega), rfl, rfl, rfl, rfl, rfl, rfl, rfl, rfl, rfl, trivial⟩ ⟨rfl, rfl, rfl, rfl, rfl, rfl, rfl, rfl, by rw [e, nums_app]; rfl, rfl, trivial⟩⟩
    · have k : x ≠ i := by simpa using k
      rw [if_neg k] at e
      (conv => whnf); repeat (first | (refine w ?_; conv => whnf) | (refine ⟨fun h => absurd h Bool.false_ne_true, fun _ => ?_⟩; conv => whnf) | (refine ⟨fun _ => ?_, fun h => absurd h.symm Bool.false_ne_true⟩; conv => whnf))
      exact ⟨i + 1, hlt, by show p.length - (i + 1) < p.length - i; omega, le_of [0, 1, 2, 3, 4, 5, 6, 7, 8, 9] rfl rfl rfl ⟨step_num hlt (by omega), rfl, rfl, rfl, rfl, rfl, rfl, rfl, rfl, rfl, trivial⟩ ⟨rfl, rfl, rfl, rfl, rfl, rfl, rfl, rfl, by rw [e]; rfl, rfl, trivial⟩⟩
  · have hge := of_ge hge
    have : i = p.length := by omega
    subst this
    (conv => whnf); repeat (first | (refine w ?_; conv => whnf) | (refine ⟨fun h => absurd h Bool.false_ne_true, fun _ => ?_⟩; conv => whnf) | (refine ⟨fun _ => ?_, fun h => absurd h.symm Bool.false_ne_true⟩; conv => whnf))
    rw [nums_len]
    refine loop (fun i : Nat => mkSt [(85, .int .i64 i), (84, .int .i64 r.length), (83, .slice 1 (nums r)), (3, .bptr 0 0), (6, .bptr 1 0), (7, .bptr 4 0), (18, .bptr 7 0), (12, .slice 1 (nums (qn p))), (15, .slice 1 (nums (qn r)))] [.box 25 g.cs, .box 25 [.ref 2, .ref 3], .row 3 1 [], .row 109 3 [], .box 32 [.ref 5, .ref 6], .row 3 1 [], .row 3 1 [], .box 25 [.ref 8, .ref 9], .row 3 1 (nums (quoN g.nodes p p.length)), .row 109 3 (edgs (quoE g.edges (qn p) r i))]) (fun i => i ≤ r.length) (fun i => r.length - i) 0 (Nat.zero_le _)
      (le_of [0, 1, 2, 3, 4, 5, 6, 7, 8, 9] rfl rfl rfl ⟨rfl, rfl, rfl, rfl, rfl, rfl, rfl, rfl, rfl, trivial⟩ ⟨rfl, rfl, rfl, rfl, rfl, rfl, rfl, rfl, rfl, rfl, trivial⟩) ?_
    clear hi hge hql
    intro i hi
    have hql := quoE_len g.edges (qn p) r i
    have hqn := qn_len p
    (conv => whnf); repeat (first | (refine w ?_; conv => whnf) | (refine ⟨fun h => absurd h Bool.false_ne_true, fun _ => ?_⟩; conv => whnf) | (refine ⟨fun _ => ?_, fun h => absurd h.symm Bool.false_ne_true⟩; conv => whnf))
    refine ⟨fun hlt => ?_, fun hge => ?_⟩
    · have hlt := of_lt hlt
      have hx := gt_some hlt
      have e : quoE g.edges (qn p) r (i + 1) = if gt r i = i then quoE g.edges (qn p) r i ++ [mapE (qn p) (atE g.edges i)] else quoE g.edges (qn p) r i := rfl
      have hy := atE_some (l := g.edges) (n := (i : Int)) (by omega)
      have hb := gval_edge hg hy
      generalize atE g.edges (i : Int) = y at *
      generalize gt r i = x at *
      (conv => whnf); repeat (first | (refine w ?_; conv => whnf) | (refine ⟨fun h => absurd h Bool.false_ne_true, fun _ => ?_⟩; conv => whnf) | (refine ⟨fun _ => ?_, fun h => absurd h.symm Bool.false_ne_true⟩; conv => whnf))
      refine ⟨by omega, _, nums_at hx, ?_⟩
      (conv => whnf); repeat (first | (refine w ?_; conv => whnf) | (refine ⟨fun h => absurd h Bool.false_ne_true, fun _ => ?_⟩; conv => whnf) | (refine ⟨fun _ => ?_, fun h => absurd h.symm Bool.false_ne_true⟩; conv => whnf))
      refine ⟨fun k => ?_, fun k => ?_⟩
      · have k : x = i := by simpa using k
        rw [if_pos k] at e
        (conv => whnf); repeat (first | (refine w ?_; conv => whnf) | (refine ⟨fun h => absurd h Bool.false_ne_true, fun _ => ?_⟩; conv => whnf) | (refine ⟨fun _ => ?_, fun h => absurd h.symm Bool.false_ne_true⟩; conv => whnf))
        refine ⟨by omega, _, edgs_at hy, ?_⟩
        (conv => whnf); repeat (first | (refine w ?_; conv => whnf) | (refine ⟨fun h => absurd h Bool.false_ne_true, fun _ => ?_⟩; conv => whnf) | (refine ⟨fun _ => ?_, fun h => absurd h.symm Bool.false_ne_true⟩; conv => whnf))
        refine ⟨by omega, _, nums_at (at0_some (by omega)), ?_⟩
        (conv => whnf); repeat (first | (refine w ?_; conv => whnf) | (refine ⟨fun h => absurd h Bool.false_ne_true, fun _ => ?_⟩; conv => whnf) | (refine ⟨fun _ => ?_, fun h => absurd h.symm Bool.false_ne_true⟩; conv => whnf))
        refine ⟨by omega, _, nums_at (at0_some (by omega)), ?_⟩
        (conv => whnf); repeat (first | (refine w ?_; conv => whnf) | (refine ⟨fun h => absurd h Bool.false_ne_true, fun _ => ?_⟩; conv => whnf) | (refine ⟨fun _ => ?_, fun h => absurd h.symm Bool.false_ne_true⟩; conv => whnf))
        refine ⟨by rw [edgs_len]; show (_ + 1) * 24 ≤ _; omega, ?_⟩
        (conv => whnf); repeat (first | (refine w ?_; conv => whnf) | (refine ⟨fun h => absurd h Bool.false_ne_true, fun _ => ?_⟩; conv => whnf) | (refine ⟨fun _ => ?_, fun h => absurd h.symm Bool.false_ne_true⟩; conv => whnf))
        refine ⟨by kernel_rfl, ?_⟩
        (conv => whnf); repeat (first | (refine w ?_; conv => whnf) | (refine ⟨fun h => absurd h Bool.false_ne_true, fun _ => ?_⟩; conv => whnf) | (refine ⟨fun _ => ?_, fun h => absurd h.symm Bool.false_ne_true⟩; conv => whnf))
        exact ⟨i + 1, hlt, by show r.length - (i + 1) < r.length - i; omega, le_of [0, 1, 2, 3, 4, 5, 6, 7, 8, 12] rfl rfl rfl ⟨step_num hlt (by omega), rfl, rfl, rfl, rfl, rfl, rfl, rfl, rfl, trivial⟩ ⟨rfl, rfl, rfl, rfl, rfl, rfl, rfl, rfl, rfl, by rw [e, edgs_app]; rfl, trivial⟩⟩
      · have k : x ≠ i := by simpa using k
        rw [if_neg k] at e
        (conv => whnf); repeat (first | (refine w ?_; conv => whnf) | (refine ⟨fun h => absurd h Bool.false_ne_true, fun _ => ?_⟩; conv => whnf) | (refine ⟨fun _ => ?_, fun h => absurd h.symm Bool.false_ne_true⟩; conv => whnf))
        exact ⟨i + 1, hlt, by show r.length - (i + 1) < r.length - i; omega, le_of [0, 1, 2, 3, 4, 5, 6, 7, 8, 9] rfl rfl rfl ⟨step_num hlt (by omega), rfl, rfl, rfl, rfl, rfl, rfl, rfl, rfl, trivial⟩ ⟨rfl, rfl, rfl, rfl, rfl, rfl, rfl, rfl, rfl, by rw [e]; rfl, trivial⟩⟩
    · have hge := of_ge hge
      have : i = r.length := by omega
      subst this
      (conv => whnf); repeat (first | (refine w ?_; conv => whnf) | (refine ⟨fun h => absurd h Bool.false_ne_true, fun _ => ?_⟩; conv => whnf) | (refine ⟨fun _ => ?_, fun h => absurd h.symm Bool.false_ne_true⟩; conv => whnf))
      refine fin_frz TT ?_ rfl
      rfl
end Go.Av.Z

/- The reference: quotients of graphs. -/
set_option maxHeartbeats 4000000
namespace Go.Av.Z
open Go.Proofs

/-- What stands at the beginnings of classes. -/
def quo {α : Type} (f : Nat → α) (p : List Int) : Nat → List α
  | 0 => []
  | i + 1 => if gt p i = i then quo f p i ++ [f i] else quo f p i
theorem quoN_quo (l p : List Int) : ∀ i, quoN l p i = quo (gt l) p i
  | 0 => rfl
  | i + 1 => by rw [quoN, quo, quoN_quo l p i]
theorem quoE_quo (l : List Edge) (q p : List Int) : ∀ i, quoE l q p i = quo (fun i => mapE q (atE l (i : Nat))) p i
  | 0 => rfl
  | i + 1 => by rw [quoE, quo, quoE_quo l q p i]
theorem quo_len {α : Type} (f : Nat → α) (p : List Int) : ∀ i, (quo f p i).length = (qst p i).2
  | 0 => rfl
  | i + 1 => by
    rw [quo, qst]
    split
    · rw [List.length_append, quo_len f p i]; rfl
    · rw [quo_len f p i]
theorem qst_step (p : List Int) (i : Nat) : (qst p i).2 ≤ (qst p (i + 1)).2 := by
  rw [qst]; split <;> simp
theorem qst_mono (p : List Int) {i n : Nat} (h : i ≤ n) : (qst p i).2 ≤ (qst p n).2 := by
  induction n with
  | zero => have : i = 0 := by omega
            subst this; exact Nat.le_refl _
  | succ n ih =>
    by_cases e : i = n + 1
    · subst e; exact Nat.le_refl _
    · exact Nat.le_trans (ih (by omega)) (qst_step p n)
theorem gt_app {a b : List Int} {j : Nat} (h : j < a.length) : gt (a ++ b) j = gt a j := by
  simp [gt, List.getD_eq_getElem?_getD, List.getElem?_append_left h]
theorem gt_last (a : List Int) (x : Int) : gt (a ++ [x]) a.length = x := by
  simp [gt, List.getD_eq_getElem?_getD]
theorem qst_pre (p : List Int) {i n j : Nat} (h : i ≤ n) (hj : j < i) : gt (qst p n).1 j = gt (qst p i).1 j := by
  induction n with
  | zero => omega
  | succ n ih =>
    by_cases e : i = n + 1
    · subst e; rfl
    · have hl := qst_len p n
      rw [← ih (by omega), qst]
      split <;> exact gt_app (by omega)
theorem qn_rep {p : List Int} {i : Nat} (hi : i < p.length) (h : gt p i = i) : gt (qn p) i = (qst p i).2 := by
  have hl := qst_len p i
  rw [qn, qst_pre p (i := i + 1) (by omega) (by omega), qst, if_pos h]
  have := gt_last (qst p i).1 ((qst p i).2 : Int)
  rwa [hl] at this
theorem qn_cls {p : List Int} (hp : Ptn p) {i : Nat} (hi : i < p.length) : gt (qn p) i = gt (qn p) (gt p i).toNat := by
  by_cases h : gt p i = i
  · rw [h]; rfl
  · have hl := qst_len p i
    have h1 := hp.low i hi
    have h2 := hp.up i hi
    have e1 : gt (qn p) i = gt (qst p i).1 (gt p i).toNat := by
      rw [qn, qst_pre p (i := i + 1) (by omega) (by omega), qst, if_neg h]
      have := gt_last (qst p i).1 (gt (qst p i).1 (gt p i).toNat)
      rwa [hl] at this
    rw [e1]
    exact (qst_pre p (i := i) (n := p.length) (by omega) (by omega)).symm
theorem quo_at {α : Type} (f : Nat → α) {p : List Int} (hp : Ptn p) : ∀ i, i ≤ p.length → ∀ j, j < i → 0 ≤ gt (qn p) j ∧ gt (qn p) j < (qst p i).2 ∧ (quo f p i)[(gt (qn p) j).toNat]? = some (f (gt p j).toNat)
  | 0, _, j, hj => by omega
  | i + 1, hi, j, hj => by
    have hlen := quo_len f p i
    have hst := qst_step p i
    by_cases e : j < i
    · obtain ⟨k1, k2, k3⟩ := quo_at f hp i (by omega) j e
      refine ⟨k1, by omega, ?_⟩
      rw [quo]
      split
      · rw [List.getElem?_append_left (by omega)]; exact k3
      · exact k3
    · have : j = i := by omega
      subst this
      have h1 := hp.low j (by omega)
      have h2 := hp.up j (by omega)
      by_cases k : gt p j = j
      · rw [qn_rep (by omega) k, quo, if_pos k, qst, if_pos k, k, Int.toNat_natCast, Int.toNat_natCast]
        refine ⟨by omega, by simp; omega, ?_⟩
        rw [List.getElem?_append_right (by omega), hlen, Nat.sub_self]; rfl
      · rw [qn_cls hp (by omega)]
        obtain ⟨k1, k2, k3⟩ := quo_at f hp j (by omega) (gt p j).toNat (by omega)
        rw [hp.idem j (by omega)] at k3
        refine ⟨k1, by omega, ?_⟩
        rw [quo, if_neg k]
        exact k3
theorem quo_set {α : Type} (f : Nat → α) (z : α) {p : List Int} (hp : Ptn p) {i : Nat} (hi : i < p.length) (hf : f (gt p i).toNat = f i) :
    (quo f p i ++ List.replicate (qc p - (qst p i).2) z).set (gt (qn p) i).toNat (f i) = quo f p (i + 1) ++ List.replicate (qc p - (qst p (i + 1)).2) z := by
  have hlen := quo_len f p i
  have hm := qst_mono p (i := i + 1) (n := p.length) (by omega)
  by_cases k : gt p i = i
  · have e2 : (qst p (i + 1)).2 = (qst p i).2 + 1 := by rw [qst, if_pos k]
    rw [qn_rep hi k, Int.toNat_natCast, e2, quo, if_pos k]
    have hc : (qst p i).2 + 1 ≤ qc p := by unfold qc; omega
    obtain ⟨d, hd⟩ : ∃ d, qc p - (qst p i).2 = d + 1 := ⟨qc p - (qst p i).2 - 1, by omega⟩
    rw [hd, show qc p - ((qst p i).2 + 1) = d by omega, List.replicate_succ, ← hlen, List.set_append_right _ _ (Nat.le_refl _), Nat.sub_self, List.set_cons_zero, List.append_assoc]
    rfl
  · have e2 : (qst p (i + 1)).2 = (qst p i).2 := by rw [qst, if_neg k]
    rw [e2, quo, if_neg k]
    have h1 := hp.low i hi
    have h2 := hp.up i hi
    obtain ⟨k1, k2, k3⟩ := quo_at f hp i (by omega) (gt p i).toNat (by omega)
    rw [← qn_cls hp hi, hp.idem i hi, hf] at k3
    rw [← qn_cls hp hi] at k1 k2
    rw [List.set_append_left _ _ (by omega)]
    congr 1
    apply List.ext_getElem?
    intro j
    rw [List.getElem?_set]
    by_cases e : (gt (qn p) i).toNat = j
    · subst e; rw [if_pos rfl, k3, if_pos (by omega)]
    · rw [if_neg e]
theorem qn_lt {p : List Int} (hp : Ptn p) {i : Nat} (hi : i < p.length) : 0 ≤ gt (qn p) i ∧ gt (qn p) i < qc p := by
  obtain ⟨k1, k2, _⟩ := quo_at (fun _ => ()) hp p.length (Nat.le_refl _) i hi
  exact ⟨k1, k2⟩
theorem chunk_threes : ∀ (n : Nat) (a b c : AV), chunk 3 n (repl n [a, b, c]) = List.replicate n [a, b, c]
  | 0, a, b, c => rfl
  | n + 1, a, b, c => by
    have e : repl (n + 1) [a, b, c] = a :: b :: c :: repl n [a, b, c] := by simp [repl, List.replicate_succ]
    rw [e]
    simp [chunk, chunk_threes n a b c, List.replicate_succ]
theorem edgs_make (n : Nat) : chunk 3 n (repl n [.int .i64 0, .int .i64 0, .int .i64 0]) = edgs (List.replicate n ⟨0, 0, 0⟩) := by
  rw [chunk_threes]
  simp [edgs, Edge.el]
theorem edgs_set (l : List Edge) (k : Nat) (e : Edge) : (edgs l).set k e.el = edgs (l.set k e) := by simp [edgs, List.map_set]
theorem c128 (g : Graph) (p r : List Int) (hg : gval g = 0) (hp1 : Ptn p) (hr1 : Ptn r) (hp2 : p.length = g.nodes.length) (hr2 : r.length = g.edges.length)
    (hn : ∀ i, i < p.length → gt g.nodes (gt p i).toNat = gt g.nodes i) (he : ∀ i, i < r.length → mapE (qn p) (atE g.edges ((gt r i).toNat : Nat)) = mapE (qn p) (atE g.edges (i : Nat))) :
    Con P 128 [] [g.av, .slice 1 (nums p), .slice 1 (nums r)] (.tuple [(quoG g p r).av, (quoM p r).av]) [] := by
  have hl := gval_len hg
  have hqp := qst_le p p.length
  have hqr := qst_le r r.length
  have hqp : qc p ≤ p.length := hqp
  have hqr : qc r ≤ r.length := hqr
  refine go Tryz.func128 (by rfl) rfl rfl rfl fun hl => ?_
  (conv => whnf); repeat (first | (refine w ?_; conv => whnf) | (refine ⟨fun h => absurd h Bool.false_ne_true, fun _ => ?_⟩; conv => whnf) | (refine ⟨fun _ => ?_, fun h => absurd h.symm Bool.false_ne_true⟩; conv => whnf))
  refine ⟨_, _, c153 p hp1 (by omega), ?_⟩
  (conv => whnf); repeat (first | (refine w ?_; conv => whnf) | (refine ⟨fun h => absurd h Bool.false_ne_true, fun _ => ?_⟩; conv => whnf) | (refine ⟨fun _ => ?_, fun h => absurd h.symm Bool.false_ne_true⟩; conv => whnf))
  refine ⟨_, _, c153 r hr1 (by omega), ?_⟩
  (conv => whnf); repeat (first | (refine w ?_; conv => whnf) | (refine ⟨fun h => absurd h Bool.false_ne_true, fun _ => ?_⟩; conv => whnf) | (refine ⟨fun _ => ?_, fun h => absurd h.symm Bool.false_ne_true⟩; conv => whnf))
  refine ⟨⟨rfl, by omega, by show 8 * _ ≤ _; omega, by show _ ≤ maxLen; unfold maxLen; omega⟩, ?_⟩
  (conv => whnf); repeat (first | (refine w ?_; conv => whnf) | (refine ⟨fun h => absurd h Bool.false_ne_true, fun _ => ?_⟩; conv => whnf) | (refine ⟨fun _ => ?_, fun h => absurd h.symm Bool.false_ne_true⟩; conv => whnf))
  refine ⟨⟨rfl, by omega, by show 24 * _ ≤ _; omega, by show _ ≤ maxLen; unfold maxLen; omega⟩, ?_⟩
  (conv => whnf); repeat (first | (refine w ?_; conv => whnf) | (refine ⟨fun h => absurd h Bool.false_ne_true, fun _ => ?_⟩; conv => whnf) | (refine ⟨fun _ => ?_, fun h => absurd h.symm Bool.false_ne_true⟩; conv => whnf))
  refine ⟨by kernel_rfl, ?_⟩
  (conv => whnf); repeat (first | (refine w ?_; conv => whnf) | (refine ⟨fun h => absurd h Bool.false_ne_true, fun _ => ?_⟩; conv => whnf) | (refine ⟨fun _ => ?_, fun h => absurd h.symm Bool.false_ne_true⟩; conv => whnf))
  refine loop (fun i : Nat => mkSt [(15, .int .i64 i), (3, .bptr 0 0), (6, .bptr 1 0), (7, .bptr 4 0), (14, .bptr 7 0), (8, .slice 1 (nums (qn p))), (11, .slice 1 (nums (qn r)))] [.box 25 g.cs, .box 25 [.ref 2, .ref 3], .row 3 1 [], .row 109 3 [], .box 32 [.ref 5, .ref 6], .row 3 1 [], .row 3 1 [], .box 25 [.ref 8, .ref 9], .row 3 1 (nums ((quo (gt g.nodes) p i) ++ List.replicate (qc p - (qst p i).2) 0)), .row 109 3 (edgs (List.replicate (qc r) ⟨0, 0, 0⟩))]) (fun i => i ≤ g.nodes.length) (fun i => g.nodes.length - i) 0 (Nat.zero_le _)
    (le_of [0, 1, 2, 3, 4, 5, 6, 11, 9, 10] rfl rfl rfl ⟨rfl, rfl, rfl, rfl, rfl, rfl, rfl, trivial⟩ ⟨rfl, rfl, rfl, rfl, rfl, rfl, rfl, rfl, by show Blk.row 3 1 (chunk 1 ((qc p : Nat) : Int).toNat (repl ((qc p : Nat) : Int).toNat [.int .i64 0])) = _; rw [Int.toNat_natCast, nums_make]; rfl, by show Blk.row 109 3 (chunk 3 ((qc r : Nat) : Int).toNat (repl ((qc r : Nat) : Int).toNat [.int .i64 0, .int .i64 0, .int .i64 0])) = _; rw [Int.toNat_natCast, edgs_make]; rfl, trivial⟩) ?_
  intro i hi
  (conv => whnf); repeat (first | (refine w ?_; conv => whnf) | (refine ⟨fun h => absurd h Bool.false_ne_true, fun _ => ?_⟩; conv => whnf) | (refine ⟨fun _ => ?_, fun h => absurd h.symm Bool.false_ne_true⟩; conv => whnf))
  rw [nums_len]
  refine ⟨fun hlt => ?_, fun hge => ?_⟩
  · have hlt := of_lt hlt
    have hq := qn_lt hp1 (i := i) (by omega)
    have hx := gt_some (q := qn p) (i := i) (by rw [qn_len]; omega)
    have hy := gt_some (q := g.nodes) hlt
    have hset := quo_set (gt g.nodes) 0 hp1 (i := i) (by omega) (hn i (by omega))
    have hm := qst_mono p (i := i) (n := p.length) (by omega)
    have hlen : (nums ((quo (gt g.nodes) p i) ++ List.replicate (qc p - (qst p i).2) 0)).length = qc p := by
      rw [nums_len, List.length_append, quo_len, List.length_replicate]; unfold qc; omega
    generalize gt (qn p) i = q at *
    generalize gt g.nodes i = y at *
    (conv => whnf); repeat (first | (refine w ?_; conv => whnf) | (refine ⟨fun h => absurd h Bool.false_ne_true, fun _ => ?_⟩; conv => whnf) | (refine ⟨fun _ => ?_, fun h => absurd h.symm Bool.false_ne_true⟩; conv => whnf))
    refine ⟨by omega, _, nums_at hx, ?_⟩
    (conv => whnf); repeat (first | (refine w ?_; conv => whnf) | (refine ⟨fun h => absurd h Bool.false_ne_true, fun _ => ?_⟩; conv => whnf) | (refine ⟨fun _ => ?_, fun h => absurd h.symm Bool.false_ne_true⟩; conv => whnf))
    refine ⟨by omega, _, nums_at hy, ?_⟩
    (conv => whnf); repeat (first | (refine w ?_; conv => whnf) | (refine ⟨fun h => absurd h Bool.false_ne_true, fun _ => ?_⟩; conv => whnf) | (refine ⟨fun _ => ?_, fun h => absurd h.symm Bool.false_ne_true⟩; conv => whnf))
    refine ⟨⟨by omega, by rw [hlen]; omega⟩, ?_⟩
    (conv => whnf); repeat (first | (refine w ?_; conv => whnf) | (refine ⟨fun h => absurd h Bool.false_ne_true, fun _ => ?_⟩; conv => whnf) | (refine ⟨fun _ => ?_, fun h => absurd h.symm Bool.false_ne_true⟩; conv => whnf))
    refine ⟨_, nums_at (gt_some (by rw [nums_len] at hlen; omega)), ?_⟩
    (conv => whnf); repeat (first | (refine w ?_; conv => whnf) | (refine ⟨fun h => absurd h Bool.false_ne_true, fun _ => ?_⟩; conv => whnf) | (refine ⟨fun _ => ?_, fun h => absurd h.symm Bool.false_ne_true⟩; conv => whnf))
    refine ⟨by kernel_rfl, ?_⟩
    (conv => whnf); repeat (first | (refine w ?_; conv => whnf) | (refine ⟨fun h => absurd h Bool.false_ne_true, fun _ => ?_⟩; conv => whnf) | (refine ⟨fun _ => ?_, fun h => absurd h.symm Bool.false_ne_true⟩; conv => whnf))
    exact ⟨i + 1, hlt, by show g.nodes.length - (i + 1) < g.nodes.length - i; omega, le_of [0, 1, 2, 3, 4, 5, 6, 7, 8, 9] rfl rfl rfl ⟨step_num hlt (by omega), rfl, rfl, rfl, rfl, rfl, rfl, trivial⟩ ⟨rfl, rfl, rfl, rfl, rfl, rfl, rfl, rfl, by show Blk.row 3 1 ((nums _).set q.toNat [.int .i64 y]) = _; rw [nums_set, hset]; rfl, rfl, trivial⟩⟩
  · have hge := of_ge hge
    have : i = g.nodes.length := by omega
    subst this
    have h0 : ((quo (fun i => mapE (qn p) (atE g.edges (i : Nat))) r 0) ++ List.replicate (qc r - (qst r 0).2) ⟨0, 0, 0⟩) = List.replicate (qc r) ⟨0, 0, 0⟩ := by simp [quo, qst]
    (conv => whnf); repeat (first | (refine w ?_; conv => whnf) | (refine ⟨fun h => absurd h Bool.false_ne_true, fun _ => ?_⟩; conv => whnf) | (refine ⟨fun _ => ?_, fun h => absurd h.symm Bool.false_ne_true⟩; conv => whnf))
    refine loop (fun i : Nat => mkSt [(16, .int .i64 i), (3, .bptr 0 0), (6, .bptr 1 0), (7, .bptr 4 0), (14, .bptr 7 0), (8, .slice 1 (nums (qn p))), (11, .slice 1 (nums (qn r)))] [.box 25 g.cs, .box 25 [.ref 2, .ref 3], .row 3 1 [], .row 109 3 [], .box 32 [.ref 5, .ref 6], .row 3 1 [], .row 3 1 [], .box 25 [.ref 8, .ref 9], .row 3 1 (nums (quoN g.nodes p p.length)), .row 109 3 (edgs ((quo (fun i => mapE (qn p) (atE g.edges (i : Nat))) r i) ++ List.replicate (qc r - (qst r i).2) ⟨0, 0, 0⟩))]) (fun i => i ≤ g.edges.length) (fun i => g.edges.length - i) 0 (Nat.zero_le _)
      (le_of [0, 1, 2, 3, 4, 5, 6, 7, 8, 9] rfl rfl rfl ⟨rfl, rfl, rfl, rfl, rfl, rfl, rfl, trivial⟩ ⟨rfl, rfl, rfl, rfl, rfl, rfl, rfl, rfl, by rw [quoN_quo, hp2, show qc p - (qst p g.nodes.length).2 = 0 by rw [← hp2]; exact Nat.sub_self _, List.replicate_zero, List.append_nil]; rfl, by rw [h0]; rfl, trivial⟩) ?_
    clear hi hge
    intro i hi
    (conv => whnf); repeat (first | (refine w ?_; conv => whnf) | (refine ⟨fun h => absurd h Bool.false_ne_true, fun _ => ?_⟩; conv => whnf) | (refine ⟨fun _ => ?_, fun h => absurd h.symm Bool.false_ne_true⟩; conv => whnf))
    rw [edgs_len]
    refine ⟨fun hlt => ?_, fun hge => ?_⟩
    · have hlt := of_lt hlt
      have hq := qn_lt hr1 (i := i) (by omega)
      have hx := gt_some (q := qn r) (i := i) (by rw [qn_len]; omega)
      have hy := atE_some (l := g.edges) (n := (i : Int)) (by omega)
      have hb := gval_edge hg hy
      have hset : ((quo (fun i => mapE (qn p) (atE g.edges (i : Nat))) r i) ++ List.replicate (qc r - (qst r i).2) (⟨0, 0, 0⟩ : Edge)).set (gt (qn r) i).toNat (mapE (qn p) (atE g.edges (i : Nat))) = _ := quo_set (fun i => mapE (qn p) (atE g.edges (i : Nat))) ⟨0, 0, 0⟩ hr1 (i := i) (by omega) (he i (by omega))
      have hm := qst_mono r (i := i) (n := r.length) (by omega)
      have hqn := qn_len p
      have hlen : ((quo (fun i => mapE (qn p) (atE g.edges (i : Nat))) r i) ++ List.replicate (qc r - (qst r i).2) (⟨0, 0, 0⟩ : Edge)).length = qc r := by
        rw [List.length_append, quo_len, List.length_replicate]; unfold qc; omega
      generalize gt (qn r) i = q at *
      generalize ((quo (fun i => mapE (qn p) (atE g.edges (i : Nat))) r i) ++ List.replicate (qc r - (qst r i).2) (⟨0, 0, 0⟩ : Edge)) = L at *
      generalize atE g.edges (i : Int) = y at *
      have hL : L[q.toNat]? = some (L[q.toNat]'(by omega)) := List.getElem?_eq_getElem (by omega)
      (conv => whnf); repeat (first | (refine w ?_; conv => whnf) | (refine ⟨fun h => absurd h Bool.false_ne_true, fun _ => ?_⟩; conv => whnf) | (refine ⟨fun _ => ?_, fun h => absurd h.symm Bool.false_ne_true⟩; conv => whnf))
      refine ⟨by omega, _, nums_at hx, ?_⟩
      (conv => whnf); repeat (first | (refine w ?_; conv => whnf) | (refine ⟨fun h => absurd h Bool.false_ne_true, fun _ => ?_⟩; conv => whnf) | (refine ⟨fun _ => ?_, fun h => absurd h.symm Bool.false_ne_true⟩; conv => whnf))
      refine ⟨by omega, _, edgs_at hy, ?_⟩
      (conv => whnf); repeat (first | (refine w ?_; conv => whnf) | (refine ⟨fun h => absurd h Bool.false_ne_true, fun _ => ?_⟩; conv => whnf) | (refine ⟨fun _ => ?_, fun h => absurd h.symm Bool.false_ne_true⟩; conv => whnf))
      refine ⟨by omega, _, edgs_at hy, ?_⟩
      (conv => whnf); repeat (first | (refine w ?_; conv => whnf) | (refine ⟨fun h => absurd h Bool.false_ne_true, fun _ => ?_⟩; conv => whnf) | (refine ⟨fun _ => ?_, fun h => absurd h.symm Bool.false_ne_true⟩; conv => whnf))
      refine ⟨by omega, _, nums_at (at0_some (by omega)), ?_⟩
      (conv => whnf); repeat (first | (refine w ?_; conv => whnf) | (refine ⟨fun h => absurd h Bool.false_ne_true, fun _ => ?_⟩; conv => whnf) | (refine ⟨fun _ => ?_, fun h => absurd h.symm Bool.false_ne_true⟩; conv => whnf))
      refine ⟨by omega, _, edgs_at hy, ?_⟩
      (conv => whnf); repeat (first | (refine w ?_; conv => whnf) | (refine ⟨fun h => absurd h Bool.false_ne_true, fun _ => ?_⟩; conv => whnf) | (refine ⟨fun _ => ?_, fun h => absurd h.symm Bool.false_ne_true⟩; conv => whnf))
      refine ⟨by omega, _, nums_at (at0_some (by omega)), ?_⟩
      (conv => whnf); repeat (first | (refine w ?_; conv => whnf) | (refine ⟨fun h => absurd h Bool.false_ne_true, fun _ => ?_⟩; conv => whnf) | (refine ⟨fun _ => ?_, fun h => absurd h.symm Bool.false_ne_true⟩; conv => whnf))
      refine ⟨⟨by omega, by rw [edgs_len]; omega⟩, ?_⟩
      (conv => whnf); repeat (first | (refine w ?_; conv => whnf) | (refine ⟨fun h => absurd h Bool.false_ne_true, fun _ => ?_⟩; conv => whnf) | (refine ⟨fun _ => ?_, fun h => absurd h.symm Bool.false_ne_true⟩; conv => whnf))
      refine ⟨_, edgs_at hL, ?_⟩
      (conv => whnf); repeat (first | (refine w ?_; conv => whnf) | (refine ⟨fun h => absurd h Bool.false_ne_true, fun _ => ?_⟩; conv => whnf) | (refine ⟨fun _ => ?_, fun h => absurd h.symm Bool.false_ne_true⟩; conv => whnf))
      refine ⟨by kernel_rfl, ?_⟩
      (conv => whnf); repeat (first | (refine w ?_; conv => whnf) | (refine ⟨fun h => absurd h Bool.false_ne_true, fun _ => ?_⟩; conv => whnf) | (refine ⟨fun _ => ?_, fun h => absurd h.symm Bool.false_ne_true⟩; conv => whnf))
      exact ⟨i + 1, hlt, by show g.edges.length - (i + 1) < g.edges.length - i; omega, le_of [0, 1, 2, 3, 4, 5, 6, 7, 8, 9] rfl rfl rfl ⟨step_num hlt (by omega), rfl, rfl, rfl, rfl, rfl, rfl, trivial⟩ ⟨rfl, rfl, rfl, rfl, rfl, rfl, rfl, rfl, rfl, by show Blk.row 109 3 ((edgs L).set q.toNat (mapE (qn p) y).el) = _; rw [edgs_set, hset]; rfl, trivial⟩⟩
    · have hge := of_ge hge
      have : i = g.edges.length := by omega
      subst this
      rw [← hr2, show qc r - (qst r r.length).2 = 0 from Nat.sub_self _, List.replicate_zero, List.append_nil, ← quoE_quo]
      (conv => whnf); repeat (first | (refine w ?_; conv => whnf) | (refine ⟨fun h => absurd h Bool.false_ne_true, fun _ => ?_⟩; conv => whnf) | (refine ⟨fun _ => ?_, fun h => absurd h.symm Bool.false_ne_true⟩; conv => whnf))
      refine fin_frz TT ?_ rfl
      rfl
end Go.Av.Z

/- The plain law of pushouts. -/
namespace Go.Av.Z

/-- What the elements of equivalent places have in common, they have in common with the least of their class. -/
theorem mrg_resp {β : Type} (f : Nat → β) {p : List Int} {a b : Int} (hp : Ptn p) (ha : 0 ≤ a ∧ a < p.length) (hb : 0 ≤ b ∧ b < p.length) (h : ∀ i, i < p.length → f (gt p i).toNat = f i) (hab : f a.toNat = f b.toNat) : ∀ i, i < p.length → f (gt (mrg p a b) i).toNat = f i := by
  intro i hi
  unfold mrg
  rw [gt_map hi, gt_at0, gt_at0]
  have h1 := h i hi
  have h2 := h a.toNat (by omega)
  have h3 := h b.toNat (by omega)
  split
  · rename_i k
    rcases Int.le_total (gt p a.toNat) (gt p b.toNat) with hl | hl
    · rw [Int.max_eq_right hl] at k
      rw [Int.min_eq_left hl, h2, hab, ← h3, ← k, h1]
    · rw [Int.max_eq_left hl] at k
      rw [Int.min_eq_right hl, h3, ← hab, ← h2, ← k, h1]
  · exact h1
theorem gen_resp {β : Type} (f : Nat → β) {n : Nat} {l : List (Int × Int)} (hr : inR n l) (hf : ∀ x ∈ l, f x.1.toNat = f x.2.toNat) : ∀ i, i < n → f (gt (gen n l) i).toNat = f i := by
  unfold gen
  have : ∀ (l : List (Int × Int)) (p : List Int), Ptn p → p.length = n → inR n l → (∀ x ∈ l, f x.1.toNat = f x.2.toNat) → (∀ i, i < n → f (gt p i).toNat = f i) → ∀ i, i < n → f (gt (l.foldl (fun p x => mrg p x.1 x.2) p) i).toNat = f i := by
    intro l
    induction l with
    | nil => intro p _ _ _ _ h; exact h
    | cons x r ih =>
      intro p hp hl hr hf h
      rw [List.foldl_cons]
      have hx := hr x (List.mem_cons_self ..)
      refine ih _ ((Frs.self hp).mrg (by omega) (by omega)).ptn (by rw [mrg_len]; exact hl) (fun y hy => hr y (List.mem_cons_of_mem _ hy)) (fun y hy => hf y (List.mem_cons_of_mem _ hy)) ?_
      intro i hi
      exact mrg_resp f hp (by omega) (by omega) (fun i hi => h i (by omega)) (hf x (List.mem_cons_self ..)) i (by omega)
  exact this l _ (ptn_rng n) (rng_len 0 n) hr hf fun i hi => by rw [gt_rng hi]; rfl
theorem mrg_keep {p : List Int} {a b : Int} {i j : Nat} (hi : i < p.length) (hj : j < p.length) (h : gt p i = gt p j) : gt (mrg p a b) i = gt (mrg p a b) j := by
  unfold mrg
  rw [gt_map hi, gt_map hj, h]
theorem mrg_pair {p : List Int} {a b : Int} (ha : 0 ≤ a ∧ a < p.length) (hb : 0 ≤ b ∧ b < p.length) : gt (mrg p a b) a.toNat = gt (mrg p a b) b.toNat := by
  unfold mrg
  rw [gt_map (by omega), gt_map (by omega), gt_at0, gt_at0]
  rcases Int.le_total (gt p a.toNat) (gt p b.toNat) with hl | hl
  · rw [Int.max_eq_right hl, Int.min_eq_left hl, if_pos rfl]
    split <;> rfl
  · rw [Int.max_eq_left hl, Int.min_eq_right hl, if_pos rfl]
    split <;> rfl
theorem gen_pair {n : Nat} {l : List (Int × Int)} (hr : inR n l) {x : Int × Int} (hx : x ∈ l) : gt (gen n l) x.1.toNat = gt (gen n l) x.2.toNat := by
  unfold gen
  have hk : ∀ (l : List (Int × Int)) (p : List Int) (i j : Nat), i < p.length → j < p.length → gt p i = gt p j → gt (l.foldl (fun p x => mrg p x.1 x.2) p) i = gt (l.foldl (fun p x => mrg p x.1 x.2) p) j := by
    intro l
    induction l with
    | nil => intro p i j _ _ h; exact h
    | cons y r ih =>
      intro p i j hi hj h
      rw [List.foldl_cons]
      exact ih _ i j (by rw [mrg_len]; exact hi) (by rw [mrg_len]; exact hj) (mrg_keep hi hj h)
  have : ∀ (l : List (Int × Int)) (p : List Int), p.length = n → inR n l → x ∈ l → gt (l.foldl (fun p x => mrg p x.1 x.2) p) x.1.toNat = gt (l.foldl (fun p x => mrg p x.1 x.2) p) x.2.toNat := by
    intro l
    induction l with
    | nil => intro p _ _ h; cases h
    | cons y r ih =>
      intro p hl hr hx
      rw [List.foldl_cons]
      rcases List.mem_cons.1 hx with rfl | hx
      · have hy := hr x (List.mem_cons_self ..)
        exact hk r _ _ _ (by rw [mrg_len]; omega) (by rw [mrg_len]; omega) (mrg_pair (by omega) (by omega))
      · exact ih _ (by rw [mrg_len]; exact hl) (fun y hy => hr y (List.mem_cons_of_mem _ hy)) hx
  exact this l _ (rng_len 0 n) hr hx

theorem at0_rng {f n : Nat} {k : Int} (h0 : 0 ≤ k) (h1 : k < n) : at0 (rng f n) k = f + k := by
  obtain ⟨m, rfl⟩ := Int.eq_ofNat_of_zero_le h0
  have : m < n := by omega
  rw [gt_at0, gt, List.getD_eq_getElem?_getD, Int.toNat_natCast, rng_at this]
  simp
theorem gt_mem {l : List Int} {i : Nat} (h : i < l.length) : gt l i ∈ l := List.mem_of_getElem? (gt_some h)
/-- Of a valid morphism: types stay. -/
theorem mval_nt {a b : Graph} {m : Mor} (h : mval a b m = 0) {j : Nat} (hj : j < a.nodes.length) : gt b.nodes (gt m.nodes j).toNat = gt a.nodes j := by
  have hl := (mval_ok h).2.2.1
  have := errs_off (mval_ok h).2.2.2.2.1 j _ (gt_some (by omega))
  rw [Nat.zero_add, mnode] at this
  split at this
  · cases this
  · split at this
    · cases this
    · rename_i k; exact Classical.not_not.1 k
theorem mval_et {a b : Graph} {m : Mor} (h : mval a b m = 0) {j : Nat} (hj : j < a.edges.length) :
    (atE a.edges j).type = (atE b.edges (gt m.edges j)).type ∧ at0 m.nodes (atE a.edges j).src = (atE b.edges (gt m.edges j)).src ∧ at0 m.nodes (atE a.edges j).dst = (atE b.edges (gt m.edges j)).dst := by
  have hl := (mval_ok h).2.2.2.1
  have := errs_off (mval_ok h).2.2.2.2.2 j _ (gt_some (by omega))
  rw [Nat.zero_add, medge] at this
  split at this
  · cases this
  · split at this
    · cases this
    · split at this
      · cases this
      · refine ⟨by omega, by omega, by omega⟩
/-- Pairs of images in the disjoint union. -/
def pairsU (n k : Nat) (f g : List Int) : List (Int × Int) := prz (f.map (at0 (rng 0 n))) (g.map (at0 (rng n k)))
theorem pairsU_mem {n k : Nat} {f g : List Int} (hf : ∀ x ∈ f, 0 ≤ x ∧ x < n) (hg : ∀ x ∈ g, 0 ≤ x ∧ x < k) (hl : f.length = g.length) (x : Int × Int) : x ∈ pairsU n k f g ↔ ∃ j, j < f.length ∧ x = (gt f j, n + gt g j) := by
  unfold pairsU prz
  rw [List.mem_iff_getElem?]
  constructor
  · rintro ⟨j, hj⟩
    rw [List.getElem?_zip_eq_some, List.getElem?_map, List.getElem?_map] at hj
    have hjl : j < f.length := by
      rcases Nat.lt_or_ge j f.length with h | h
      · exact h
      · rw [List.getElem?_eq_none h] at hj; simp at hj
    refine ⟨j, hjl, ?_⟩
    rw [gt_some hjl, gt_some (by omega)] at hj
    obtain ⟨h1, h2⟩ := hj
    have f1 := hf _ (gt_mem hjl)
    have g1 := hg _ (gt_mem (by omega : j < g.length))
    simp only [Option.map_some, Option.some.injEq] at h1 h2
    rw [at0_rng f1.1 f1.2] at h1
    rw [at0_rng g1.1 g1.2] at h2
    obtain ⟨a, b⟩ := x
    simp only at h1 h2
    rw [Prod.mk.injEq]
    omega
  · rintro ⟨j, hj, rfl⟩
    refine ⟨j, ?_⟩
    have f1 := hf _ (gt_mem hj)
    have g1 := hg _ (gt_mem (by omega : j < g.length))
    rw [List.getElem?_zip_eq_some, List.getElem?_map, List.getElem?_map, gt_some hj, gt_some (by omega)]
    simp only [Option.map_some, Option.some.injEq]
    rw [at0_rng f1.1 f1.2, at0_rng g1.1 g1.2]
    omega
theorem pairsU_inR {n k : Nat} {f g : List Int} (hf : ∀ x ∈ f, 0 ≤ x ∧ x < n) (hg : ∀ x ∈ g, 0 ≤ x ∧ x < k) (hl : f.length = g.length) : inR (n + k) (pairsU n k f g) := by
  intro x hx
  obtain ⟨j, hj, rfl⟩ := (pairsU_mem hf hg hl x).1 hx
  have f1 := hf _ (gt_mem hj)
  have g1 := hg _ (gt_mem (by omega : j < g.length))
  simp only
  omega
theorem pairsU_len {n k : Nat} {f g : List Int} (hl : f.length = g.length) : (pairsU n k f g).length = f.length := by
  unfold pairsU prz; simp; omega
theorem un_nodes_left {b c : Graph} {k : Nat} (h : k < b.nodes.length) : gt (unG b c).nodes k = gt b.nodes k := gt_app h
theorem un_nodes_right {b c : Graph} {k : Nat} : gt (unG b c).nodes (b.nodes.length + k) = gt c.nodes k := by
  unfold unG gt
  rw [List.getD_eq_getElem?_getD, List.getD_eq_getElem?_getD, List.getElem?_append_right (by omega), Nat.add_sub_cancel_left]
theorem un_edges_left {b c : Graph} {k : Nat} (h : k < b.edges.length) : atE (unG b c).edges (k : Nat) = atE b.edges (k : Nat) := by
  unfold unG atE
  rw [Int.toNat_natCast, List.getD_eq_getElem?_getD, List.getD_eq_getElem?_getD, List.getElem?_append_left h]
theorem un_edges_right {b c : Graph} {k : Nat} (h : k < c.edges.length) : atE (unG b c).edges ((b.edges.length + k : Nat)) = shE b.nodes.length (atE c.edges (k : Nat)) := by
  unfold unG atE
  rw [Int.toNat_natCast, Int.toNat_natCast, List.getD_eq_getElem?_getD, List.getD_eq_getElem?_getD, List.getElem?_append_right (by omega), Nat.add_sub_cancel_left, List.getElem?_map, List.getElem?_eq_getElem h]; rfl
theorem gval_nodes {g : Graph} (h : gval g = 0) : ∀ n ∈ g.nodes, 0 ≤ n ∧ n ≤ 99 := by
  unfold gval at h
  split at h
  · cases h
  · split at h
    · cases h
    · rename_i h2
      have h2 : g.nodes.any (fun n => !within n 99) = false := by simpa using h2
      rw [List.any_eq_false] at h2
      intro n hn
      have := h2 n hn
      simp [within] at this
      omega
theorem gval_mk {g : Graph} (h1 : g.nodes.length ≤ 40) (h2 : g.edges.length ≤ 80) (h3 : ∀ n ∈ g.nodes, 0 ≤ n ∧ n ≤ 99) (h4 : ∀ e ∈ g.edges, 0 ≤ e.src ∧ e.src < g.nodes.length ∧ 0 ≤ e.dst ∧ e.dst < g.nodes.length ∧ 0 ≤ e.type ∧ e.type ≤ 99) : gval g = 0 := by
  unfold gval
  rw [if_neg (by omega)]
  have e1 : g.nodes.any (fun n => !within n 99) = false := by
    rw [List.any_eq_false]
    intro n hn
    have := h3 n hn
    simp [within]; omega
  have e2 : g.edges.any (fun e => !fits e g.nodes.length) = false := by
    rw [List.any_eq_false]
    intro e he
    have := h4 e he
    simp [fits, within]; omega
  rw [e1, e2]; rfl
theorem gval_edges {g : Graph} (h : gval g = 0) : ∀ e ∈ g.edges, 0 ≤ e.src ∧ e.src < g.nodes.length ∧ 0 ≤ e.dst ∧ e.dst < g.nodes.length ∧ 0 ≤ e.type ∧ e.type ≤ 99 := by
  intro e he
  obtain ⟨i, hi⟩ := List.mem_iff_getElem?.1 he
  exact gval_edge h hi
theorem uerr_ok {a b : Graph} (h : uerr a b = 0) : gval a = 0 ∧ gval b = 0 ∧ a.nodes.length + b.nodes.length ≤ 40 ∧ a.edges.length + b.edges.length ≤ 80 := by
  unfold uerr at h
  split at h
  · exact absurd h ‹_›
  · split at h
    · exact absurd h ‹_›
    · split at h
      · cases h
      · omega
theorem un_len (a b : Graph) : (unG a b).nodes.length = a.nodes.length + b.nodes.length ∧ (unG a b).edges.length = a.edges.length + b.edges.length := by simp [unG]
theorem gval_un {a b : Graph} (h : uerr a b = 0) : gval (unG a b) = 0 := by
  obtain ⟨h1, h2, h3, h4⟩ := uerr_ok h
  obtain ⟨l1, l2⟩ := un_len a b
  refine gval_mk (by omega) (by omega) ?_ ?_
  · intro n hn
    rcases List.mem_append.1 (show n ∈ a.nodes ++ b.nodes from hn) with k | k
    · exact gval_nodes h1 n k
    · exact gval_nodes h2 n k
  · intro e he
    rw [l1]
    rcases List.mem_append.1 (show e ∈ a.edges ++ b.edges.map (shE a.nodes.length) from he) with k | k
    · have := gval_edges h1 e k; omega
    · obtain ⟨e', k2, rfl⟩ := List.mem_map.1 k
      have := gval_edges h2 e' k2
      simp only [shE]; omega

/-- The classes of nodes, of edges. -/
def poN (s : Span) : List Int := gen (unG s.b s.c).nodes.length (pairsU s.b.nodes.length s.c.nodes.length s.f.nodes s.g.nodes)
def poE (s : Span) : List Int := gen (unG s.b s.c).edges.length (pairsU s.b.edges.length s.c.edges.length s.f.edges s.g.edges)
structure PoOk (s : Span) : Prop where
  f : mval s.a s.b s.f = 0
  g : mval s.a s.c s.g = 0
  u : uerr s.b s.c = 0
theorem spn_ok {s : Span} (h : spn s = 0) : mval s.a s.b s.f = 0 ∧ mval s.a s.c s.g = 0 := by
  unfold spn at h
  split at h
  · exact absurd h ‹_›
  · exact ⟨by omega, h⟩
section
variable {s : Span}
theorem PoOk.nR (h : PoOk s) : inR (unG s.b s.c).nodes.length (pairsU s.b.nodes.length s.c.nodes.length s.f.nodes s.g.nodes) := by
  rw [(un_len _ _).1]
  exact pairsU_inR (mval_node h.f) (mval_node h.g) ((mval_ok h.f).2.2.1.trans (mval_ok h.g).2.2.1.symm)
theorem PoOk.eR (h : PoOk s) : inR (unG s.b s.c).edges.length (pairsU s.b.edges.length s.c.edges.length s.f.edges s.g.edges) := by
  rw [(un_len _ _).2]
  exact pairsU_inR (mval_edge h.f) (mval_edge h.g) ((mval_ok h.f).2.2.2.1.trans (mval_ok h.g).2.2.2.1.symm)
theorem PoOk.nodes (h : PoOk s) : ∀ i, i < (poN s).length → gt (unG s.b s.c).nodes (gt (poN s) i).toNat = gt (unG s.b s.c).nodes i := by
  intro i hi
  have hlf := (mval_ok h.f).2.2.1
  have hlg := (mval_ok h.g).2.2.1
  rw [poN, gen_len] at hi
  refine gen_resp (gt (unG s.b s.c).nodes) h.nR ?_ i hi
  intro x hx
  obtain ⟨j, hj, rfl⟩ := (pairsU_mem (mval_node h.f) (mval_node h.g) (by omega) x).1 hx
  have f1 := mval_node h.f _ (gt_mem hj)
  have g1 := mval_node h.g _ (gt_mem (by omega : j < s.g.nodes.length))
  simp only
  rw [un_nodes_left (by omega), show ((s.b.nodes.length : Int) + gt s.g.nodes j).toNat = s.b.nodes.length + (gt s.g.nodes j).toNat by omega, un_nodes_right, mval_nt h.f (by omega), mval_nt h.g (by omega)]
theorem PoOk.cls (h : PoOk s) {j : Nat} (hj : j < s.a.nodes.length) : gt (qn (poN s)) (gt s.f.nodes j).toNat = gt (qn (poN s)) (s.b.nodes.length + (gt s.g.nodes j).toNat) := by
  have hlf := (mval_ok h.f).2.2.1
  have hlg := (mval_ok h.g).2.2.1
  have f1 := mval_node h.f _ (gt_mem (by omega : j < s.f.nodes.length))
  have g1 := mval_node h.g _ (gt_mem (by omega : j < s.g.nodes.length))
  have hp : Ptn (poN s) := gen_ptn h.nR
  have hl : (poN s).length = s.b.nodes.length + s.c.nodes.length := by rw [poN, gen_len, (un_len _ _).1]
  rw [qn_cls hp (i := (gt s.f.nodes j).toNat) (by omega), qn_cls hp (i := s.b.nodes.length + (gt s.g.nodes j).toNat) (by omega)]
  have := gen_pair h.nR (x := (gt s.f.nodes j, s.b.nodes.length + gt s.g.nodes j)) ((pairsU_mem (mval_node h.f) (mval_node h.g) (by omega) _).2 ⟨j, by omega, rfl⟩)
  simp only at this
  rw [show ((s.b.nodes.length : Int) + gt s.g.nodes j).toNat = s.b.nodes.length + (gt s.g.nodes j).toNat by omega] at this
  unfold poN
  rw [this]
theorem PoOk.edges (h : PoOk s) : ∀ i, i < (poE s).length → mapE (qn (poN s)) (atE (unG s.b s.c).edges ((gt (poE s) i).toNat : Nat)) = mapE (qn (poN s)) (atE (unG s.b s.c).edges (i : Nat)) := by
  intro i hi
  have hlf := (mval_ok h.f).2.2.2.1
  have hlg := (mval_ok h.g).2.2.2.1
  rw [poE, gen_len] at hi
  refine gen_resp (fun i => mapE (qn (poN s)) (atE (unG s.b s.c).edges (i : Nat))) h.eR ?_ i hi
  intro x hx
  obtain ⟨j, hj, rfl⟩ := (pairsU_mem (mval_edge h.f) (mval_edge h.g) (by omega) x).1 hx
  have f1 := mval_edge h.f _ (gt_mem hj)
  have g1 := mval_edge h.g _ (gt_mem (by omega : j < s.g.edges.length))
  have ef := mval_et h.f (j := j) (by omega)
  have eg := mval_et h.g (j := j) (by omega)
  have ea := gval_edge (mval_ok h.f).1 (atE_some (l := s.a.edges) (n := (j : Nat)) (by omega))
  have c1 := h.cls (j := (atE s.a.edges (j : Nat)).src.toNat) (by omega)
  have c2 := h.cls (j := (atE s.a.edges (j : Nat)).dst.toNat) (by omega)
  simp only
  rw [un_edges_left (by omega), show ((s.b.edges.length : Int) + gt s.g.edges j).toNat = s.b.edges.length + (gt s.g.edges j).toNat by omega, un_edges_right (by omega)]
  rw [show (((gt s.f.edges j).toNat : Nat) : Int) = gt s.f.edges j by omega, show (((gt s.g.edges j).toNat : Nat) : Int) = gt s.g.edges j by omega]
  have n1 : ∀ k, k < s.a.nodes.length → 0 ≤ gt s.g.nodes k := fun k hk => (mval_node h.g _ (gt_mem (by have := (mval_ok h.g).2.2.1; omega))).1
  have g2 := n1 _ (show (atE s.a.edges (j : Nat)).src.toNat < _ by omega)
  have g3 := n1 _ (show (atE s.a.edges (j : Nat)).dst.toNat < _ by omega)
  unfold mapE shE
  rw [Edge.mk.injEq]
  refine ⟨by rw [← ef.1, ← eg.1], ?_, ?_⟩
  · rw [← ef.2.1, ← eg.2.1]
    simp only [gt_at0]
    rw [c1]
    congr 1
    omega
  · rw [← ef.2.2, ← eg.2.2]
    simp only [gt_at0]
    rw [c2]
    congr 1
    omega
end
end Go.Av.Z

/- Pushouts. -/
set_option maxHeartbeats 4000000
namespace Go.Av.Z
open Go.Proofs

def poG (s : Span) : Graph := quoG (unG s.b s.c) (poN s) (poE s)
def poQ (s : Span) : Mor := quoM (poN s) (poE s)
def poL (s : Span) : Mor := mthen (un1 s.b s.c) (poQ s)
def poR (s : Span) : Mor := mthen (un2 s.b s.c) (poQ s)
/-- The error of a pushout. -/
def poErr (s : Span) : Int := if spn s ≠ 0 then spn s else uerr s.b s.c
def poV (s : Span) : List AV := if poErr s = 0 then [(poG s).av, (poL s).av, (poR s).av, .int .i64 0] else [Graph.zero.av, Mor.zero.av, Mor.zero.av, .int .i64 (poErr s)]
theorem poErr_ok {s : Span} (h : poErr s = 0) : PoOk s := by
  unfold poErr at h
  split at h
  · exact absurd h ‹_›
  · rename_i k
    obtain ⟨h1, h2⟩ := spn_ok (Classical.not_not.1 k)
    exact ⟨h1, h2, h⟩
theorem rng_mem {f n : Nat} {k : Int} (h : k ∈ rng f n) : f ≤ k ∧ k < f + n := by
  simp [rng] at h
  omega

theorem c150 (s : Span) (hs : spn s = 0) : Con P 150 [] [s.av] (.tuple (poV s)) [] := by
  have he : poErr s = uerr s.b s.c := by rw [poErr, if_neg (by simp [hs])]
  obtain ⟨hf, hg⟩ := spn_ok hs
  have lf := mval_len hf
  have lg := mval_len hg
  have l1 := un_len s.b s.c
  have nf := mval_node hf
  have ng := mval_node hg
  have ef := mval_edge hf
  have eg := mval_edge hg
  refine go Tryz.func150 (by rfl) rfl rfl rfl fun hl => ?_
  (conv => whnf); repeat (first | (refine w ?_; conv => whnf) | (refine ⟨fun h => absurd h Bool.false_ne_true, fun _ => ?_⟩; conv => whnf) | (refine ⟨fun _ => ?_, fun h => absurd h.symm Bool.false_ne_true⟩; conv => whnf))
  refine ⟨_, _, c172 s.b s.c, ?_⟩
  by_cases hu : uerr s.b s.c = 0
  · have hok : PoOk s := ⟨hf, hg, hu⟩
    have hp : (poN s).length = s.b.nodes.length + s.c.nodes.length := by rw [poN, gen_len, l1.1]
    have hr : (poE s).length = s.b.edges.length + s.c.edges.length := by rw [poE, gen_len, l1.2]
    have hqp := qn_len (poN s)
    have hqr := qn_len (poE s)
    have hb := uerr_ok hu
    rw [unR_ok hu, poV, if_pos (he.trans hu)]
    (conv => whnf); repeat (first | (refine w ?_; conv => whnf) | (refine ⟨fun h => absurd h Bool.false_ne_true, fun _ => ?_⟩; conv => whnf) | (refine ⟨fun _ => ?_, fun h => absurd h.symm Bool.false_ne_true⟩; conv => whnf))
    refine ⟨_, _, c174 s.f.nodes s.g.nodes (rng 0 s.b.nodes.length) (rng s.b.nodes.length s.c.nodes.length) (by omega) (by omega) (fun k hk => by rw [rng_len]; exact nf k hk) (fun k hk => by rw [rng_len]; exact ng k hk), ?_⟩
    (conv => whnf); repeat (first | (refine w ?_; conv => whnf) | (refine ⟨fun h => absurd h Bool.false_ne_true, fun _ => ?_⟩; conv => whnf) | (refine ⟨fun _ => ?_, fun h => absurd h.symm Bool.false_ne_true⟩; conv => whnf))
    refine ⟨_, _, c174 s.f.edges s.g.edges (rng 0 s.b.edges.length) (rng s.b.edges.length s.c.edges.length) (by omega) (by omega) (fun k hk => by rw [rng_len]; exact ef k hk) (fun k hk => by rw [rng_len]; exact eg k hk), ?_⟩
    (conv => whnf); repeat (first | (refine w ?_; conv => whnf) | (refine ⟨fun h => absurd h Bool.false_ne_true, fun _ => ?_⟩; conv => whnf) | (refine ⟨fun _ => ?_, fun h => absurd h.symm Bool.false_ne_true⟩; conv => whnf))
    refine ⟨_, _, c173 (unG s.b s.c) (pairsU s.b.nodes.length s.c.nodes.length s.f.nodes s.g.nodes) (pairsU s.b.edges.length s.c.edges.length s.f.edges s.g.edges) (gval_un hu) hok.nR hok.eR (by rw [pairsU_len (by omega)]; omega) (by rw [pairsU_len (by omega)]; omega), ?_⟩
    (conv => whnf); repeat (first | (refine w ?_; conv => whnf) | (refine ⟨fun h => absurd h Bool.false_ne_true, fun _ => ?_⟩; conv => whnf) | (refine ⟨fun _ => ?_, fun h => absurd h.symm Bool.false_ne_true⟩; conv => whnf))
    refine ⟨by kernel_rfl, ?_⟩
    (conv => whnf); repeat (first | (refine w ?_; conv => whnf) | (refine ⟨fun h => absurd h Bool.false_ne_true, fun _ => ?_⟩; conv => whnf) | (refine ⟨fun _ => ?_, fun h => absurd h.symm Bool.false_ne_true⟩; conv => whnf))
    refine ⟨_, _, c175 (un1 s.b s.c) (poQ s) (by show (rng _ _).length ≤ _; rw [rng_len]; omega) (by show (rng _ _).length ≤ _; rw [rng_len]; omega) (fun k hk => by have := rng_mem hk; show _ ∧ k < (qn (poN s)).length; omega) (fun k hk => by have := rng_mem hk; show _ ∧ k < (qn (poE s)).length; omega), ?_⟩
    (conv => whnf); repeat (first | (refine w ?_; conv => whnf) | (refine ⟨fun h => absurd h Bool.false_ne_true, fun _ => ?_⟩; conv => whnf) | (refine ⟨fun _ => ?_, fun h => absurd h.symm Bool.false_ne_true⟩; conv => whnf))
    refine ⟨_, _, c175 (un2 s.b s.c) (poQ s) (by show (rng _ _).length ≤ _; rw [rng_len]; omega) (by show (rng _ _).length ≤ _; rw [rng_len]; omega) (fun k hk => by have := rng_mem hk; show _ ∧ k < (qn (poN s)).length; omega) (fun k hk => by have := rng_mem hk; show _ ∧ k < (qn (poE s)).length; omega), ?_⟩
    (conv => whnf); repeat (first | (refine w ?_; conv => whnf) | (refine ⟨fun h => absurd h Bool.false_ne_true, fun _ => ?_⟩; conv => whnf) | (refine ⟨fun _ => ?_, fun h => absurd h.symm Bool.false_ne_true⟩; conv => whnf))
    refine ⟨by kernel_rfl, ?_⟩
    (conv => whnf); repeat (first | (refine w ?_; conv => whnf) | (refine ⟨fun h => absurd h Bool.false_ne_true, fun _ => ?_⟩; conv => whnf) | (refine ⟨fun _ => ?_, fun h => absurd h.symm Bool.false_ne_true⟩; conv => whnf))
    refine fin_frz TT ?_ rfl
    rfl
  · rw [unR_err rfl hu, poV, if_neg (by rw [he]; exact hu), he]
    (conv => whnf); repeat (first | (refine w ?_; conv => whnf) | (refine ⟨fun h => absurd h Bool.false_ne_true, fun _ => ?_⟩; conv => whnf) | (refine ⟨fun _ => ?_, fun h => absurd h.symm Bool.false_ne_true⟩; conv => whnf))
    refine ⟨fun _ => ?_, fun h => absurd h (by simpa using hu)⟩
    (conv => whnf); repeat (first | (refine w ?_; conv => whnf) | (refine ⟨fun h => absurd h Bool.false_ne_true, fun _ => ?_⟩; conv => whnf) | (refine ⟨fun _ => ?_, fun h => absurd h.symm Bool.false_ne_true⟩; conv => whnf))
    refine fin_frz TT ?_ rfl
    rfl
theorem c119 (s : Span) : Con P 119 [] [s.av] (.tuple (poV s)) [] := by
  refine go Tryz.func119 (by rfl) rfl rfl rfl fun hl => ?_
  (conv => whnf); repeat (first | (refine w ?_; conv => whnf) | (refine ⟨fun h => absurd h Bool.false_ne_true, fun _ => ?_⟩; conv => whnf) | (refine ⟨fun _ => ?_, fun h => absurd h.symm Bool.false_ne_true⟩; conv => whnf))
  refine ⟨_, _, c149 s, ?_⟩
  (conv => whnf); repeat (first | (refine w ?_; conv => whnf) | (refine ⟨fun h => absurd h Bool.false_ne_true, fun _ => ?_⟩; conv => whnf) | (refine ⟨fun _ => ?_, fun h => absurd h.symm Bool.false_ne_true⟩; conv => whnf))
  refine ⟨fun h => ?_, fun h => ?_⟩
  · have h : spn s ≠ 0 := by simpa using h
    have e : poErr s = spn s := by rw [poErr, if_pos h]
    rw [poV, if_neg (by rw [e]; exact h), e]
    (conv => whnf); repeat (first | (refine w ?_; conv => whnf) | (refine ⟨fun h => absurd h Bool.false_ne_true, fun _ => ?_⟩; conv => whnf) | (refine ⟨fun _ => ?_, fun h => absurd h.symm Bool.false_ne_true⟩; conv => whnf))
    refine fin_frz TT ?_ rfl
    rfl
  · have h : spn s = 0 := by simpa using h
    (conv => whnf); repeat (first | (refine w ?_; conv => whnf) | (refine ⟨fun h => absurd h Bool.false_ne_true, fun _ => ?_⟩; conv => whnf) | (refine ⟨fun _ => ?_, fun h => absurd h.symm Bool.false_ne_true⟩; conv => whnf))
    refine ⟨_, _, c150 s h, ?_⟩
    by_cases hp : poErr s = 0
    · rw [poV, if_pos hp]
      (conv => whnf); repeat (first | (refine w ?_; conv => whnf) | (refine ⟨fun h => absurd h Bool.false_ne_true, fun _ => ?_⟩; conv => whnf) | (refine ⟨fun _ => ?_, fun h => absurd h.symm Bool.false_ne_true⟩; conv => whnf))
      refine fin_frz TT ?_ rfl
      rfl
    · rw [poV, if_neg hp]
      (conv => whnf); repeat (first | (refine w ?_; conv => whnf) | (refine ⟨fun h => absurd h Bool.false_ne_true, fun _ => ?_⟩; conv => whnf) | (refine ⟨fun _ => ?_, fun h => absurd h.symm Bool.false_ne_true⟩; conv => whnf))
      refine fin_frz TT ?_ rfl
      rfl
theorem c92 (s : Span) (h : PoOk s) : Con P 92 [] [(unG s.b s.c).av, (mthen s.f (un1 s.b s.c)).av, (mthen s.g (un2 s.b s.c)).av] (.tuple [(poG s).av, (poQ s).av]) [] := by
  have lf := mval_len h.f
  have lg := mval_len h.g
  have l1 := un_len s.b s.c
  have hb := uerr_ok h.u
  have k1 := c126 (unG s.b s.c).nodes.length (pairsU s.b.nodes.length s.c.nodes.length s.f.nodes s.g.nodes) (by omega) h.nR (by rw [pairsU_len (by omega)]; omega)
  have k2 := c126 (unG s.b s.c).edges.length (pairsU s.b.edges.length s.c.edges.length s.f.edges s.g.edges) (by omega) h.eR (by rw [pairsU_len (by omega)]; omega)
  have k3 := c128 (unG s.b s.c) (poN s) (poE s) (gval_un h.u) (gen_ptn h.nR) (gen_ptn h.eR) (gen_len _ _) (gen_len _ _) h.nodes h.edges
  refine go Tryz.func92 (by rfl) rfl rfl rfl fun hl => ?_
  (conv => whnf); repeat (first | (refine w ?_; conv => whnf) | (refine ⟨fun h => absurd h Bool.false_ne_true, fun _ => ?_⟩; conv => whnf) | (refine ⟨fun _ => ?_, fun h => absurd h.symm Bool.false_ne_true⟩; conv => whnf))
  refine ⟨_, _, c127 (mthen s.f (un1 s.b s.c)).nodes (mthen s.g (un2 s.b s.c)).nodes (by simp [mthen]; omega) (by simp [mthen]; omega), ?_⟩
  (conv => whnf); repeat (first | (refine w ?_; conv => whnf) | (refine ⟨fun h => absurd h Bool.false_ne_true, fun _ => ?_⟩; conv => whnf) | (refine ⟨fun _ => ?_, fun h => absurd h.symm Bool.false_ne_true⟩; conv => whnf))
  rw [nums_len]
  refine ⟨_, _, k1, ?_⟩
  (conv => whnf); repeat (first | (refine w ?_; conv => whnf) | (refine ⟨fun h => absurd h Bool.false_ne_true, fun _ => ?_⟩; conv => whnf) | (refine ⟨fun _ => ?_, fun h => absurd h.symm Bool.false_ne_true⟩; conv => whnf))
  refine ⟨by kernel_rfl, ?_⟩
  (conv => whnf); repeat (first | (refine w ?_; conv => whnf) | (refine ⟨fun h => absurd h Bool.false_ne_true, fun _ => ?_⟩; conv => whnf) | (refine ⟨fun _ => ?_, fun h => absurd h.symm Bool.false_ne_true⟩; conv => whnf))
  refine ⟨_, _, c127 (mthen s.f (un1 s.b s.c)).edges (mthen s.g (un2 s.b s.c)).edges (by simp [mthen]; omega) (by simp [mthen]; omega), ?_⟩
  (conv => whnf); repeat (first | (refine w ?_; conv => whnf) | (refine ⟨fun h => absurd h Bool.false_ne_true, fun _ => ?_⟩; conv => whnf) | (refine ⟨fun _ => ?_, fun h => absurd h.symm Bool.false_ne_true⟩; conv => whnf))
  rw [edgs_len]
  refine ⟨_, _, k2, ?_⟩
  (conv => whnf); repeat (first | (refine w ?_; conv => whnf) | (refine ⟨fun h => absurd h Bool.false_ne_true, fun _ => ?_⟩; conv => whnf) | (refine ⟨fun _ => ?_, fun h => absurd h.symm Bool.false_ne_true⟩; conv => whnf))
  refine ⟨by kernel_rfl, ?_⟩
  (conv => whnf); repeat (first | (refine w ?_; conv => whnf) | (refine ⟨fun h => absurd h Bool.false_ne_true, fun _ => ?_⟩; conv => whnf) | (refine ⟨fun _ => ?_, fun h => absurd h.symm Bool.false_ne_true⟩; conv => whnf))
  refine ⟨_, _, k3, ?_⟩
  (conv => whnf); repeat (first | (refine w ?_; conv => whnf) | (refine ⟨fun h => absurd h Bool.false_ne_true, fun _ => ?_⟩; conv => whnf) | (refine ⟨fun _ => ?_, fun h => absurd h.symm Bool.false_ne_true⟩; conv => whnf))
  refine fin_frz TT ?_ rfl
  rfl
theorem c53 (s : Span) : Con P 53 [] [s.av] (.tuple (poV s)) [] := by
  refine go Tryz.func53 (by rfl) rfl rfl rfl fun hl => ?_
  (conv => whnf); repeat (first | (refine w ?_; conv => whnf) | (refine ⟨fun h => absurd h Bool.false_ne_true, fun _ => ?_⟩; conv => whnf) | (refine ⟨fun _ => ?_, fun h => absurd h.symm Bool.false_ne_true⟩; conv => whnf))
  refine ⟨_, _, c90 s, ?_⟩
  (conv => whnf); repeat (first | (refine w ?_; conv => whnf) | (refine ⟨fun h => absurd h Bool.false_ne_true, fun _ => ?_⟩; conv => whnf) | (refine ⟨fun _ => ?_, fun h => absurd h.symm Bool.false_ne_true⟩; conv => whnf))
  refine ⟨fun h => ?_, fun h => ?_⟩
  · have h : spn s ≠ 0 := by simpa using h
    have e : poErr s = spn s := by rw [poErr, if_pos h]
    rw [poV, if_neg (by rw [e]; exact h), e]
    (conv => whnf); repeat (first | (refine w ?_; conv => whnf) | (refine ⟨fun h => absurd h Bool.false_ne_true, fun _ => ?_⟩; conv => whnf) | (refine ⟨fun _ => ?_, fun h => absurd h.symm Bool.false_ne_true⟩; conv => whnf))
    refine fin_frz TT ?_ rfl
    rfl
  have h : spn s = 0 := by simpa using h
  have e : poErr s = uerr s.b s.c := by rw [poErr, if_neg (by simp [h])]
  obtain ⟨hf, hg⟩ := spn_ok h
  (conv => whnf); repeat (first | (refine w ?_; conv => whnf) | (refine ⟨fun h => absurd h Bool.false_ne_true, fun _ => ?_⟩; conv => whnf) | (refine ⟨fun _ => ?_, fun h => absurd h.symm Bool.false_ne_true⟩; conv => whnf))
  refine ⟨_, _, c91 s.b s.c, ?_⟩
  by_cases hu : uerr s.b s.c = 0
  · have hok : PoOk s := ⟨hf, hg, hu⟩
    have lf := mval_len hf
    have lg := mval_len hg
    have l1 := un_len s.b s.c
    have nf := mval_node hf
    have ng := mval_node hg
    have ef := mval_edge hf
    have eg := mval_edge hg
    have hp : (poN s).length = s.b.nodes.length + s.c.nodes.length := by rw [poN, gen_len, l1.1]
    have hr : (poE s).length = s.b.edges.length + s.c.edges.length := by rw [poE, gen_len, l1.2]
    have hqp := qn_len (poN s)
    have hqr := qn_len (poE s)
    have hb := uerr_ok hu
    rw [unR_ok hu, poV, if_pos (e.trans hu)]
    (conv => whnf); repeat (first | (refine w ?_; conv => whnf) | (refine ⟨fun h => absurd h Bool.false_ne_true, fun _ => ?_⟩; conv => whnf) | (refine ⟨fun _ => ?_, fun h => absurd h.symm Bool.false_ne_true⟩; conv => whnf))
    refine ⟨_, _, c50 s.f (un1 s.b s.c) (by omega) (by omega) (fun k hk => by show _ ∧ k < (rng _ _).length; rw [rng_len]; exact nf k hk) (fun k hk => by show _ ∧ k < (rng _ _).length; rw [rng_len]; exact ef k hk), ?_⟩
    (conv => whnf); repeat (first | (refine w ?_; conv => whnf) | (refine ⟨fun h => absurd h Bool.false_ne_true, fun _ => ?_⟩; conv => whnf) | (refine ⟨fun _ => ?_, fun h => absurd h.symm Bool.false_ne_true⟩; conv => whnf))
    refine ⟨_, _, c50 s.g (un2 s.b s.c) (by omega) (by omega) (fun k hk => by show _ ∧ k < (rng _ _).length; rw [rng_len]; exact ng k hk) (fun k hk => by show _ ∧ k < (rng _ _).length; rw [rng_len]; exact eg k hk), ?_⟩
    (conv => whnf); repeat (first | (refine w ?_; conv => whnf) | (refine ⟨fun h => absurd h Bool.false_ne_true, fun _ => ?_⟩; conv => whnf) | (refine ⟨fun _ => ?_, fun h => absurd h.symm Bool.false_ne_true⟩; conv => whnf))
    refine ⟨_, _, c92 s hok, ?_⟩
    (conv => whnf); repeat (first | (refine w ?_; conv => whnf) | (refine ⟨fun h => absurd h Bool.false_ne_true, fun _ => ?_⟩; conv => whnf) | (refine ⟨fun _ => ?_, fun h => absurd h.symm Bool.false_ne_true⟩; conv => whnf))
    refine ⟨by kernel_rfl, ?_⟩
    (conv => whnf); repeat (first | (refine w ?_; conv => whnf) | (refine ⟨fun h => absurd h Bool.false_ne_true, fun _ => ?_⟩; conv => whnf) | (refine ⟨fun _ => ?_, fun h => absurd h.symm Bool.false_ne_true⟩; conv => whnf))
    refine ⟨_, _, c50 (un1 s.b s.c) (poQ s) (by show (rng _ _).length ≤ _; rw [rng_len]; omega) (by show (rng _ _).length ≤ _; rw [rng_len]; omega) (fun k hk => by have := rng_mem hk; show _ ∧ k < (qn (poN s)).length; omega) (fun k hk => by have := rng_mem hk; show _ ∧ k < (qn (poE s)).length; omega), ?_⟩
    (conv => whnf); repeat (first | (refine w ?_; conv => whnf) | (refine ⟨fun h => absurd h Bool.false_ne_true, fun _ => ?_⟩; conv => whnf) | (refine ⟨fun _ => ?_, fun h => absurd h.symm Bool.false_ne_true⟩; conv => whnf))
    refine ⟨_, _, c50 (un2 s.b s.c) (poQ s) (by show (rng _ _).length ≤ _; rw [rng_len]; omega) (by show (rng _ _).length ≤ _; rw [rng_len]; omega) (fun k hk => by have := rng_mem hk; show _ ∧ k < (qn (poN s)).length; omega) (fun k hk => by have := rng_mem hk; show _ ∧ k < (qn (poE s)).length; omega), ?_⟩
    (conv => whnf); repeat (first | (refine w ?_; conv => whnf) | (refine ⟨fun h => absurd h Bool.false_ne_true, fun _ => ?_⟩; conv => whnf) | (refine ⟨fun _ => ?_, fun h => absurd h.symm Bool.false_ne_true⟩; conv => whnf))
    refine ⟨by kernel_rfl, ?_⟩
    (conv => whnf); repeat (first | (refine w ?_; conv => whnf) | (refine ⟨fun h => absurd h Bool.false_ne_true, fun _ => ?_⟩; conv => whnf) | (refine ⟨fun _ => ?_, fun h => absurd h.symm Bool.false_ne_true⟩; conv => whnf))
    refine fin_frz TT ?_ rfl
    rfl
  · rw [unR_err rfl hu, poV, if_neg (by rw [e]; exact hu), e]
    (conv => whnf); repeat (first | (refine w ?_; conv => whnf) | (refine ⟨fun h => absurd h Bool.false_ne_true, fun _ => ?_⟩; conv => whnf) | (refine ⟨fun _ => ?_, fun h => absurd h.symm Bool.false_ne_true⟩; conv => whnf))
    refine ⟨fun _ => ?_, fun h => absurd h (by simpa using hu)⟩
    (conv => whnf); repeat (first | (refine w ?_; conv => whnf) | (refine ⟨fun h => absurd h Bool.false_ne_true, fun _ => ?_⟩; conv => whnf) | (refine ⟨fun _ => ?_, fun h => absurd h.symm Bool.false_ne_true⟩; conv => whnf))
    refine fin_frz TT ?_ rfl
    rfl
end Go.Av.Z

/- The reference of the transport: numbers in order; ways back. -/
set_option maxHeartbeats 4000000
namespace Go.Av.Z
open Go.Proofs

/-- The numbers of a list that are less than n, in order. -/
def asc (l : List Int) : Nat → List Int
  | 0 => []
  | n + 1 => asc l n ++ l.filter fun x => x == (n : Int)
theorem asc_perm (l : List Int) (h0 : ∀ x ∈ l, 0 ≤ x) : ∀ n : Nat, (asc l n).Perm (l.filter fun x => decide (x < (n : Int)))
  | 0 => by
    rw [asc, List.filter_eq_nil_iff.2 fun x hx => by have := h0 x hx; simp; omega]
  | n + 1 => by
    rw [asc]
    have h1 := List.filter_append_perm (fun x : Int => decide (x < (n : Int))) (l.filter fun x => decide (x < ((n + 1 : Nat) : Int)))
    rw [List.filter_filter, List.filter_filter] at h1
    refine List.Perm.trans (List.Perm.append ((asc_perm l h0 n).trans (List.Perm.of_eq (List.filter_congr fun x _ => ?_))) (List.Perm.of_eq (List.filter_congr fun x _ => ?_))) h1
    · rw [Bool.eq_iff_iff]; simp; omega
    · rw [Bool.eq_iff_iff]; simp; omega
theorem asc_mem {l : List Int} {n : Nat} {x : Int} (h : x ∈ asc l n) : x < n := by
  induction n with
  | zero => cases h
  | succ n ih =>
    rw [asc] at h
    rcases List.mem_append.1 h with k | k
    · have := ih k; omega
    · have := (List.mem_filter.1 k).2; simp at this; omega
theorem asc_sorted (l : List Int) : ∀ n, (asc l n).Pairwise fun x y => x ≤ y
  | 0 => List.Pairwise.nil
  | n + 1 => by
    rw [asc, List.pairwise_append]
    refine ⟨asc_sorted l n, ?_, ?_⟩
    · rw [List.pairwise_iff_getElem]
      intro i j hi hj _
      have h1 := (List.mem_filter.1 (List.getElem_mem hi)).2
      have h2 := (List.mem_filter.1 (List.getElem_mem hj)).2
      simp at h1 h2; omega
    · intro x hx y hy
      have h1 := asc_mem hx
      have h2 := (List.mem_filter.1 hy).2
      simp at h2; omega
theorem asc_srt {l : List Int} (h0 : ∀ x ∈ l, 0 ≤ x) {n : Nat} (h : l.length ≤ (asc l n).length) : asc l n = srt l := by
  have hp := asc_perm l h0 n
  have hl : (l.filter fun x => decide (x < (n : Int))) = l := (List.filter_sublist (l := l)).eq_of_length (by have := hp.length_eq; have := List.length_filter_le (fun x => decide (x < (n : Int))) l; omega)
  rw [hl] at hp
  exact List.Perm.eq_of_pairwise (le := fun x y : Int => x ≤ y) (fun a b _ _ h1 h2 => by omega) (asc_sorted l n) (srt_sorted l) (hp.trans (srt_perm l).symm)
theorem filter_take {l : List Int} {i : Nat} {x : Int} (p : Int → Bool) (h : l[i]? = some x) : (l.take (i + 1)).filter p = (l.take i).filter p ++ (if p x then [x] else []) := by
  rw [List.take_add_one, h, List.filter_append]
  cases hp : p x <;> simp [hp]
theorem asc_le (l : List Int) (h0 : ∀ x ∈ l, 0 ≤ x) (n : Nat) : (asc l n).length ≤ l.length := by
  rw [(asc_perm l h0 n).length_eq]; exact List.length_filter_le _ _
theorem c47 (l : List Int) (h0 : ∀ x ∈ l, 0 ≤ x ∧ x < 1000) (hn : l.length ≤ 1000) : Con P 47 [] [.slice 1 (nums l)] (.slice 1 (nums (srt l))) [] := by
  have h00 : ∀ x ∈ l, 0 ≤ x := fun x hx => (h0 x hx).1
  refine go Tryz.func47 (by rfl) rfl rfl rfl fun hl => ?_
  (conv => whnf); repeat (first | (refine w ?_; conv => whnf) | (refine ⟨fun h => absurd h Bool.false_ne_true, fun _ => ?_⟩; conv => whnf) | (refine ⟨fun _ => ?_, fun h => absurd h.symm Bool.false_ne_true⟩; conv => whnf))
  refine loop (fun n : Nat => mkSt [(4, .int .i64 n), (0, .slice 1 (nums l)), (3, .ref 0)] [.row 3 1 (nums (asc l n))]) (fun n => n ≤ 1000) (fun n => 1000 - n) 0 (Nat.zero_le _)
    (le_of [1] rfl rfl rfl ⟨rfl, rfl, rfl, trivial⟩ ⟨rfl, trivial⟩) ?_
  intro n hni
  have hal := asc_le l h00 n
  (conv => whnf); repeat (first | (refine w ?_; conv => whnf) | (refine ⟨fun h => absurd h Bool.false_ne_true, fun _ => ?_⟩; conv => whnf) | (refine ⟨fun _ => ?_, fun h => absurd h.symm Bool.false_ne_true⟩; conv => whnf))
  rw [nums_len, nums_len]
  refine ⟨fun hlt => ?_, fun hge => ?_⟩
  · have hlt := of_lt hlt
    have hnn : n < 1000 := by
      rcases Nat.lt_or_ge n 1000 with h | h
      · exact h
      · have := (asc_perm l h00 n).length_eq
        rw [List.filter_eq_self.2 fun x hx => by have := h0 x hx; simp; omega] at this
        omega
    (conv => whnf); repeat (first | (refine w ?_; conv => whnf) | (refine ⟨fun h => absurd h Bool.false_ne_true, fun _ => ?_⟩; conv => whnf) | (refine ⟨fun _ => ?_, fun h => absurd h.symm Bool.false_ne_true⟩; conv => whnf))
    refine loop (fun i : Nat => mkSt [(5, .int .i64 i), (4, .int .i64 n), (0, .slice 1 (nums l)), (3, .ref 0)] [.row 3 1 (nums (asc l n ++ (l.take i).filter fun x => x == (n : Int)))]) (fun i => i ≤ l.length) (fun i => l.length - i) 0 (Nat.zero_le _)
      (le_of [0] rfl rfl rfl ⟨rfl, rfl, rfl, rfl, trivial⟩ ⟨by simp; rfl, trivial⟩) ?_
    intro i hi
    (conv => whnf); repeat (first | (refine w ?_; conv => whnf) | (refine ⟨fun h => absurd h Bool.false_ne_true, fun _ => ?_⟩; conv => whnf) | (refine ⟨fun _ => ?_, fun h => absurd h.symm Bool.false_ne_true⟩; conv => whnf))
    rw [nums_len]
    refine ⟨fun hlt2 => ?_, fun hge2 => ?_⟩
    · have hlt2 := of_lt hlt2
      have hx : l[i]? = some l[i] := List.getElem?_eq_getElem hlt2
      generalize l[i] = x at hx
      have hf := filter_take (fun x => x == (n : Int)) hx
      have hfl : ((l.take i).filter fun x => x == (n : Int)).length ≤ 1000 := Nat.le_trans (List.length_filter_le _ _) (by simp; omega)
      (conv => whnf); repeat (first | (refine w ?_; conv => whnf) | (refine ⟨fun h => absurd h Bool.false_ne_true, fun _ => ?_⟩; conv => whnf) | (refine ⟨fun _ => ?_, fun h => absurd h.symm Bool.false_ne_true⟩; conv => whnf))
      refine ⟨by omega, _, nums_at hx, ?_⟩
      (conv => whnf); repeat (first | (refine w ?_; conv => whnf) | (refine ⟨fun h => absurd h Bool.false_ne_true, fun _ => ?_⟩; conv => whnf) | (refine ⟨fun _ => ?_, fun h => absurd h.symm Bool.false_ne_true⟩; conv => whnf))
      refine ⟨fun k => ?_, fun k => ?_⟩
      · have hk : x = n := by simpa using k
        rw [if_pos k] at hf
        (conv => whnf); repeat (first | (refine w ?_; conv => whnf) | (refine ⟨fun h => absurd h Bool.false_ne_true, fun _ => ?_⟩; conv => whnf) | (refine ⟨fun _ => ?_, fun h => absurd h.symm Bool.false_ne_true⟩; conv => whnf))
        refine ⟨by rw [nums_len, List.length_append]; show (_ + 1) * 8 ≤ _; omega, ?_⟩
        (conv => whnf); repeat (first | (refine w ?_; conv => whnf) | (refine ⟨fun h => absurd h Bool.false_ne_true, fun _ => ?_⟩; conv => whnf) | (refine ⟨fun _ => ?_, fun h => absurd h.symm Bool.false_ne_true⟩; conv => whnf))
        exact ⟨i + 1, hlt2, by show l.length - (i + 1) < l.length - i; omega, le_of [2] rfl rfl rfl ⟨step_num hlt2 (by omega), rfl, rfl, rfl, trivial⟩ ⟨by rw [hf, ← List.append_assoc, nums_app, hk]; rfl, trivial⟩⟩
      · rw [if_neg (by simp [k])] at hf
        (conv => whnf); repeat (first | (refine w ?_; conv => whnf) | (refine ⟨fun h => absurd h Bool.false_ne_true, fun _ => ?_⟩; conv => whnf) | (refine ⟨fun _ => ?_, fun h => absurd h.symm Bool.false_ne_true⟩; conv => whnf))
        exact ⟨i + 1, hlt2, by show l.length - (i + 1) < l.length - i; omega, le_of [0] rfl rfl rfl ⟨step_num hlt2 (by omega), rfl, rfl, rfl, trivial⟩ ⟨by rw [hf, List.append_nil]; rfl, trivial⟩⟩
    · have hge2 := of_ge hge2
      rw [take_of_all hge2]
      (conv => whnf); repeat (first | (refine w ?_; conv => whnf) | (refine ⟨fun h => absurd h Bool.false_ne_true, fun _ => ?_⟩; conv => whnf) | (refine ⟨fun _ => ?_, fun h => absurd h.symm Bool.false_ne_true⟩; conv => whnf))
      exact ⟨n + 1, hnn, by show 1000 - (n + 1) < 1000 - n; omega, le_of [0] rfl rfl rfl ⟨step_num hnn (by omega), rfl, rfl, trivial⟩ ⟨rfl, trivial⟩⟩
  · have hge := of_ge hge
    rw [asc_srt h00 (by omega)]
    (conv => whnf); repeat (first | (refine w ?_; conv => whnf) | (refine ⟨fun h => absurd h Bool.false_ne_true, fun _ => ?_⟩; conv => whnf) | (refine ⟨fun _ => ?_, fun h => absurd h.symm Bool.false_ne_true⟩; conv => whnf))
    refine fin_frz TT ?_ rfl
    rfl
end Go.Av.Z

/- The reference of the transport: ways back, ways on. -/
set_option maxHeartbeats 4000000
namespace Go.Av.Z
open Go.Proofs

theorem plc_at {l : List Int} {j : Nat} {x : Int} (hd : l.Nodup) (h : l[j]? = some x) : plc l x = j := by
  rw [plc]
  refine idx_some (fun i y hi hy => ?_) h (by simp)
  obtain ⟨h1, e1⟩ := List.getElem?_eq_some_iff.1 h
  obtain ⟨h2, e2⟩ := List.getElem?_eq_some_iff.1 hy
  have := List.pairwise_iff_getElem.1 hd i j h2 h1 hi
  rw [e1, e2] at this
  simpa using this
theorem plc_mem {l : List Int} {x : Int} (hd : l.Nodup) (h : x ∈ l) : 0 ≤ plc l x ∧ plc l x < l.length ∧ gt l (plc l x).toNat = x := by
  obtain ⟨j, hj⟩ := List.mem_iff_getElem?.1 h
  have hl := (List.getElem?_eq_some_iff.1 hj).1
  rw [plc_at hd hj]
  refine ⟨by omega, by omega, ?_⟩
  rw [Int.toNat_natCast]
  have := gt_some hl
  rw [hj] at this
  exact (Option.some.inj this).symm
theorem plc_none {l : List Int} {x : Int} (h : x ∉ l) : plc l x = -1 := by
  rw [plc]
  exact idx_none fun y hy => by
    simp
    intro e; subst e; exact h hy
/-- What an element of places is led on to. -/
def ledTo (src to : List Int) (x : Int) : Int := at0 to (plc src x)
theorem c94 (places src to : List Int) (hd : src.Nodup) (hp : ∀ x ∈ places, x ∈ src) (hl : src.length = to.length) (hn : places.length ≤ 1000) (hn2 : src.length ≤ 1000) : Con P 94 [] [.slice 1 (nums places), .slice 1 (nums src), .slice 1 (nums to)] (.slice 1 (nums (places.map (ledTo src to)))) [] := by
  refine go Tryz.func94 (by rfl) rfl rfl rfl fun hl => ?_
  (conv => whnf); repeat (first | (refine w ?_; conv => whnf) | (refine ⟨fun h => absurd h Bool.false_ne_true, fun _ => ?_⟩; conv => whnf) | (refine ⟨fun _ => ?_, fun h => absurd h.symm Bool.false_ne_true⟩; conv => whnf))
  refine loop (fun i : Nat => mkSt [(8, .int .i64 i), (0, .slice 1 (nums places)), (1, .slice 1 (nums src)), (2, .slice 1 (nums to)), (7, .ref 0)] [.row 3 1 (nums ((places.take i).map (ledTo src to)))]) (fun i => i ≤ places.length) (fun i => places.length - i) 0 (Nat.zero_le _)
    (le_of [1] rfl rfl rfl ⟨rfl, rfl, rfl, rfl, rfl, trivial⟩ ⟨rfl, trivial⟩) ?_
  intro i hi
  (conv => whnf); repeat (first | (refine w ?_; conv => whnf) | (refine ⟨fun h => absurd h Bool.false_ne_true, fun _ => ?_⟩; conv => whnf) | (refine ⟨fun _ => ?_, fun h => absurd h.symm Bool.false_ne_true⟩; conv => whnf))
  rw [nums_len]
  refine ⟨fun hlt => ?_, fun hge => ?_⟩
  · have hlt := of_lt hlt
    have hx : places[i]? = some places[i] := List.getElem?_eq_getElem hlt
    generalize places[i] = x at hx
    have hpl := plc_mem hd (hp x (List.mem_of_getElem? hx))
    obtain ⟨m, hm⟩ := Int.eq_ofNat_of_zero_le hpl.1
    have hmt := take_map (ledTo src to) hx
    have hled : ledTo src to x = gt to m := by unfold ledTo; rw [hm, gt_at0, Int.toNat_natCast]
    (conv => whnf); repeat (first | (refine w ?_; conv => whnf) | (refine ⟨fun h => absurd h Bool.false_ne_true, fun _ => ?_⟩; conv => whnf) | (refine ⟨fun _ => ?_, fun h => absurd h.symm Bool.false_ne_true⟩; conv => whnf))
    refine loop (fun k : Nat => mkSt [(9, .int .i64 k), (8, .int .i64 i), (0, .slice 1 (nums places)), (1, .slice 1 (nums src)), (2, .slice 1 (nums to)), (7, .ref 0)] [.row 3 1 (nums ((places.take i).map (ledTo src to) ++ if m < k then [ledTo src to x] else []))]) (fun k => k ≤ src.length) (fun k => src.length - k) 0 (Nat.zero_le _)
      (le_of [0] rfl rfl rfl ⟨rfl, rfl, rfl, rfl, rfl, rfl, trivial⟩ ⟨by rw [if_neg (by omega), List.append_nil]; rfl, trivial⟩) ?_
    intro k hk
    (conv => whnf); repeat (first | (refine w ?_; conv => whnf) | (refine ⟨fun h => absurd h Bool.false_ne_true, fun _ => ?_⟩; conv => whnf) | (refine ⟨fun _ => ?_, fun h => absurd h.symm Bool.false_ne_true⟩; conv => whnf))
    rw [nums_len]
    refine ⟨fun hlt2 => ?_, fun hge2 => ?_⟩
    · have hlt2 := of_lt hlt2
      have hy : src[k]? = some src[k] := List.getElem?_eq_getElem hlt2
      generalize src[k] = y at hy
      have hky := plc_at hd hy
      (conv => whnf); repeat (first | (refine w ?_; conv => whnf) | (refine ⟨fun h => absurd h Bool.false_ne_true, fun _ => ?_⟩; conv => whnf) | (refine ⟨fun _ => ?_, fun h => absurd h.symm Bool.false_ne_true⟩; conv => whnf))
      refine ⟨by omega, _, nums_at hy, ?_⟩
      (conv => whnf); repeat (first | (refine w ?_; conv => whnf) | (refine ⟨fun h => absurd h Bool.false_ne_true, fun _ => ?_⟩; conv => whnf) | (refine ⟨fun _ => ?_, fun h => absurd h.symm Bool.false_ne_true⟩; conv => whnf))
      refine ⟨by omega, _, nums_at hx, ?_⟩
      (conv => whnf); repeat (first | (refine w ?_; conv => whnf) | (refine ⟨fun h => absurd h Bool.false_ne_true, fun _ => ?_⟩; conv => whnf) | (refine ⟨fun _ => ?_, fun h => absurd h.symm Bool.false_ne_true⟩; conv => whnf))
      refine ⟨by kernel_rfl, ?_⟩
      (conv => whnf); repeat (first | (refine w ?_; conv => whnf) | (refine ⟨fun h => absurd h Bool.false_ne_true, fun _ => ?_⟩; conv => whnf) | (refine ⟨fun _ => ?_, fun h => absurd h.symm Bool.false_ne_true⟩; conv => whnf))
      refine ⟨fun h => ?_, fun h => ?_⟩
      · have h : y = x := by simpa using h
        rw [h] at hky
        have : k = m := by omega
        subst this
        (conv => whnf); repeat (first | (refine w ?_; conv => whnf) | (refine ⟨fun h => absurd h Bool.false_ne_true, fun _ => ?_⟩; conv => whnf) | (refine ⟨fun _ => ?_, fun h => absurd h.symm Bool.false_ne_true⟩; conv => whnf))
        refine ⟨by omega, _, nums_at (gt_some (by omega)), ?_⟩
        (conv => whnf); repeat (first | (refine w ?_; conv => whnf) | (refine ⟨fun h => absurd h Bool.false_ne_true, fun _ => ?_⟩; conv => whnf) | (refine ⟨fun _ => ?_, fun h => absurd h.symm Bool.false_ne_true⟩; conv => whnf))
        refine ⟨by rw [nums_len, if_neg (by omega), List.append_nil, List.length_map, List.length_take]; show (_ + 1) * 8 ≤ _; omega, ?_⟩
        (conv => whnf); repeat (first | (refine w ?_; conv => whnf) | (refine ⟨fun h => absurd h Bool.false_ne_true, fun _ => ?_⟩; conv => whnf) | (refine ⟨fun _ => ?_, fun h => absurd h.symm Bool.false_ne_true⟩; conv => whnf))
        exact ⟨k + 1, hlt2, by show src.length - (k + 1) < src.length - k; omega, le_of [2] rfl rfl rfl ⟨step_num hlt2 (by omega), rfl, rfl, rfl, rfl, rfl, trivial⟩ ⟨by rw [if_neg (by omega), List.append_nil, if_pos (by omega), nums_app, hled]; rfl, trivial⟩⟩
      · have h : y ≠ x := by simpa using h
        have hne : k ≠ m := fun e => h (by
          have h1 := gt_some hlt2
          rw [hy] at h1
          have := Option.some.inj h1
          rw [this, e]
          have h2 := hpl.2.2
          rwa [hm, Int.toNat_natCast] at h2)
        (conv => whnf); repeat (first | (refine w ?_; conv => whnf) | (refine ⟨fun h => absurd h Bool.false_ne_true, fun _ => ?_⟩; conv => whnf) | (refine ⟨fun _ => ?_, fun h => absurd h.symm Bool.false_ne_true⟩; conv => whnf))
        exact ⟨k + 1, hlt2, by show src.length - (k + 1) < src.length - k; omega, le_of [0] rfl rfl rfl ⟨step_num hlt2 (by omega), rfl, rfl, rfl, rfl, rfl, trivial⟩ ⟨by
          by_cases hmk : m < k
          · rw [if_pos hmk, if_pos (by omega)]; rfl
          · rw [if_neg hmk, if_neg (by omega)]; rfl, trivial⟩⟩
    · have hge2 := of_ge hge2
      rw [if_pos (by omega)]
      (conv => whnf); repeat (first | (refine w ?_; conv => whnf) | (refine ⟨fun h => absurd h Bool.false_ne_true, fun _ => ?_⟩; conv => whnf) | (refine ⟨fun _ => ?_, fun h => absurd h.symm Bool.false_ne_true⟩; conv => whnf))
      exact ⟨i + 1, hlt, by show places.length - (i + 1) < places.length - i; omega, le_of [0] rfl rfl rfl ⟨step_num hlt (by omega), rfl, rfl, rfl, rfl, trivial⟩ ⟨by rw [hmt]; rfl, trivial⟩⟩
  · have hge := of_ge hge
    rw [take_of_all hge]
    (conv => whnf); repeat (first | (refine w ?_; conv => whnf) | (refine ⟨fun h => absurd h Bool.false_ne_true, fun _ => ?_⟩; conv => whnf) | (refine ⟨fun _ => ?_, fun h => absurd h.symm Bool.false_ne_true⟩; conv => whnf))
    refine fin_frz TT ?_ rfl
    rfl
/-- The way back: for each number below n its place. -/
def back (l : List Int) (n : Nat) : List Int := (List.range n).map fun (v : Nat) => plc l v
theorem back_len (l : List Int) (n : Nat) : (back l n).length = n := by simp [back]
theorem back_succ (l : List Int) (n : Nat) : back l (n + 1) = back l n ++ [plc l n] := by simp [back, List.range_succ]
theorem back_at {l : List Int} {n : Nat} {k : Int} (h0 : 0 ≤ k) (h1 : k < n) : at0 (back l n) k = plc l k := by
  obtain ⟨m, rfl⟩ := Int.eq_ofNat_of_zero_le h0
  have : m < n := by omega
  simp [back, at0, List.getD_eq_getElem?_getD, this]
theorem c52 (l : List Int) (n : Nat) (hd : l.Nodup) (hn : n ≤ 1000) (hn2 : l.length ≤ 1000) : Con P 52 [] [.slice 1 (nums l), .int .i64 n] (.slice 1 (nums (back l n))) [] := by
  refine go Tryz.func52 (by rfl) rfl rfl rfl fun hl => ?_
  (conv => whnf); repeat (first | (refine w ?_; conv => whnf) | (refine ⟨fun h => absurd h Bool.false_ne_true, fun _ => ?_⟩; conv => whnf) | (refine ⟨fun _ => ?_, fun h => absurd h.symm Bool.false_ne_true⟩; conv => whnf))
  refine loop (fun v : Nat => mkSt [(6, .int .i64 v), (0, .slice 1 (nums l)), (1, .int .i64 n), (5, .ref 0)] [.row 3 1 (nums (back l v))]) (fun v => v ≤ n) (fun v => n - v) 0 (Nat.zero_le _)
    (le_of [1] rfl rfl rfl ⟨rfl, rfl, rfl, rfl, trivial⟩ ⟨rfl, trivial⟩) ?_
  intro v hv
  have hbl := back_len l v
  (conv => whnf); repeat (first | (refine w ?_; conv => whnf) | (refine ⟨fun h => absurd h Bool.false_ne_true, fun _ => ?_⟩; conv => whnf) | (refine ⟨fun _ => ?_, fun h => absurd h.symm Bool.false_ne_true⟩; conv => whnf))
  refine ⟨fun hlt => ?_, fun hge => ?_⟩
  · have hlt := of_lt hlt
    (conv => whnf); repeat (first | (refine w ?_; conv => whnf) | (refine ⟨fun h => absurd h Bool.false_ne_true, fun _ => ?_⟩; conv => whnf) | (refine ⟨fun _ => ?_, fun h => absurd h.symm Bool.false_ne_true⟩; conv => whnf))
    refine ⟨by rw [nums_len, hbl]; show (_ + 1) * 8 ≤ _; omega, ?_⟩
    (conv => whnf); repeat (first | (refine w ?_; conv => whnf) | (refine ⟨fun h => absurd h Bool.false_ne_true, fun _ => ?_⟩; conv => whnf) | (refine ⟨fun _ => ?_, fun h => absurd h.symm Bool.false_ne_true⟩; conv => whnf))
    refine loop (fun k : Nat => mkSt [(7, .int .i64 k), (6, .int .i64 v), (0, .slice 1 (nums l)), (1, .int .i64 n), (5, .ref 0)] [.row 3 1 (nums (back l v ++ [if plc l v < k then plc l v else -1]))]) (fun k => k ≤ l.length) (fun k => l.length - k) 0 (Nat.zero_le _)
      (le_of [2] rfl rfl rfl ⟨rfl, rfl, rfl, rfl, rfl, trivial⟩ ⟨by
        have : (if plc l (v : Int) < ((0 : Nat) : Int) then plc l v else -1) = -1 := by
          by_cases hm : (v : Int) ∈ l
          · have := plc_mem hd hm; rw [if_neg (by omega)]
          · rw [plc_none hm]; rfl
        rw [this, nums_app]; rfl, trivial⟩) ?_
    intro k hk
    (conv => whnf); repeat (first | (refine w ?_; conv => whnf) | (refine ⟨fun h => absurd h Bool.false_ne_true, fun _ => ?_⟩; conv => whnf) | (refine ⟨fun _ => ?_, fun h => absurd h.symm Bool.false_ne_true⟩; conv => whnf))
    rw [nums_len]
    refine ⟨fun hlt2 => ?_, fun hge2 => ?_⟩
    · have hlt2 := of_lt hlt2
      have hy : l[k]? = some l[k] := List.getElem?_eq_getElem hlt2
      generalize l[k] = y at hy
      have hky := plc_at hd hy
      (conv => whnf); repeat (first | (refine w ?_; conv => whnf) | (refine ⟨fun h => absurd h Bool.false_ne_true, fun _ => ?_⟩; conv => whnf) | (refine ⟨fun _ => ?_, fun h => absurd h.symm Bool.false_ne_true⟩; conv => whnf))
      refine ⟨by omega, _, nums_at hy, ?_⟩
      (conv => whnf); repeat (first | (refine w ?_; conv => whnf) | (refine ⟨fun h => absurd h Bool.false_ne_true, fun _ => ?_⟩; conv => whnf) | (refine ⟨fun _ => ?_, fun h => absurd h.symm Bool.false_ne_true⟩; conv => whnf))
      refine ⟨fun h => ?_, fun h => ?_⟩
      · have h : y = v := by simpa using h
        rw [h] at hky
        (conv => whnf); repeat (first | (refine w ?_; conv => whnf) | (refine ⟨fun h => absurd h Bool.false_ne_true, fun _ => ?_⟩; conv => whnf) | (refine ⟨fun _ => ?_, fun h => absurd h.symm Bool.false_ne_true⟩; conv => whnf))
        refine ⟨⟨by omega, by rw [nums_len, List.length_append, hbl]; simp; omega⟩, ?_⟩
        (conv => whnf); repeat (first | (refine w ?_; conv => whnf) | (refine ⟨fun h => absurd h Bool.false_ne_true, fun _ => ?_⟩; conv => whnf) | (refine ⟨fun _ => ?_, fun h => absurd h.symm Bool.false_ne_true⟩; conv => whnf))
        refine ⟨_, nums_at (gt_some (by rw [List.length_append, hbl, Int.toNat_natCast]; simp)), ?_⟩
        (conv => whnf); repeat (first | (refine w ?_; conv => whnf) | (refine ⟨fun h => absurd h Bool.false_ne_true, fun _ => ?_⟩; conv => whnf) | (refine ⟨fun _ => ?_, fun h => absurd h.symm Bool.false_ne_true⟩; conv => whnf))
        exact ⟨k + 1, hlt2, by show l.length - (k + 1) < l.length - k; omega, le_of [0] rfl rfl rfl ⟨step_num hlt2 (by omega), rfl, rfl, rfl, rfl, trivial⟩ ⟨by
          have e : (if plc l (v : Int) < ((k + 1 : Nat) : Int) then plc l v else -1) = k := by rw [hky, if_pos (by omega)]
          show Blk.row 3 1 ((nums _).set ((v : Int)).toNat [.int .i64 _]) = _
          rw [nums_set, Int.toNat_natCast, List.set_append_right _ _ (by omega), hbl, Nat.sub_self, List.set_cons_zero, e]; rfl, trivial⟩⟩
      · have h : y ≠ v := by simpa using h
        have hne : plc l v ≠ k := fun e => h (by
          by_cases hm : (v : Int) ∈ l
          · have h1 := plc_mem hd hm
            rw [e, Int.toNat_natCast] at h1
            have h2 := gt_some hlt2
            rw [hy] at h2
            rw [Option.some.inj h2]; exact h1.2.2
          · rw [plc_none hm] at e; omega)
        (conv => whnf); repeat (first | (refine w ?_; conv => whnf) | (refine ⟨fun h => absurd h Bool.false_ne_true, fun _ => ?_⟩; conv => whnf) | (refine ⟨fun _ => ?_, fun h => absurd h.symm Bool.false_ne_true⟩; conv => whnf))
        exact ⟨k + 1, hlt2, by show l.length - (k + 1) < l.length - k; omega, le_of [0] rfl rfl rfl ⟨step_num hlt2 (by omega), rfl, rfl, rfl, rfl, trivial⟩ ⟨by
          have : (if plc l (v : Int) < ((k + 1 : Nat) : Int) then plc l v else -1) = if plc l v < (k : Int) then plc l v else -1 := by
            by_cases h1 : plc l v < (k : Int)
            · rw [if_pos h1, if_pos (by omega)]
            · rw [if_neg h1, if_neg (by omega)]
          rw [this]; rfl, trivial⟩⟩
    · have hge2 := of_ge hge2
      have e : (if plc l (v : Int) < (k : Int) then plc l v else -1) = plc l v := by
        by_cases hm : (v : Int) ∈ l
        · have := plc_mem hd hm; rw [if_pos (by omega)]
        · rw [plc_none hm]; split <;> rfl
      rw [e]
      (conv => whnf); repeat (first | (refine w ?_; conv => whnf) | (refine ⟨fun h => absurd h Bool.false_ne_true, fun _ => ?_⟩; conv => whnf) | (refine ⟨fun _ => ?_, fun h => absurd h.symm Bool.false_ne_true⟩; conv => whnf))
      exact ⟨v + 1, hlt, by show n - (v + 1) < n - v; omega, le_of [0] rfl rfl rfl ⟨step_num hlt (by omega), rfl, rfl, rfl, trivial⟩ ⟨by rw [back_succ]; rfl, trivial⟩⟩
  · have hge := of_ge hge
    have : v = n := by omega
    subst this
    (conv => whnf); repeat (first | (refine w ?_; conv => whnf) | (refine ⟨fun h => absurd h Bool.false_ne_true, fun _ => ?_⟩; conv => whnf) | (refine ⟨fun _ => ?_, fun h => absurd h.symm Bool.false_ne_true⟩; conv => whnf))
    refine fin_frz TT ?_ rfl
    rfl
/-- A structural rule. -/
def mkR (l r : Graph) (k i : Mor) : Rule := ⟨⟨#[]⟩, ⟨l, [], 0, []⟩, ⟨r, [], 0, []⟩, k, i, true, .zero⟩
theorem c93 (l r : Graph) (k i : Mor) : Con P 93 [] [l.av, r.av, k.av, i.av] (mkR l r k i).av [] := by
  refine go Tryz.func93 (by rfl) rfl rfl rfl fun hl => ?_
  (conv => whnf); repeat (first | (refine w ?_; conv => whnf) | (refine ⟨fun h => absurd h Bool.false_ne_true, fun _ => ?_⟩; conv => whnf) | (refine ⟨fun _ => ?_, fun h => absurd h.symm Bool.false_ne_true⟩; conv => whnf))
  refine fin_frz TT ?_ rfl
  rfl
/-- What is kept, in order; where it goes. -/
def kpt (q : Mor) : Mor := ⟨srt q.nodes, srt q.edges⟩
def kin (q z : Mor) : Mor := ⟨(srt q.nodes).map (ledTo q.nodes z.nodes), (srt q.edges).map (ledTo q.edges z.edges)⟩
theorem srt_mem {l : List Int} {x : Int} : x ∈ srt l ↔ x ∈ l := (srt_perm l).mem_iff
theorem c54 (l r : Graph) (z q : Mor) (h1 : q.nodes.Nodup) (h2 : q.edges.Nodup) (h3 : q.nodes.length = z.nodes.length) (h4 : q.edges.length = z.edges.length) (h5 : ∀ x ∈ q.nodes, 0 ≤ x ∧ x < 1000) (h6 : ∀ x ∈ q.edges, 0 ≤ x ∧ x < 1000) (h7 : q.nodes.length ≤ 1000) (h8 : q.edges.length ≤ 1000) :
    Con P 54 [] [l.av, r.av, z.av, q.av] (mkR l r (kpt q) (kin q z)).av [] := by
  refine go Tryz.func54 (by rfl) rfl rfl rfl fun hl => ?_
  (conv => whnf); repeat (first | (refine w ?_; conv => whnf) | (refine ⟨fun h => absurd h Bool.false_ne_true, fun _ => ?_⟩; conv => whnf) | (refine ⟨fun _ => ?_, fun h => absurd h.symm Bool.false_ne_true⟩; conv => whnf))
  refine ⟨_, _, c47 q.nodes h5 h7, ?_⟩
  (conv => whnf); repeat (first | (refine w ?_; conv => whnf) | (refine ⟨fun h => absurd h Bool.false_ne_true, fun _ => ?_⟩; conv => whnf) | (refine ⟨fun _ => ?_, fun h => absurd h.symm Bool.false_ne_true⟩; conv => whnf))
  refine ⟨_, _, c47 q.edges h6 h8, ?_⟩
  (conv => whnf); repeat (first | (refine w ?_; conv => whnf) | (refine ⟨fun h => absurd h Bool.false_ne_true, fun _ => ?_⟩; conv => whnf) | (refine ⟨fun _ => ?_, fun h => absurd h.symm Bool.false_ne_true⟩; conv => whnf))
  refine ⟨by kernel_rfl, ?_⟩
  (conv => whnf); repeat (first | (refine w ?_; conv => whnf) | (refine ⟨fun h => absurd h Bool.false_ne_true, fun _ => ?_⟩; conv => whnf) | (refine ⟨fun _ => ?_, fun h => absurd h.symm Bool.false_ne_true⟩; conv => whnf))
  refine ⟨_, _, c94 (srt q.nodes) q.nodes z.nodes h1 (fun x hx => srt_mem.1 hx) h3 (by rw [srt_len]; exact h7) h7, ?_⟩
  (conv => whnf); repeat (first | (refine w ?_; conv => whnf) | (refine ⟨fun h => absurd h Bool.false_ne_true, fun _ => ?_⟩; conv => whnf) | (refine ⟨fun _ => ?_, fun h => absurd h.symm Bool.false_ne_true⟩; conv => whnf))
  refine ⟨_, _, c94 (srt q.edges) q.edges z.edges h2 (fun x hx => srt_mem.1 hx) h4 (by rw [srt_len]; exact h8) h8, ?_⟩
  (conv => whnf); repeat (first | (refine w ?_; conv => whnf) | (refine ⟨fun h => absurd h Bool.false_ne_true, fun _ => ?_⟩; conv => whnf) | (refine ⟨fun _ => ?_, fun h => absurd h.symm Bool.false_ne_true⟩; conv => whnf))
  refine ⟨_, _, c93 l r (kpt q) (kin q z), ?_⟩
  (conv => whnf); repeat (first | (refine w ?_; conv => whnf) | (refine ⟨fun h => absurd h Bool.false_ne_true, fun _ => ?_⟩; conv => whnf) | (refine ⟨fun _ => ?_, fun h => absurd h.symm Bool.false_ne_true⟩; conv => whnf))
  refine ⟨by kernel_rfl, ?_⟩
  (conv => whnf); repeat (first | (refine w ?_; conv => whnf) | (refine ⟨fun h => absurd h Bool.false_ne_true, fun _ => ?_⟩; conv => whnf) | (refine ⟨fun _ => ?_, fun h => absurd h.symm Bool.false_ne_true⟩; conv => whnf))
  refine fin_frz TT ?_ rfl
  rfl
end Go.Av.Z

/- The plain law of parts, complements and gluings. -/
namespace Go.Av.Z

theorem aval_mk {l : List Int} {n : Int} (h1 : ∀ x ∈ l, 0 ≤ x ∧ x < n) (h2 : l.Pairwise (· < ·)) : aval l n = 0 := by
  refine errs_zero fun j x hx => ?_
  have hb := h1 x (List.mem_of_getElem? hx)
  rw [Nat.zero_add, aerr, if_neg (by omega), if_neg]
  rintro ⟨hj, hle⟩
  obtain ⟨hlt, e⟩ := List.getElem?_eq_some_iff.1 hx
  have h3 := List.pairwise_iff_getElem.1 h2 (j - 1) j (by omega) hlt (by omega)
  have h4 : at0 l ((j : Int) - 1) = l[j - 1] := by
    rw [gt_at0, show ((j : Int) - 1).toNat = j - 1 by omega, gt, List.getD_eq_getElem?_getD, List.getElem?_eq_getElem (by omega)]; rfl
  omega
theorem aval_ok {l : List Int} {n : Int} (h : aval l n = 0) : (∀ x ∈ l, 0 ≤ x ∧ x < n) ∧ l.Pairwise (· < ·) := by
  refine ⟨fun x hx => ?_, aval_sorted h⟩
  obtain ⟨i, hi⟩ := List.mem_iff_getElem?.1 hx
  exact aval_at h hi
theorem lt_nodup {l : List Int} (h : l.Pairwise (· < ·)) : l.Nodup := h.imp fun h => by omega
theorem srt_lt {l : List Int} (h : l.Nodup) : (srt l).Pairwise (· < ·) := by
  have h1 := srt_sorted l
  have h2 : (srt l).Nodup := (srt_perm l).nodup_iff.2 h
  exact (h1.and h2).imp fun ⟨a, b⟩ => by have : _ ≠ _ := b; omega
theorem pval_mk {g : Graph} {p : Mor} (h0 : gval g = 0) (h1 : aval p.nodes g.nodes.length = 0) (h2 : aval p.edges g.edges.length = 0) (h3 : ∀ k ∈ p.edges, (atE g.edges k).src ∈ p.nodes ∧ (atE g.edges k).dst ∈ p.nodes) : pval g p = 0 := by
  rw [pval, if_neg (by simp [h0]), prt, if_neg (by simp [h1]), if_neg (by simp [h2])]
  refine errs_zero fun j x hx => ?_
  obtain ⟨h4, h5⟩ := h3 x (List.mem_of_getElem? hx)
  rw [perr, if_neg]
  simp [h4, h5]
theorem pval_edge {g : Graph} {p : Mor} (h : pval g p = 0) : ∀ k ∈ p.edges, (atE g.edges k).src ∈ p.nodes ∧ (atE g.edges k).dst ∈ p.nodes := by
  intro k hk
  obtain ⟨i, hi⟩ := List.mem_iff_getElem?.1 hk
  have := errs_off (pval_ok h).2.2.2 i k hi
  rw [perr] at this
  split at this
  · cases this
  · rename_i h1
    simp at h1
    exact h1
theorem mval_mk {a b : Graph} {m : Mor} (ha : gval a = 0) (hb : gval b = 0) (h1 : m.nodes.length = a.nodes.length) (h2 : m.edges.length = a.edges.length)
    (h3 : ∀ j, j < a.nodes.length → 0 ≤ gt m.nodes j ∧ gt m.nodes j < b.nodes.length ∧ gt b.nodes (gt m.nodes j).toNat = gt a.nodes j)
    (h4 : ∀ j : Nat, j < a.edges.length → 0 ≤ gt m.edges j ∧ gt m.edges j < b.edges.length ∧ (atE a.edges j).type = (atE b.edges (gt m.edges j)).type ∧ at0 m.nodes (atE a.edges j).src = (atE b.edges (gt m.edges j)).src ∧ at0 m.nodes (atE a.edges j).dst = (atE b.edges (gt m.edges j)).dst) : mval a b m = 0 := by
  rw [mval, if_neg (by simp [ha]), if_neg (by simp [hb]), if_neg (by omega)]
  have e1 : errs (mnode a b) 0 m.nodes = 0 := by
    refine errs_zero fun j x hx => ?_
    have hj := (List.getElem?_eq_some_iff.1 hx).1
    have hx' : x = gt m.nodes j := by have := gt_some hj; rw [hx] at this; exact Option.some.inj this
    obtain ⟨k1, k2, k3⟩ := h3 j (by omega)
    subst hx'
    rw [Nat.zero_add, mnode, if_neg (by omega), if_neg]
    rw [gt_at0, gt_at0, k3, Int.toNat_natCast]; simp
  rw [if_neg (by simp [e1])]
  refine errs_zero fun j x hx => ?_
  have hj := (List.getElem?_eq_some_iff.1 hx).1
  have hx' : x = gt m.edges j := by have := gt_some hj; rw [hx] at this; exact Option.some.inj this
  obtain ⟨k1, k2, k3, k4, k5⟩ := h4 j (by omega)
  subst hx'
  rw [Nat.zero_add, medge, if_neg (by omega), if_neg (by simp [k3]), if_neg (by rw [k4, k5]; simp)]
theorem minj_ok {a b : Graph} {m : Mor} (h : minj a b m = true) : mval a b m = 0 ∧ m.nodes.Nodup ∧ m.edges.Nodup := by
  rw [minj] at h
  simpa [and_assoc] using h
theorem minj_mk {a b : Graph} {m : Mor} (h1 : mval a b m = 0) (h2 : m.nodes.Nodup) (h3 : m.edges.Nodup) : minj a b m = true := by
  rw [minj, h1]; simp [h2, h3]
theorem gt_inj {l : List Int} (h : l.Nodup) {i j : Nat} (hi : i < l.length) (hj : j < l.length) (e : gt l i = gt l j) : i = j := by
  have h1 := plc_at h (gt_some hi)
  have h2 := plc_at h (gt_some hj)
  rw [e] at h1
  omega
theorem nodup_gt {l : List Int} (h : ∀ i j, i < l.length → j < l.length → gt l i = gt l j → i = j) : l.Nodup := by
  rw [List.Nodup, List.pairwise_iff_getElem]
  intro i j hi hj hij e
  have := h i j hi hj (by
    have h1 := gt_some hi
    have h2 := gt_some hj
    rw [List.getElem?_eq_getElem hi] at h1
    rw [List.getElem?_eq_getElem hj] at h2
    rw [← Option.some.inj h1, ← Option.some.inj h2, e])
  omega
theorem at_nat {α : Type} (l : List Edge) (n : Int) (h : 0 ≤ n) : atE l n = atE l (n.toNat : Nat) := by
  rw [Int.toNat_of_nonneg h]
theorem ext_node {g : Graph} {p : Mor} {j : Nat} (h : j < p.nodes.length) : gt (ext g p).nodes j = gt g.nodes (gt p.nodes j).toNat := by
  unfold ext; rw [gt_map h]; rfl
theorem ext_edge {g : Graph} {p : Mor} {j : Nat} (h : j < p.edges.length) : atE (ext g p).edges (j : Nat) = extE g p (gt p.edges j) := by
  unfold ext atE
  rw [List.getD_eq_getElem?_getD, Int.toNat_natCast, List.getElem?_map, gt_some h]; rfl
theorem ext_len (g : Graph) (p : Mor) : (ext g p).nodes.length = p.nodes.length ∧ (ext g p).edges.length = p.edges.length := by simp [ext]
theorem atE_mem {l : List Edge} {n : Int} (h0 : 0 ≤ n) (h : n < l.length) : atE l n ∈ l := List.mem_of_getElem? (atE_some (by omega))
theorem pval_nd {g : Graph} {p : Mor} (h : pval g p = 0) : p.nodes.Nodup ∧ p.edges.Nodup :=
  ⟨lt_nodup (aval_ok (pval_ok h).2.1).2, lt_nodup (aval_ok (pval_ok h).2.2.1).2⟩
theorem gval_ext {g : Graph} {p : Mor} (h : pval g p = 0) : gval (ext g p) = 0 := by
  obtain ⟨hg, h1, h2, _⟩ := pval_ok h
  have hl := gval_len hg
  have l1 := aval_len h1
  have l2 := aval_len h2
  have b1 := (aval_ok h1).1
  have b2 := (aval_ok h2).1
  obtain ⟨e1, e2⟩ := ext_len g p
  refine gval_mk (by omega) (by omega) ?_ ?_
  · intro n hn
    obtain ⟨k, hk, rfl⟩ := List.mem_map.1 (show n ∈ p.nodes.map (at0 g.nodes) from hn)
    have := b1 k hk
    exact gval_nodes hg _ (gt_mem (by omega))
  · intro e he
    obtain ⟨k, hk, rfl⟩ := List.mem_map.1 (show e ∈ p.edges.map (extE g p) from he)
    have hb := b2 k hk
    obtain ⟨m1, m2⟩ := pval_edge h k hk
    have p1 := plc_mem (pval_nd h).1 m1
    have p2 := plc_mem (pval_nd h).1 m2
    have := gval_edges hg _ (atE_mem hb.1 hb.2)
    rw [e1]
    simp only [extE]
    omega
/-- The inclusion of a part. -/
theorem mval_incl {g : Graph} {p : Mor} (h : pval g p = 0) : mval (ext g p) g p = 0 := by
  obtain ⟨hg, h1, h2, _⟩ := pval_ok h
  have b1 := (aval_ok h1).1
  have b2 := (aval_ok h2).1
  obtain ⟨e1, e2⟩ := ext_len g p
  refine mval_mk (gval_ext h) hg e1.symm e2.symm ?_ ?_
  · intro j hj
    have := b1 _ (gt_mem (by omega : j < p.nodes.length))
    exact ⟨this.1, this.2, (ext_node (by omega)).symm⟩
  · intro j hj
    have hm := gt_mem (by omega : j < p.edges.length)
    have hb := b2 _ hm
    obtain ⟨m1, m2⟩ := pval_edge h _ hm
    have p1 := plc_mem (pval_nd h).1 m1
    have p2 := plc_mem (pval_nd h).1 m2
    rw [ext_edge (by omega)]
    refine ⟨hb.1, hb.2, rfl, ?_, ?_⟩
    · simp only [extE, gt_at0]; exact p1.2.2
    · simp only [extE, gt_at0]; exact p2.2.2
/-- The part of the images of an injective morphism. -/
theorem pval_img {a b : Graph} {m : Mor} (h : mval a b m = 0) (h1 : m.nodes.Nodup) (h2 : m.edges.Nodup) : pval b (kpt m) = 0 := by
  obtain ⟨ha, hb, l1, l2, _⟩ := mval_ok h
  refine pval_mk hb (aval_mk (fun x hx => mval_node h x (srt_mem.1 hx)) (srt_lt h1)) (aval_mk (fun x hx => mval_edge h x (srt_mem.1 hx)) (srt_lt h2)) ?_
  intro k hk
  obtain ⟨j, hj⟩ := List.mem_iff_getElem?.1 (srt_mem.1 hk)
  have hjl := (List.getElem?_eq_some_iff.1 hj).1
  have e : k = gt m.edges j := by have := gt_some hjl; rw [hj] at this; exact Option.some.inj this
  have he := mval_et h (j := j) (by omega)
  have hv := gval_edges ha _ (atE_mem (l := a.edges) (n := (j : Nat)) (by omega) (by omega))
  subst e
  rw [← he.2.1, ← he.2.2]
  exact ⟨srt_mem.2 (gt_mem (by omega)), srt_mem.2 (gt_mem (by omega))⟩
end Go.Av.Z

/- The plain law of complements. -/
namespace Go.Av.Z

theorem sel_mem {α β : Type} (f : Nat → α → Option β) : ∀ (l : List α) (n : Nat) (y : β), y ∈ sel f n l ↔ ∃ j x, l[j]? = some x ∧ f (n + j) x = some y
  | [], n, y => by simp [sel]
  | x :: r, n, y => by
    have ih := sel_mem f r (n + 1) y
    have hr : (∃ j x', (x :: r)[j]? = some x' ∧ f (n + j) x' = some y) ↔ f n x = some y ∨ ∃ j x', r[j]? = some x' ∧ f (n + 1 + j) x' = some y := by
      constructor
      · rintro ⟨j, x', h1, h2⟩
        cases j with
        | zero => simp at h1; subst h1; exact .inl h2
        | succ j => exact .inr ⟨j, x', by simpa using h1, by rw [show n + 1 + j = n + (j + 1) by omega]; exact h2⟩
      · rintro (h | ⟨j, x', h1, h2⟩)
        · exact ⟨0, x, rfl, h⟩
        · exact ⟨j + 1, x', by simpa using h1, by rw [show n + (j + 1) = n + 1 + j by omega]; exact h2⟩
    rw [hr, ← ih, sel]
    cases h : f n x with
    | none => simp
    | some z =>
      simp only [List.mem_cons, Option.some.injEq]
      exact ⟨fun h => h.imp Eq.symm id, fun h => h.imp Eq.symm id⟩
theorem gone_mem {images keep : List Int} {v : Int} : v ∈ gone images keep ↔ ∃ j : Nat, j < images.length ∧ (j : Int) ∉ keep ∧ gt images j = v := by
  unfold gone
  rw [sel_mem]
  constructor
  · rintro ⟨j, x, h1, h2⟩
    have hj := (List.getElem?_eq_some_iff.1 h1).1
    rw [Nat.zero_add, goneF] at h2
    split at h2
    · cases h2
    · rename_i h3
      have := gt_some hj
      rw [h1] at this
      exact ⟨j, hj, by simpa using h3, by rw [← Option.some.inj this]; exact Option.some.inj h2⟩
  · rintro ⟨j, hj, h1, h2⟩
    refine ⟨j, _, gt_some hj, ?_⟩
    rw [Nat.zero_add, goneF, if_neg (by simpa using h1), h2]
theorem restL_mem {n : Nat} {gn : List Int} {v : Int} : v ∈ restL n gn ↔ (0 ≤ v ∧ v < n) ∧ v ∉ gn := by
  unfold restL
  rw [List.mem_map]
  constructor
  · rintro ⟨i, hi, rfl⟩
    have h1 := List.mem_filter.1 hi
    simp at h1
    exact ⟨by omega, h1.2⟩
  · rintro ⟨⟨h1, h2⟩, h3⟩
    obtain ⟨i, rfl⟩ := Int.eq_ofNat_of_zero_le h1
    exact ⟨i, List.mem_filter.2 ⟨by simp; omega, by simpa using h3⟩, rfl⟩
theorem restL_lt (n : Nat) (gn : List Int) : (restL n gn).Pairwise (· < ·) := by
  unfold restL
  rw [List.pairwise_map]
  exact (List.Pairwise.filter _ List.pairwise_lt_range).imp fun h => by omega
theorem prs_nil {images keep : List Int} (h : images.Nodup) : prs images keep = [] := by
  unfold prs pOut
  rw [List.flatMap_eq_nil_iff]
  intro a ha
  unfold pIn
  rw [List.map_eq_nil_iff, List.filter_eq_nil_iff]
  intro b hb
  simp at ha hb
  simp only [Bool.and_eq_true, decide_eq_true_eq, not_and]
  intro hab
  unfold pOk
  simp only [Bool.and_eq_true, not_and, beq_iff_eq]
  intro e
  exfalso
  rw [gt_at0, gt_at0, Int.toNat_natCast, Int.toNat_natCast] at e
  have := gt_inj h ha hb e
  omega
/-- What a gluing's complement wants: a part of r, an injective morphism to x. -/
structure Cmp (r x : Graph) (p m : Mor) : Prop where
  v : mval r x m = 0
  n1 : m.nodes.Nodup
  n2 : m.edges.Nodup
  pt : pval r p = 0
section
variable {r x : Graph} {p m : Mor}
theorem Cmp.giv (h : Cmp r x p m) : cgiv r x p m = 0 := by rw [cgiv, if_neg (by simp [h.v]), h.pt]
theorem Cmp.err (h : Cmp r x p m) : cerr r x p m = if 0 < (dang x p m).length then 14 else 0 := by
  rw [cerr, if_neg (by simp [h.giv]), prs_nil h.n1, prs_nil h.n2]
  rfl
end
section
variable {r x : Graph} {p m : Mor}
theorem Cmp.part (h : Cmp r x p m) (he : cerr r x p m = 0) : cpart r x p m = ⟨restL x.nodes.length (gone m.nodes p.nodes), restL x.edges.length (gone m.edges p.edges)⟩ := by rw [cpart, if_pos he]
theorem Cmp.kn (h : Cmp r x p m) (he : cerr r x p m = 0) {j : Nat} (hj : j < r.nodes.length) (hk : (j : Int) ∈ p.nodes) : gt m.nodes j ∈ (cpart r x p m).nodes := by
  have l1 := (mval_ok h.v).2.2.1
  rw [h.part he, restL_mem]
  refine ⟨mval_node h.v _ (gt_mem (by omega)), fun hg => ?_⟩
  obtain ⟨i, hi, h1, h2⟩ := gone_mem.1 hg
  have := gt_inj h.n1 hi (by omega) h2
  subst this
  exact h1 hk
theorem Cmp.ke (h : Cmp r x p m) (he : cerr r x p m = 0) {j : Nat} (hj : j < r.edges.length) (hk : (j : Int) ∈ p.edges) : gt m.edges j ∈ (cpart r x p m).edges := by
  have l1 := (mval_ok h.v).2.2.2.1
  rw [h.part he, restL_mem]
  refine ⟨mval_edge h.v _ (gt_mem (by omega)), fun hg => ?_⟩
  obtain ⟨i, hi, h1, h2⟩ := gone_mem.1 hg
  have := gt_inj h.n2 hi (by omega) h2
  subst this
  exact h1 hk
theorem Cmp.z (h : Cmp r x p m) (he : cerr r x p m = 0) : pval x (cpart r x p m) = 0 := by
  obtain ⟨hr, hx, l1, l2, _⟩ := mval_ok h.v
  have hp := h.part he
  have hd : ¬ 0 < (dang x p m).length := fun hd => by
    rw [h.err, if_pos hd] at he; cases he
  have hdn : dang x p m = [] := List.eq_nil_of_length_eq_zero (by omega)
  refine pval_mk hx ?_ ?_ ?_
  · rw [hp]; exact aval_mk (fun v hv => (restL_mem.1 hv).1) (restL_lt _ _)
  · rw [hp]; exact aval_mk (fun v hv => (restL_mem.1 hv).1) (restL_lt _ _)
  · intro k hk
    have hk' : k ∈ restL x.edges.length (gone m.edges p.edges) := by rw [hp] at hk; exact hk
    obtain ⟨hb, hng⟩ := restL_mem.1 hk'
    have hv := gval_edges hx _ (atE_mem hb.1 hb.2)
    by_cases hm : k ∈ m.edges
    · obtain ⟨j, hj⟩ := List.mem_iff_getElem?.1 hm
      have hjl := (List.getElem?_eq_some_iff.1 hj).1
      have e : k = gt m.edges j := by have := gt_some hjl; rw [hj] at this; exact Option.some.inj this
      have hkp : (j : Int) ∈ p.edges := by
        by_cases c : (j : Int) ∈ p.edges
        · exact c
        · exact absurd (gone_mem.2 ⟨j, hjl, c, e.symm⟩) hng
      have het := mval_et h.v (j := j) (by omega)
      have hre := gval_edges hr _ (atE_mem (l := r.edges) (n := (j : Nat)) (by omega) (by omega))
      obtain ⟨q1, q2⟩ := pval_edge h.pt _ hkp
      subst e
      rw [← het.2.1, ← het.2.2, gt_at0, gt_at0]
      refine ⟨h.kn he (by omega) (by rw [Int.toNat_of_nonneg hre.1]; exact q1), h.kn he (by omega) (by rw [Int.toNat_of_nonneg hre.2.2.1]; exact q2)⟩
    · have hno : dangF m (gone m.nodes p.nodes) k.toNat (atE x.edges k) = none := by
        cases hc : dangF m (gone m.nodes p.nodes) k.toNat (atE x.edges k) with
        | none => rfl
        | some y =>
          have : y ∈ dang x p m := (sel_mem _ _ _ _).2 ⟨k.toNat, atE x.edges k, atE_some (by omega), by rw [Nat.zero_add]; exact hc⟩
          rw [hdn] at this; cases this
      rw [dangF, Int.toNat_of_nonneg hb.1] at hno
      split at hno
      · cases hno
      · rename_i hc
        simp [hm] at hc
        rw [hp]
        exact ⟨restL_mem.2 ⟨⟨hv.1, hv.2.1⟩, hc.1⟩, restL_mem.2 ⟨⟨hv.2.2.1, hv.2.2.2.1⟩, hc.2⟩⟩
end
end Go.Av.Z

/- The plain law of pushouts along injective morphisms. -/
namespace Go.Av.Z

/-- A span of injective morphisms, whose union isn't too large. -/
structure PoInj (s : Span) : Prop where
  ok : PoOk s
  f1 : s.f.nodes.Nodup
  f2 : s.f.edges.Nodup
  g1 : s.g.nodes.Nodup
  g2 : s.g.edges.Nodup
/-- Equal places of classes, equal classes. -/
theorem qn_inj {p : List Int} (hp : Ptn p) {i j : Nat} (hi : i < p.length) (hj : j < p.length) (h : gt (qn p) i = gt (qn p) j) : gt p i = gt p j := by
  obtain ⟨_, _, k1⟩ := quo_at (fun i => i) hp p.length (Nat.le_refl _) i hi
  obtain ⟨_, _, k2⟩ := quo_at (fun i => i) hp p.length (Nat.le_refl _) j hj
  rw [h, k2] at k1
  have := Option.some.inj k1
  have h1 := hp.low i hi
  have h2 := hp.low j hj
  omega
/-- In the classes that pairs of two injective lists make, elements of the left side are alone. -/
theorem cls_left {n k : Nat} {f g : List Int} (hf : ∀ x ∈ f, 0 ≤ x ∧ x < n) (hg : ∀ x ∈ g, 0 ≤ x ∧ x < k) (hl : f.length = g.length) (hg1 : g.Nodup) {a b : Nat} (ha : a < n) (hb : b < n)
    (h : gt (gen (n + k) (pairsU n k f g)) a = gt (gen (n + k) (pairsU n k f g)) b) : a = b := by
  let F : Nat → Int := fun v => if v < n then v else if ((v : Int) - n) ∈ g then gt f (plc g ((v : Int) - n)).toNat else v
  have hF : ∀ i, i < n + k → F (gt (gen (n + k) (pairsU n k f g)) i).toNat = F i := by
    refine gen_resp F (pairsU_inR hf hg hl) ?_
    intro x hx
    obtain ⟨j, hj, rfl⟩ := (pairsU_mem hf hg hl x).1 hx
    have f1 := hf _ (gt_mem hj)
    have g1 := hg _ (gt_mem (by omega : j < g.length))
    have hp := plc_at hg1 (gt_some (by omega : j < g.length))
    show (if (gt f j).toNat < n then _ else _) = if ((n : Int) + gt g j).toNat < n then _ else _
    rw [if_pos (by omega), if_neg (by omega), show (((n : Int) + gt g j).toNat : Int) - n = gt g j by omega, if_pos (gt_mem (by omega)), hp, Int.toNat_natCast]
    omega
  have h1 := hF a (by omega)
  have h2 := hF b (by omega)
  rw [h, h2] at h1
  have e1 : F b = b := if_pos hb
  have e2 : F a = a := if_pos ha
  rw [e1, e2] at h1
  omega
theorem cls_right {n k : Nat} {f g : List Int} (hf : ∀ x ∈ f, 0 ≤ x ∧ x < n) (hg : ∀ x ∈ g, 0 ≤ x ∧ x < k) (hl : f.length = g.length) (hf1 : f.Nodup) {a b : Nat} (ha : a < k) (hb : b < k)
    (h : gt (gen (n + k) (pairsU n k f g)) (n + a) = gt (gen (n + k) (pairsU n k f g)) (n + b)) : a = b := by
  let F : Nat → Int := fun v => if n ≤ v then v else if (v : Int) ∈ f then n + gt g (plc f (v : Int)).toNat else v
  have hF : ∀ i, i < n + k → F (gt (gen (n + k) (pairsU n k f g)) i).toNat = F i := by
    refine gen_resp F (pairsU_inR hf hg hl) ?_
    intro x hx
    obtain ⟨j, hj, rfl⟩ := (pairsU_mem hf hg hl x).1 hx
    have f1 := hf _ (gt_mem hj)
    have g1 := hg _ (gt_mem (by omega : j < g.length))
    have hp := plc_at hf1 (gt_some hj)
    show (if n ≤ (gt f j).toNat then _ else _) = if n ≤ ((n : Int) + gt g j).toNat then _ else _
    rw [if_neg (by omega), show ((gt f j).toNat : Int) = gt f j by omega, if_pos (gt_mem hj), hp, Int.toNat_natCast, if_pos (by omega)]
    show (n : Int) + gt g j = (((n : Int) + gt g j).toNat : Int)
    omega
  have h1 := hF (n + a) (by omega)
  have h2 := hF (n + b) (by omega)
  rw [h, h2] at h1
  have e1 : F (n + b) = ((n + b : Nat) : Int) := if_pos (by omega)
  have e2 : F (n + a) = ((n + a : Nat) : Int) := if_pos (by omega)
  rw [e1, e2] at h1
  omega
theorem qc_le (p : List Int) : qc p ≤ p.length := qst_le p p.length
theorem quoG_len (g : Graph) (p r : List Int) : (quoG g p r).nodes.length = qc p ∧ (quoG g p r).edges.length = qc r := by
  unfold quoG
  rw [quoN_quo, quoE_quo, quo_len, quo_len]
  exact ⟨rfl, rfl⟩
theorem quo_mem {α : Type} {f : Nat → α} {p : List Int} {x : α} : ∀ {n : Nat}, x ∈ quo f p n → ∃ i, i < n ∧ x = f i
  | 0, hx => by cases hx
  | n + 1, hx => by
    rw [quo] at hx
    split at hx
    · rcases List.mem_append.1 hx with k | k
      · obtain ⟨i, hi, e⟩ := quo_mem k; exact ⟨i, by omega, e⟩
      · exact ⟨n, by omega, by simpa using k⟩
    · obtain ⟨i, hi, e⟩ := quo_mem hx; exact ⟨i, by omega, e⟩
theorem gt_rngf {f n i : Nat} (h : i < n) : gt (rng f n) i = ((f + i : Nat) : Int) := by simp [gt, List.getD_eq_getElem?_getD, rng_at h]
section
variable {s : Span}
theorem PoOk.pn (h : PoOk s) : Ptn (poN s) ∧ (poN s).length = s.b.nodes.length + s.c.nodes.length := ⟨gen_ptn h.nR, by rw [poN, gen_len, (un_len _ _).1]⟩
theorem PoOk.pe (h : PoOk s) : Ptn (poE s) ∧ (poE s).length = s.b.edges.length + s.c.edges.length := ⟨gen_ptn h.eR, by rw [poE, gen_len, (un_len _ _).2]⟩
theorem PoOk.lenG (h : PoOk s) : (poG s).nodes.length = qc (poN s) ∧ (poG s).edges.length = qc (poE s) := quoG_len _ _ _
/-- Where a node of the union goes, its type is. -/
theorem PoOk.qnode (h : PoOk s) {v : Nat} (hv : v < s.b.nodes.length + s.c.nodes.length) : 0 ≤ gt (qn (poN s)) v ∧ gt (qn (poN s)) v < (poG s).nodes.length ∧ gt (poG s).nodes (gt (qn (poN s)) v).toNat = gt (unG s.b s.c).nodes v := by
  obtain ⟨hp, hl⟩ := h.pn
  obtain ⟨k1, k2, k3⟩ := quo_at (gt (unG s.b s.c).nodes) hp (poN s).length (Nat.le_refl _) v (by omega)
  rw [← quoN_quo] at k3
  refine ⟨k1, by rw [h.lenG.1]; exact k2, ?_⟩
  have : (poG s).nodes[(gt (qn (poN s)) v).toNat]? = some (gt (unG s.b s.c).nodes (gt (poN s) v).toNat) := k3
  have h2 := gt_some (q := (poG s).nodes) (i := (gt (qn (poN s)) v).toNat) (by have := h.lenG.1; unfold qc at this; omega)
  rw [this] at h2
  rw [← Option.some.inj h2]
  exact h.nodes v (by omega)
theorem PoOk.qedge (h : PoOk s) {v : Nat} (hv : v < s.b.edges.length + s.c.edges.length) : 0 ≤ gt (qn (poE s)) v ∧ gt (qn (poE s)) v < (poG s).edges.length ∧ atE (poG s).edges (gt (qn (poE s)) v) = mapE (qn (poN s)) (atE (unG s.b s.c).edges (v : Nat)) := by
  obtain ⟨hp, hl⟩ := h.pe
  obtain ⟨k1, k2, k3⟩ := quo_at (fun i => mapE (qn (poN s)) (atE (unG s.b s.c).edges (i : Nat))) hp (poE s).length (Nat.le_refl _) v (by omega)
  rw [← quoE_quo] at k3
  have hlt : gt (qn (poE s)) v < (poG s).edges.length := by rw [h.lenG.2]; exact k2
  refine ⟨k1, hlt, ?_⟩
  have : (poG s).edges[(gt (qn (poE s)) v).toNat]? = some (mapE (qn (poN s)) (atE (unG s.b s.c).edges ((gt (poE s) v).toNat : Nat))) := k3
  have h2 := atE_some (l := (poG s).edges) (n := gt (qn (poE s)) v) (by omega)
  rw [this] at h2
  rw [← Option.some.inj h2]
  exact h.edges v (by omega)
theorem PoOk.gv (h : PoOk s) : gval (poG s) = 0 := by
  obtain ⟨hp, hl⟩ := h.pn
  obtain ⟨hp2, hl2⟩ := h.pe
  have hu := gval_un h.u
  have hul := un_len s.b s.c
  have ho := uerr_ok h.u
  have q1 := qc_le (poN s)
  have q2 := qc_le (poE s)
  have l1 := h.lenG.1
  have l2 := h.lenG.2
  refine gval_mk (by omega) (by omega) ?_ ?_
  · intro n hn
    have hn : n ∈ quoN (unG s.b s.c).nodes (poN s) (poN s).length := hn
    rw [quoN_quo] at hn
    obtain ⟨i, hi, rfl⟩ := quo_mem hn
    exact gval_nodes hu _ (gt_mem (by omega))
  · intro e he
    have he : e ∈ quoE (unG s.b s.c).edges (qn (poN s)) (poE s) (poE s).length := he
    rw [quoE_quo] at he
    obtain ⟨i, hi, rfl⟩ := quo_mem he
    have hv := gval_edges hu _ (atE_mem (l := (unG s.b s.c).edges) (n := (i : Nat)) (by omega) (by omega))
    have k1 := h.qnode (v := (atE (unG s.b s.c).edges (i : Nat)).src.toNat) (by omega)
    have k2 := h.qnode (v := (atE (unG s.b s.c).edges (i : Nat)).dst.toNat) (by omega)
    simp only [mapE, gt_at0]
    omega
theorem PoOk.left (h : PoOk s) : mval s.b (poG s) (poL s) = 0 := by
  have hb := (uerr_ok h.u).1
  have hr1 : (rng 0 s.b.nodes.length).length = s.b.nodes.length := rng_len _ _
  have hr2 : (rng 0 s.b.edges.length).length = s.b.edges.length := rng_len _ _
  have hgt1 : ∀ j, j < s.b.nodes.length → gt (poL s).nodes j = gt (qn (poN s)) j := fun j hj => by
    unfold poL mthen un1 poQ quoM
    simp only
    rw [gt_map (by omega), gt_at0, gt_rng hj, Int.toNat_natCast]
  have hgt2 : ∀ j, j < s.b.edges.length → gt (poL s).edges j = gt (qn (poE s)) j := fun j hj => by
    unfold poL mthen un1 poQ quoM
    simp only
    rw [gt_map (by omega), gt_at0, gt_rng hj, Int.toNat_natCast]
  refine mval_mk hb h.gv (by simp [poL, mthen, un1, rng_len]) (by simp [poL, mthen, un1, rng_len]) ?_ ?_
  · intro j hj
    obtain ⟨k1, k2, k3⟩ := h.qnode (v := j) (by omega)
    rw [hgt1 j hj]
    exact ⟨k1, k2, by rw [k3, un_nodes_left hj]⟩
  · intro j hj
    obtain ⟨k1, k2, k3⟩ := h.qedge (v := j) (by omega)
    have hv := gval_edges hb _ (atE_mem (l := s.b.edges) (n := (j : Nat)) (by omega) (by omega))
    rw [hgt2 j hj, k3, un_edges_left hj]
    refine ⟨k1, k2, rfl, ?_, ?_⟩
    · rw [gt_at0, hgt1 _ (by omega)]; rfl
    · rw [gt_at0, hgt1 _ (by omega)]; rfl
theorem PoOk.right (h : PoOk s) : mval s.c (poG s) (poR s) = 0 := by
  have hb := (uerr_ok h.u).2.1
  have hr1 : (rng s.b.nodes.length s.c.nodes.length).length = s.c.nodes.length := rng_len _ _
  have hr2 : (rng s.b.edges.length s.c.edges.length).length = s.c.edges.length := rng_len _ _
  have hgt1 : ∀ j, j < s.c.nodes.length → gt (poR s).nodes j = gt (qn (poN s)) (s.b.nodes.length + j) := fun j hj => by
    unfold poR mthen un2 poQ quoM
    simp only
    rw [gt_map (by omega), gt_at0, gt_rngf hj, Int.toNat_natCast]
  have hgt2 : ∀ j, j < s.c.edges.length → gt (poR s).edges j = gt (qn (poE s)) (s.b.edges.length + j) := fun j hj => by
    unfold poR mthen un2 poQ quoM
    simp only
    rw [gt_map (by omega), gt_at0, gt_rngf hj, Int.toNat_natCast]
  refine mval_mk hb h.gv (by simp [poR, mthen, un2, rng_len]) (by simp [poR, mthen, un2, rng_len]) ?_ ?_
  · intro j hj
    obtain ⟨k1, k2, k3⟩ := h.qnode (v := s.b.nodes.length + j) (by omega)
    rw [hgt1 j hj]
    exact ⟨k1, k2, by rw [k3, un_nodes_right]⟩
  · intro j hj
    obtain ⟨k1, k2, k3⟩ := h.qedge (v := s.b.edges.length + j) (by omega)
    have hv := gval_edges hb _ (atE_mem (l := s.c.edges) (n := (j : Nat)) (by omega) (by omega))
    rw [hgt2 j hj, k3, un_edges_right hj]
    refine ⟨k1, k2, rfl, ?_, ?_⟩
    · rw [gt_at0, hgt1 _ (by omega)]; simp only [mapE, shE, gt_at0]; congr 1; omega
    · rw [gt_at0, hgt1 _ (by omega)]; simp only [mapE, shE, gt_at0]; congr 1; omega
end
section
variable {s : Span}
theorem PoInj.left (h : PoInj s) : (poL s).nodes.Nodup ∧ (poL s).edges.Nodup := by
  have hr1 : (rng 0 s.b.nodes.length).length = s.b.nodes.length := rng_len _ _
  have hr2 : (rng 0 s.b.edges.length).length = s.b.edges.length := rng_len _ _
  have l1 : (poL s).nodes.length = s.b.nodes.length := by simp [poL, mthen, un1, rng_len]
  have l2 : (poL s).edges.length = s.b.edges.length := by simp [poL, mthen, un1, rng_len]
  have lf := mval_ok h.ok.f
  have lg := mval_ok h.ok.g
  constructor
  · refine nodup_gt fun i j hi hj e => ?_
    have hgt1 : ∀ j, j < s.b.nodes.length → gt (poL s).nodes j = gt (qn (poN s)) j := fun j hj => by
      unfold poL mthen un1 poQ quoM
      simp only
      rw [gt_map (by omega), gt_at0, gt_rng hj, Int.toNat_natCast]
    rw [hgt1 _ (by omega), hgt1 _ (by omega)] at e
    obtain ⟨hp, hl⟩ := h.ok.pn
    have e := qn_inj hp (by omega) (by omega) e
    rw [poN, (un_len _ _).1] at e
    exact cls_left (mval_node h.ok.f) (mval_node h.ok.g) (by omega) h.g1 (by omega) (by omega) e
  · refine nodup_gt fun i j hi hj e => ?_
    have hgt1 : ∀ j, j < s.b.edges.length → gt (poL s).edges j = gt (qn (poE s)) j := fun j hj => by
      unfold poL mthen un1 poQ quoM
      simp only
      rw [gt_map (by omega), gt_at0, gt_rng hj, Int.toNat_natCast]
    rw [hgt1 _ (by omega), hgt1 _ (by omega)] at e
    obtain ⟨hp, hl⟩ := h.ok.pe
    have e := qn_inj hp (by omega) (by omega) e
    rw [poE, (un_len _ _).2] at e
    exact cls_left (mval_edge h.ok.f) (mval_edge h.ok.g) (by omega) h.g2 (by omega) (by omega) e
theorem PoInj.right (h : PoInj s) : (poR s).nodes.Nodup ∧ (poR s).edges.Nodup := by
  have hr1 : (rng s.b.nodes.length s.c.nodes.length).length = s.c.nodes.length := rng_len _ _
  have hr2 : (rng s.b.edges.length s.c.edges.length).length = s.c.edges.length := rng_len _ _
  have l1 : (poR s).nodes.length = s.c.nodes.length := by simp [poR, mthen, un2, rng_len]
  have l2 : (poR s).edges.length = s.c.edges.length := by simp [poR, mthen, un2, rng_len]
  have lf := mval_ok h.ok.f
  have lg := mval_ok h.ok.g
  constructor
  · refine nodup_gt fun i j hi hj e => ?_
    have hgt1 : ∀ j, j < s.c.nodes.length → gt (poR s).nodes j = gt (qn (poN s)) (s.b.nodes.length + j) := fun j hj => by
      unfold poR mthen un2 poQ quoM
      simp only
      rw [gt_map (by omega), gt_at0, gt_rngf hj, Int.toNat_natCast]
    rw [hgt1 _ (by omega), hgt1 _ (by omega)] at e
    obtain ⟨hp, hl⟩ := h.ok.pn
    have e := qn_inj hp (by omega) (by omega) e
    rw [poN, (un_len _ _).1] at e
    exact cls_right (mval_node h.ok.f) (mval_node h.ok.g) (by omega) h.f1 (by omega) (by omega) e
  · refine nodup_gt fun i j hi hj e => ?_
    have hgt1 : ∀ j, j < s.c.edges.length → gt (poR s).edges j = gt (qn (poE s)) (s.b.edges.length + j) := fun j hj => by
      unfold poR mthen un2 poQ quoM
      simp only
      rw [gt_map (by omega), gt_at0, gt_rngf hj, Int.toNat_natCast]
    rw [hgt1 _ (by omega), hgt1 _ (by omega)] at e
    obtain ⟨hp, hl⟩ := h.ok.pe
    have e := qn_inj hp (by omega) (by omega) e
    rw [poE, (un_len _ _).2] at e
    exact cls_right (mval_edge h.ok.f) (mval_edge h.ok.g) (by omega) h.f2 (by omega) (by omega) e
end
end Go.Av.Z

/- The plain law of one step of the transport. -/
namespace Go.Av.Z

/-- A span of a structural rule: left and right graph, what is kept, where it goes. -/
structure Inv (l r : Graph) (k i : Mor) : Prop where
  kp : pval l k = 0
  im : mval (ext l k) r i = 0
  n1 : i.nodes.Nodup
  n2 : i.edges.Nodup
def gmor (i m z : Mor) : Mor := ⟨(i.nodes.map (at0 m.nodes)).map (plc z.nodes), (i.edges.map (at0 m.edges)).map (plc z.edges)⟩
/-- What a step of the transport wants. -/
structure Stp (l r x : Graph) (k i m : Mor) : Prop where
  inv : Inv l r k i
  mm : mval r x m = 0
  m1 : m.nodes.Nodup
  m2 : m.edges.Nodup
def zOf (r x : Graph) (i m : Mor) : Mor := cpart r x (kpt i) m
def sOf (l r x : Graph) (k i m : Mor) : Span := ⟨ext l k, l, ext x (zOf r x i m), k, gmor i m (zOf r x i m)⟩
section
variable {l r x : Graph} {k i m : Mor}
theorem Stp.cmp (h : Stp l r x k i m) : Cmp r x (kpt i) m := ⟨h.mm, h.m1, h.m2, pval_img h.inv.im h.inv.n1 h.inv.n2⟩
end
section
variable {l r x : Graph} {k i m : Mor}
theorem Stp.z (h : Stp l r x k i m) (he : cerr r x (kpt i) m = 0) : pval x (zOf r x i m) = 0 := h.cmp.z he
theorem Stp.vn (h : Stp l r x k i m) (he : cerr r x (kpt i) m = 0) {j : Nat} (hj : j < i.nodes.length) : gt m.nodes (gt i.nodes j).toNat ∈ (zOf r x i m).nodes := by
  have hb := mval_node h.inv.im _ (gt_mem hj)
  exact h.cmp.kn he (by omega) (by rw [Int.toNat_of_nonneg hb.1]; exact srt_mem.2 (gt_mem hj))
theorem Stp.ve (h : Stp l r x k i m) (he : cerr r x (kpt i) m = 0) {j : Nat} (hj : j < i.edges.length) : gt m.edges (gt i.edges j).toNat ∈ (zOf r x i m).edges := by
  have hb := mval_edge h.inv.im _ (gt_mem hj)
  exact h.cmp.ke he (by omega) (by rw [Int.toNat_of_nonneg hb.1]; exact srt_mem.2 (gt_mem hj))
theorem Stp.gn (h : Stp l r x k i m) (he : cerr r x (kpt i) m = 0) {j : Nat} (hj : j < i.nodes.length) : gt (gmor i m (zOf r x i m)).nodes j = plc (zOf r x i m).nodes (gt m.nodes (gt i.nodes j).toNat) := by
  unfold gmor
  simp only
  rw [gt_map (by rw [List.length_map]; exact hj), gt_map hj]; rfl
theorem Stp.ge (h : Stp l r x k i m) (he : cerr r x (kpt i) m = 0) {j : Nat} (hj : j < i.edges.length) : gt (gmor i m (zOf r x i m)).edges j = plc (zOf r x i m).edges (gt m.edges (gt i.edges j).toNat) := by
  unfold gmor
  simp only
  rw [gt_map (by rw [List.length_map]; exact hj), gt_map hj]; rfl
theorem Stp.gval' (h : Stp l r x k i m) (he : cerr r x (kpt i) m = 0) : mval (ext l k) (ext x (zOf r x i m)) (gmor i m (zOf r x i m)) = 0 := by
  have hz := h.z he
  obtain ⟨zn, ze⟩ := pval_nd hz
  obtain ⟨h1, h2, l1, l2, _⟩ := mval_ok h.inv.im
  have lm := mval_ok h.mm
  obtain ⟨e1, e2⟩ := ext_len x (zOf r x i m)
  refine mval_mk h1 (gval_ext hz) (by simp [gmor]; exact l1) (by simp [gmor]; exact l2) ?_ ?_
  · intro j hj
    have hb := mval_node h.inv.im _ (gt_mem (by omega : j < i.nodes.length))
    obtain ⟨p1, p2, p3⟩ := plc_mem zn (h.vn he (j := j) (by omega))
    rw [h.gn he (by omega)]
    refine ⟨p1, by omega, ?_⟩
    rw [ext_node (by omega), p3, mval_nt h.mm (by omega), mval_nt h.inv.im hj]
  · intro j hj
    have hb := mval_edge h.inv.im _ (gt_mem (by omega : j < i.edges.length))
    obtain ⟨p1, p2, p3⟩ := plc_mem ze (h.ve he (j := j) (by omega))
    have hv := gval_edges h1 _ (atE_mem (l := (ext l k).edges) (n := (j : Nat)) (by omega) (by omega))
    have t1 := mval_et h.inv.im hj
    have t2 := mval_et h.mm (j := (gt i.edges j).toNat) (by omega)
    rw [Int.toNat_of_nonneg hb.1] at t2
    rw [h.ge he (by omega)]
    refine ⟨p1, by omega, ?_⟩
    have e3 : atE (ext x (zOf r x i m)).edges (plc (zOf r x i m).edges (gt m.edges (gt i.edges j).toNat)) = extE x (zOf r x i m) (gt m.edges (gt i.edges j).toNat) := by
      have := ext_edge (g := x) (p := zOf r x i m) (j := (plc (zOf r x i m).edges (gt m.edges (gt i.edges j).toNat)).toNat) (by omega)
      rw [Int.toNat_of_nonneg p1] at this
      rw [this, p3]
    rw [e3]
    simp only [extE]
    refine ⟨by rw [t1.1, t2.1], ?_, ?_⟩
    · rw [gt_at0, h.gn he (by omega), ← t2.2.1, ← t1.2.1]; rfl
    · rw [gt_at0, h.gn he (by omega), ← t2.2.2, ← t1.2.2]; rfl
theorem Stp.gnd (h : Stp l r x k i m) (he : cerr r x (kpt i) m = 0) : (gmor i m (zOf r x i m)).nodes.Nodup ∧ (gmor i m (zOf r x i m)).edges.Nodup := by
  have hz := h.z he
  obtain ⟨zn, ze⟩ := pval_nd hz
  have lm := mval_ok h.mm
  have g1 : (gmor i m (zOf r x i m)).nodes.length = i.nodes.length := by simp [gmor]
  have g2 : (gmor i m (zOf r x i m)).edges.length = i.edges.length := by simp [gmor]
  constructor
  · refine nodup_gt fun a b ha hb e => ?_
    rw [h.gn he (by omega), h.gn he (by omega)] at e
    obtain ⟨p1, p2, p3⟩ := plc_mem zn (h.vn he (j := a) (by omega))
    obtain ⟨q1, q2, q3⟩ := plc_mem zn (h.vn he (j := b) (by omega))
    rw [e, q3] at p3
    have b1 := mval_node h.inv.im _ (gt_mem (by omega : a < i.nodes.length))
    have b2 := mval_node h.inv.im _ (gt_mem (by omega : b < i.nodes.length))
    have := gt_inj h.m1 (by omega) (by omega) p3
    exact gt_inj h.inv.n1 (by omega) (by omega) (by omega)
  · refine nodup_gt fun a b ha hb e => ?_
    rw [h.ge he (by omega), h.ge he (by omega)] at e
    obtain ⟨p1, p2, p3⟩ := plc_mem ze (h.ve he (j := a) (by omega))
    obtain ⟨q1, q2, q3⟩ := plc_mem ze (h.ve he (j := b) (by omega))
    rw [e, q3] at p3
    have b1 := mval_edge h.inv.im _ (gt_mem (by omega : a < i.edges.length))
    have b2 := mval_edge h.inv.im _ (gt_mem (by omega : b < i.edges.length))
    have := gt_inj h.m2 (by omega) (by omega) p3
    exact gt_inj h.inv.n2 (by omega) (by omega) (by omega)
theorem Stp.spn (h : Stp l r x k i m) (he : cerr r x (kpt i) m = 0) : Z.spn (sOf l r x k i m) = 0 := by
  unfold Z.spn sOf
  simp only
  rw [if_neg (by simp [mval_incl h.inv.kp]), h.gval' he]
theorem Stp.po (h : Stp l r x k i m) (he : cerr r x (kpt i) m = 0) (hu : uerr l (ext x (zOf r x i m)) = 0) : PoInj (sOf l r x k i m) :=
  ⟨⟨mval_incl h.inv.kp, h.gval' he, hu⟩, (pval_nd h.inv.kp).1, (pval_nd h.inv.kp).2, (h.gnd he).1, (h.gnd he).2⟩
/-- The span of what lies inside. -/
theorem Stp.next (h : Stp l r x k i m) (he : cerr r x (kpt i) m = 0) (hu : uerr l (ext x (zOf r x i m)) = 0) : Inv (poG (sOf l r x k i m)) x (kpt (poR (sOf l r x k i m))) (kin (poR (sOf l r x k i m)) (zOf r x i m)) := by
  have hp := h.po he hu
  have hz := h.z he
  obtain ⟨zn, ze⟩ := pval_nd hz
  have hq := hp.ok.right
  obtain ⟨q1, q2⟩ := hp.right
  generalize poG (sOf l r x k i m) = y at *
  generalize poR (sOf l r x k i m) = q at *
  have hq : mval (ext x (zOf r x i m)) y q = 0 := hq
  generalize zOf r x i m = z at *
  have hx := (pval_ok hz).1
  have bz1 := (aval_ok (pval_ok hz).2.1).1
  have bz2 := (aval_ok (pval_ok hz).2.2.1).1
  obtain ⟨e1, e2⟩ := ext_len x z
  have lq := mval_ok hq
  have hpv := pval_img hq q1 q2
  have ly := ext_len y (kpt q)
  have kl1 : (kpt q).nodes.length = q.nodes.length := srt_len _
  have kl2 : (kpt q).edges.length = q.edges.length := srt_len _
  have il1 : (kin q z).nodes.length = q.nodes.length := by simp [kin, srt_len]
  have il2 : (kin q z).edges.length = q.edges.length := by simp [kin, srt_len]
  have gn : ∀ j, j < q.nodes.length → ∃ t, t < q.nodes.length ∧ gt (kpt q).nodes j = gt q.nodes t ∧ gt (kin q z).nodes j = gt z.nodes t ∧ plc q.nodes (gt (kpt q).nodes j) = t := by
    intro j hj
    have hm : gt (kpt q).nodes j ∈ q.nodes := srt_mem.1 (gt_mem (by omega : j < (kpt q).nodes.length))
    obtain ⟨p1, p2, p3⟩ := plc_mem q1 hm
    refine ⟨(plc q.nodes (gt (kpt q).nodes j)).toNat, by omega, p3.symm, ?_, by omega⟩
    show gt ((srt q.nodes).map (ledTo q.nodes z.nodes)) j = _
    rw [gt_map (by rw [srt_len]; exact hj)]; rfl
  have ge : ∀ j, j < q.edges.length → ∃ t, t < q.edges.length ∧ gt (kpt q).edges j = gt q.edges t ∧ gt (kin q z).edges j = gt z.edges t ∧ plc q.edges (gt (kpt q).edges j) = t := by
    intro j hj
    have hm : gt (kpt q).edges j ∈ q.edges := srt_mem.1 (gt_mem (by omega : j < (kpt q).edges.length))
    obtain ⟨p1, p2, p3⟩ := plc_mem q2 hm
    refine ⟨(plc q.edges (gt (kpt q).edges j)).toNat, by omega, p3.symm, ?_, by omega⟩
    show gt ((srt q.edges).map (ledTo q.edges z.edges)) j = _
    rw [gt_map (by rw [srt_len]; exact hj)]; rfl
  -- where the node q t of y goes
  have lead : ∀ t : Nat, t < q.nodes.length → at0 (kin q z).nodes (plc (kpt q).nodes (gt q.nodes t)) = gt z.nodes t := by
    intro t ht
    have hm : gt q.nodes t ∈ (kpt q).nodes := srt_mem.2 (gt_mem ht)
    obtain ⟨p1, p2, p3⟩ := plc_mem (pval_nd hpv).1 hm
    obtain ⟨t', ht', a1, a2, a3⟩ := gn (plc (kpt q).nodes (gt q.nodes t)).toNat (by omega)
    rw [gt_at0, a2]
    rw [p3] at a1
    rw [gt_inj q1 ht ht' a1]
  refine ⟨hpv, mval_mk (gval_ext hpv) hx (by omega) (by omega) ?_ ?_, ?_, ?_⟩
  · intro j hj
    obtain ⟨t, ht, a1, a2, a3⟩ := gn j (by omega)
    have hb := bz1 _ (gt_mem (by omega : t < z.nodes.length))
    rw [a2]
    refine ⟨hb.1, hb.2, ?_⟩
    rw [ext_node (by omega), a1, mval_nt hq (by omega), ext_node (by omega)]
  · intro j hj
    obtain ⟨t, ht, a1, a2, a3⟩ := ge j (by omega)
    have hb := bz2 _ (gt_mem (by omega : t < z.edges.length))
    have te := mval_et hq (j := t) (by omega)
    rw [ext_edge (by omega)] at te
    obtain ⟨m1, m2⟩ := pval_edge hz _ (gt_mem (by omega : t < z.edges.length))
    obtain ⟨s1, s2, s3⟩ := plc_mem zn m1
    obtain ⟨d1, d2, d3⟩ := plc_mem zn m2
    rw [ext_edge (by omega), a2, a1]
    simp only [extE] at te ⊢
    refine ⟨hb.1, hb.2, te.1.symm, ?_, ?_⟩
    · rw [← te.2.1, gt_at0 q.nodes, lead _ (by omega), s3]
    · rw [← te.2.2, gt_at0 q.nodes, lead _ (by omega), d3]
  · refine nodup_gt fun a b ha hb e => ?_
    obtain ⟨t, ht, a1, a2, a3⟩ := gn a (by omega)
    obtain ⟨t', ht', b1, b2, b3⟩ := gn b (by omega)
    rw [a2, b2] at e
    have := gt_inj zn (by omega) (by omega) e
    subst this
    exact gt_inj (pval_nd hpv).1 (by omega) (by omega) (by rw [a1, b1])
  · refine nodup_gt fun a b ha hb e => ?_
    obtain ⟨t, ht, a1, a2, a3⟩ := ge a (by omega)
    obtain ⟨t', ht', b1, b2, b3⟩ := ge b (by omega)
    rw [a2, b2] at e
    have := gt_inj ze (by omega) (by omega) e
    subst this
    exact gt_inj (pval_nd hpv).2 (by omega) (by omega) (by rw [a1, b1])
end
end Go.Av.Z

/- Transport to the left. -/
set_option maxHeartbeats 4000000
namespace Go.Av.Z
open Go.Proofs

mutual
/-- A condition over the right graph, transported to the left. -/
def trn (l r : Graph) (k i : Mor) : Cond → Cond × Int
  | .mk kind kids m p =>
    if (kind == 5) = true then
      (if cerr r p.graph (kpt i) m ≠ 0 then (cno, 0)
      else if poErr (sOf l r p.graph k i m) ≠ 0 then (.zero, poErr (sOf l r p.graph k i m))
      else trnK (poL (sOf l r p.graph k i m)) (poG (sOf l r p.graph k i m)) p.graph (kpt (poR (sOf l r p.graph k i m))) (kin (poR (sOf l r p.graph k i m)) (zOf r p.graph i m)) kids)
    else (if (trns l r k i kids).2 ≠ 0 then (.zero, (trns l r k i kids).2) else (.mk kind (trns l r k i kids).1 ⟨[], []⟩ ⟨⟨[], []⟩, [], 0, []⟩, 0))
def trns (l r : Graph) (k i : Mor) : List Cond → List Cond × Int
  | [] => ([], 0)
  | c :: rest => if (trn l r k i c).2 ≠ 0 then ([], (trn l r k i c).2) else ((trn l r k i c).1 :: (trns l r k i rest).1, (trns l r k i rest).2)
def trnK (p : Mor) (y x : Graph) (k i : Mor) : List Cond → Cond × Int
  | [] => (.zero, 0)
  | c :: _ => if (trn y x k i c).2 ≠ 0 then (.zero, (trn y x k i c).2) else (.mk 5 [(trn y x k i c).1] p ⟨y, [], 0, []⟩, 0)
end
theorem trns_errs (l r : Graph) (k i : Mor) : ∀ (cs : List Cond) (n : Nat), (trns l r k i cs).2 = errs (fun _ x => (trn l r k i x).2) n cs ∧ ((trns l r k i cs).2 = 0 → (trns l r k i cs).1 = cs.map fun x => (trn l r k i x).1)
  | [], n => by rw [trns]; exact ⟨rfl, fun _ => rfl⟩
  | c :: rest, n => by
    obtain ⟨h1, h2⟩ := trns_errs l r k i rest (n + 1)
    rw [trns, errs]
    by_cases h : (trn l r k i c).2 = 0
    · rw [if_neg (by simp [h]), if_pos h]
      exact ⟨h1, fun e => by rw [List.map_cons, h2 e]⟩
    · rw [if_pos h, if_neg h]
      exact ⟨rfl, fun e => absurd e h⟩
def eL (l r : Graph) (k i : Mor) (cs : List Cond) : Int := errs (fun _ x => (trn l r k i x).2) 0 cs
theorem trn_else (l r : Graph) (k i : Mor) (c : Cond) (h : (c.kind == 5) = false) : trn l r k i c = if eL l r k i c.kids ≠ 0 then (.zero, eL l r k i c.kids) else (.mk c.kind (c.kids.map fun x => (trn l r k i x).1) ⟨[], []⟩ ⟨⟨[], []⟩, [], 0, []⟩, 0) := by
  cases c with
  | mk kind kids m p =>
    have h : (kind == 5) = false := h
    obtain ⟨h1, h2⟩ := trns_errs l r k i kids 0
    have h1 : (trns l r k i kids).2 = eL l r k i kids := h1
    rw [trn, if_neg (by simp [h]), h1]
    show (if eL l r k i kids ≠ 0 then _ else _) = if eL l r k i kids ≠ 0 then _ else _
    by_cases e : eL l r k i kids = 0
    · rw [if_neg (by simp [e]), if_neg (by simp [e]), h2 (by rw [h1, e])]; rfl
    · rw [if_pos e, if_pos e]; rfl
theorem trn_five (l r : Graph) (k i : Mor) (c y : Cond) (h : (c.kind == 5) = true) (hk : c.kids = [y]) : trn l r k i c =
    if cerr r c.pat.graph (kpt i) c.map ≠ 0 then (cno, 0)
    else if poErr (sOf l r c.pat.graph k i c.map) ≠ 0 then (.zero, poErr (sOf l r c.pat.graph k i c.map))
    else if (trn (poG (sOf l r c.pat.graph k i c.map)) c.pat.graph (kpt (poR (sOf l r c.pat.graph k i c.map))) (kin (poR (sOf l r c.pat.graph k i c.map)) (zOf r c.pat.graph i c.map)) y).2 ≠ 0 then (.zero, (trn (poG (sOf l r c.pat.graph k i c.map)) c.pat.graph (kpt (poR (sOf l r c.pat.graph k i c.map))) (kin (poR (sOf l r c.pat.graph k i c.map)) (zOf r c.pat.graph i c.map)) y).2)
    else (.mk 5 [(trn (poG (sOf l r c.pat.graph k i c.map)) c.pat.graph (kpt (poR (sOf l r c.pat.graph k i c.map))) (kin (poR (sOf l r c.pat.graph k i c.map)) (zOf r c.pat.graph i c.map)) y).1] (poL (sOf l r c.pat.graph k i c.map)) ⟨poG (sOf l r c.pat.graph k i c.map), [], 0, []⟩, 0) := by
  cases c with
  | mk kind kids m p =>
    have h' : (kind == 5) = true := h
    have hk' : kids = [y] := hk
    rw [trn, if_pos h', hk', trnK]; rfl
/-- A valid condition over a graph, an Exists. -/
theorem ovr_five {r : Graph} {c : Cond} (h : ovr r c = 0) (h5 : (c.kind == 5) = true) : (∃ y, c.kids = [y] ∧ ovr c.pat.graph y = 0) ∧ mval r c.pat.graph c.map = 0 ∧ c.map.nodes.Nodup ∧ c.map.edges.Nodup := by
  rw [ovr_eq] at h
  split at h
  · exact absurd h ‹_›
  · rename_i h1
    have h1 := Classical.not_not.1 h1
    obtain ⟨y, hy⟩ := shp_five h1 h5
    try rw [if_pos h5] at h
    split at h
    · exact absurd h ‹_›
    · split at h
      · cases h
      · rename_i h2 h3
        have h3 : minj r c.pat.graph c.map = true := by simpa using h3
        rw [hy, ovrs, ovrs] at h
        refine ⟨⟨y, hy, ?_⟩, minj_ok h3⟩
        split at h
        · exact absurd h ‹_›
        · rename_i k; exact Classical.not_not.1 k
theorem ovr_else {r : Graph} {c : Cond} (h : ovr r c = 0) (h5 : (c.kind == 5) = false) : ∀ x ∈ c.kids, ovr r x = 0 := by
  rw [ovr_eq] at h
  split at h
  · exact absurd h ‹_›
  · rw [if_neg (by simp [h5]), ovrs_errs _ _ 0] at h
    intro x hx
    obtain ⟨j, hj⟩ := List.mem_iff_getElem?.1 hx
    exact errs_off h j x hj
theorem ovr_shp {r : Graph} {c : Cond} (h : ovr r c = 0) : shp c = 0 := by
  rw [ovr_eq] at h
  split at h
  · exact absurd h ‹_›
  · rename_i k; exact Classical.not_not.1 k
/-- No condition inside has too many kids. -/
def kb (c : Cond) : Prop := c.kids.length ≤ 1048576 ∧ ∀ x, ∀ _ : x ∈ c.kids, kb x
termination_by SizeOf.sizeOf c
decreasing_by exact kid_lt (by assumption)
theorem kb_iff (c : Cond) : kb c ↔ c.kids.length ≤ 1048576 ∧ ∀ x ∈ c.kids, kb x := by rw [kb]
theorem cnds_app (l : List Cond) (c : Cond) : cnds (l ++ [c]) = cnds l ++ [c.cs] := by
  rw [cnds_map, cnds_map, List.map_append, List.map_singleton, Cond.el_cs]
def trV (l r : Graph) (k i : Mor) (c : Cond) : AV := .tuple [(trn l r k i c).1.av, .int .i64 (trn l r k i c).2]
theorem stp_of {l r : Graph} {k i : Mor} (hi : Inv l r k i) {c : Cond} (h : ovr r c = 0) (h5 : (c.kind == 5) = true) : Stp l r c.pat.graph k i c.map := by
  obtain ⟨_, h1, h2, h3⟩ := ovr_five h h5
  exact ⟨hi, h1, h2, h3⟩
theorem inv_len {l r : Graph} {k i : Mor} (h : Inv l r k i) : i.nodes.length ≤ 40 ∧ i.edges.length ≤ 80 := by
  have := mval_len h.im; omega

theorem cnds_one (t : Cond) : cnds [t] = [t.cs] := by rw [cnds, cnds, Cond.el_cs]
theorem mkE (t : Cond) (p : Mor) (y : Graph) : (Cond.mk 5 [t] p ⟨y, [], 0, []⟩).av = .agg [.int .i64 5, .slice 9 [t.cs], .slice 1 (nums p.nodes), .slice 1 (nums p.edges), .slice 1 (nums y.nodes), .slice 3 (edgs y.edges), .slice 4 [], .int .i64 0, .slice 5 []] := by
  show AV.agg [.int .i64 5, .slice 9 (cnds [t]), .slice 1 (nums p.nodes), .slice 1 (nums p.edges), .slice 1 (nums y.nodes), .slice 3 (edgs y.edges), .slice 4 [], .int .i64 0, .slice 5 []] = _
  rw [cnds_one]
theorem m80 (l r : Graph) (k i : Mor) (c y : Cond) (hi : Inv l r k i) (ho : ovr r c = 0) (h5 : (c.kind == 5) = true) (hy : c.kids = [y])
    (ih : ∀ (l r : Graph) (k i : Mor), Inv l r k i → ovr r y = 0 → Con P 42 [] [.agg (glu l r k i), y.av] (trV l r k i y) []) : Con P 80 [] [.agg (glu l r k i), c.av] (trV l r k i c) [] := by
  obtain ⟨⟨y', hy', hoy⟩, hm, hm1, hm2⟩ := ovr_five ho h5
  rw [hy] at hy'
  obtain rfl : y = y' := by simpa using hy'
  have hy0 : c.kids[0]? = some y := by rw [hy]; rfl
  have hs := stp_of hi ho h5
  have li := inv_len hi
  have e5 := trn_five l r k i c y h5 hy
  unfold trV
  refine go Tryz.func80 (by rfl) rfl rfl rfl fun hl => ?_
  (conv => whnf); repeat (first | (refine w ?_; conv => whnf) | (refine ⟨fun h => absurd h Bool.false_ne_true, fun _ => ?_⟩; conv => whnf) | (refine ⟨fun _ => ?_, fun h => absurd h.symm Bool.false_ne_true⟩; conv => whnf))
  refine ⟨_, _, c115 i.nodes (by omega), ?_⟩
  (conv => whnf); repeat (first | (refine w ?_; conv => whnf) | (refine ⟨fun h => absurd h Bool.false_ne_true, fun _ => ?_⟩; conv => whnf) | (refine ⟨fun _ => ?_, fun h => absurd h.symm Bool.false_ne_true⟩; conv => whnf))
  refine ⟨_, _, c115 i.edges (by omega), ?_⟩
  (conv => whnf); repeat (first | (refine w ?_; conv => whnf) | (refine ⟨fun h => absurd h Bool.false_ne_true, fun _ => ?_⟩; conv => whnf) | (refine ⟨fun _ => ?_, fun h => absurd h.symm Bool.false_ne_true⟩; conv => whnf))
  refine ⟨_, _, c114 r c.pat.graph (kpt i) c.map, ?_⟩
  (conv => whnf); repeat (first | (refine w ?_; conv => whnf) | (refine ⟨fun h => absurd h Bool.false_ne_true, fun _ => ?_⟩; conv => whnf) | (refine ⟨fun _ => ?_, fun h => absurd h.symm Bool.false_ne_true⟩; conv => whnf))
  refine ⟨by kernel_rfl, ?_⟩
  (conv => whnf); repeat (first | (refine w ?_; conv => whnf) | (refine ⟨fun h => absurd h Bool.false_ne_true, fun _ => ?_⟩; conv => whnf) | (refine ⟨fun _ => ?_, fun h => absurd h.symm Bool.false_ne_true⟩; conv => whnf))
  refine ⟨fun h => ?_, fun h => ?_⟩
  · have h : cerr r c.pat.graph (kpt i) c.map ≠ 0 := by simpa using h
    rw [if_pos h] at e5
    (conv => whnf); repeat (first | (refine w ?_; conv => whnf) | (refine ⟨fun h => absurd h Bool.false_ne_true, fun _ => ?_⟩; conv => whnf) | (refine ⟨fun _ => ?_, fun h => absurd h.symm Bool.false_ne_true⟩; conv => whnf))
    refine ⟨_, _, c116, ?_⟩
    (conv => whnf); repeat (first | (refine w ?_; conv => whnf) | (refine ⟨fun h => absurd h Bool.false_ne_true, fun _ => ?_⟩; conv => whnf) | (refine ⟨fun _ => ?_, fun h => absurd h.symm Bool.false_ne_true⟩; conv => whnf))
    refine fin_frz TT ?_ rfl
    rw [e5]; rfl
  have he : cerr r c.pat.graph (kpt i) c.map = 0 := by simpa using h
  rw [if_neg (by simp [he])] at e5
  have hz := hs.z he
  have hzl := gval_len (gval_ext hz)
  have hmi := mval_ok hi.im
  have hmm := mval_ok hm
  have hnd := hs.gnd he
  (conv => whnf); repeat (first | (refine w ?_; conv => whnf) | (refine ⟨fun h => absurd h Bool.false_ne_true, fun _ => ?_⟩; conv => whnf) | (refine ⟨fun _ => ?_, fun h => absurd h.symm Bool.false_ne_true⟩; conv => whnf))
  refine ⟨_, _, c39 c.pat.graph (zOf r c.pat.graph i c.map) hz, ?_⟩
  (conv => whnf); repeat (first | (refine w ?_; conv => whnf) | (refine ⟨fun h => absurd h Bool.false_ne_true, fun _ => ?_⟩; conv => whnf) | (refine ⟨fun _ => ?_, fun h => absurd h.symm Bool.false_ne_true⟩; conv => whnf))
  refine ⟨_, _, c39 l k hi.kp, ?_⟩
  (conv => whnf); repeat (first | (refine w ?_; conv => whnf) | (refine ⟨fun h => absurd h Bool.false_ne_true, fun _ => ?_⟩; conv => whnf) | (refine ⟨fun _ => ?_, fun h => absurd h.symm Bool.false_ne_true⟩; conv => whnf))
  refine ⟨_, _, c118 c.map.nodes i.nodes (by omega) (fun v hv => by have := mval_node hi.im v hv; omega), ?_⟩
  (conv => whnf); repeat (first | (refine w ?_; conv => whnf) | (refine ⟨fun h => absurd h Bool.false_ne_true, fun _ => ?_⟩; conv => whnf) | (refine ⟨fun _ => ?_, fun h => absurd h.symm Bool.false_ne_true⟩; conv => whnf))
  refine ⟨_, _, c117 (zOf r c.pat.graph i c.map).nodes (i.nodes.map (at0 c.map.nodes)) (by rw [List.length_map]; omega), ?_⟩
  (conv => whnf); repeat (first | (refine w ?_; conv => whnf) | (refine ⟨fun h => absurd h Bool.false_ne_true, fun _ => ?_⟩; conv => whnf) | (refine ⟨fun _ => ?_, fun h => absurd h.symm Bool.false_ne_true⟩; conv => whnf))
  refine ⟨_, _, c118 c.map.edges i.edges (by omega) (fun v hv => by have := mval_edge hi.im v hv; omega), ?_⟩
  (conv => whnf); repeat (first | (refine w ?_; conv => whnf) | (refine ⟨fun h => absurd h Bool.false_ne_true, fun _ => ?_⟩; conv => whnf) | (refine ⟨fun _ => ?_, fun h => absurd h.symm Bool.false_ne_true⟩; conv => whnf))
  refine ⟨_, _, c117 (zOf r c.pat.graph i c.map).edges (i.edges.map (at0 c.map.edges)) (by rw [List.length_map]; omega), ?_⟩
  (conv => whnf); repeat (first | (refine w ?_; conv => whnf) | (refine ⟨fun h => absurd h Bool.false_ne_true, fun _ => ?_⟩; conv => whnf) | (refine ⟨fun _ => ?_, fun h => absurd h.symm Bool.false_ne_true⟩; conv => whnf))
  refine ⟨by kernel_rfl, ?_⟩
  (conv => whnf); repeat (first | (refine w ?_; conv => whnf) | (refine ⟨fun h => absurd h Bool.false_ne_true, fun _ => ?_⟩; conv => whnf) | (refine ⟨fun _ => ?_, fun h => absurd h.symm Bool.false_ne_true⟩; conv => whnf))
  refine ⟨_, _, c119 (sOf l r c.pat.graph k i c.map), ?_⟩
  by_cases hp : poErr (sOf l r c.pat.graph k i c.map) = 0
  · rw [if_neg (by simp [hp])] at e5
    have hu : uerr l (ext c.pat.graph (zOf r c.pat.graph i c.map)) = 0 := (poErr_ok hp).u
    have hn := hs.next he hu
    have hpo := hs.po he hu
    have hq := hpo.ok.right
    have lq := mval_len hq
    have nq := hpo.right
    rw [poV, if_pos hp]
    (conv => whnf); repeat (first | (refine w ?_; conv => whnf) | (refine ⟨fun h => absurd h Bool.false_ne_true, fun _ => ?_⟩; conv => whnf) | (refine ⟨fun _ => ?_, fun h => absurd h.symm Bool.false_ne_true⟩; conv => whnf))
    refine ⟨_, _, c115 (poR (sOf l r c.pat.graph k i c.map)).nodes (by omega), ?_⟩
    (conv => whnf); repeat (first | (refine w ?_; conv => whnf) | (refine ⟨fun h => absurd h Bool.false_ne_true, fun _ => ?_⟩; conv => whnf) | (refine ⟨fun _ => ?_, fun h => absurd h.symm Bool.false_ne_true⟩; conv => whnf))
    refine ⟨_, _, c115 (poR (sOf l r c.pat.graph k i c.map)).edges (by omega), ?_⟩
    (conv => whnf); repeat (first | (refine w ?_; conv => whnf) | (refine ⟨fun h => absurd h Bool.false_ne_true, fun _ => ?_⟩; conv => whnf) | (refine ⟨fun _ => ?_, fun h => absurd h.symm Bool.false_ne_true⟩; conv => whnf))
    refine ⟨by kernel_rfl, ?_⟩
    (conv => whnf); repeat (first | (refine w ?_; conv => whnf) | (refine ⟨fun h => absurd h Bool.false_ne_true, fun _ => ?_⟩; conv => whnf) | (refine ⟨fun _ => ?_, fun h => absurd h.symm Bool.false_ne_true⟩; conv => whnf))
    have lz := ext_len c.pat.graph (zOf r c.pat.graph i c.map)
    have lq2 : (poR (sOf l r c.pat.graph k i c.map)).nodes.length = (ext c.pat.graph (zOf r c.pat.graph i c.map)).nodes.length ∧ (poR (sOf l r c.pat.graph k i c.map)).edges.length = (ext c.pat.graph (zOf r c.pat.graph i c.map)).edges.length := ⟨(mval_ok hq).2.2.1, (mval_ok hq).2.2.2.1⟩
    refine ⟨_, _, c120 (srt (poR (sOf l r c.pat.graph k i c.map)).nodes) (poR (sOf l r c.pat.graph k i c.map)).nodes (zOf r c.pat.graph i c.map).nodes (by rw [srt_len]; omega) (fun v hv => by have := plc_mem nq.1 (srt_mem.1 hv); omega), ?_⟩
    (conv => whnf); repeat (first | (refine w ?_; conv => whnf) | (refine ⟨fun h => absurd h Bool.false_ne_true, fun _ => ?_⟩; conv => whnf) | (refine ⟨fun _ => ?_, fun h => absurd h.symm Bool.false_ne_true⟩; conv => whnf))
    refine ⟨_, _, c120 (srt (poR (sOf l r c.pat.graph k i c.map)).edges) (poR (sOf l r c.pat.graph k i c.map)).edges (zOf r c.pat.graph i c.map).edges (by rw [srt_len]; omega) (fun v hv => by have := plc_mem nq.2 (srt_mem.1 hv); omega), ?_⟩
    (conv => whnf); repeat (first | (refine w ?_; conv => whnf) | (refine ⟨fun h => absurd h Bool.false_ne_true, fun _ => ?_⟩; conv => whnf) | (refine ⟨fun _ => ?_, fun h => absurd h.symm Bool.false_ne_true⟩; conv => whnf))
    refine ⟨by kernel_rfl, ?_⟩
    (conv => whnf); repeat (first | (refine w ?_; conv => whnf) | (refine ⟨fun h => absurd h Bool.false_ne_true, fun _ => ?_⟩; conv => whnf) | (refine ⟨fun _ => ?_, fun h => absurd h.symm Bool.false_ne_true⟩; conv => whnf))
    refine ⟨by omega, _, cnds_at hy0, ?_⟩
    (conv => whnf); repeat (first | (refine w ?_; conv => whnf) | (refine ⟨fun h => absurd h Bool.false_ne_true, fun _ => ?_⟩; conv => whnf) | (refine ⟨fun _ => ?_, fun h => absurd h.symm Bool.false_ne_true⟩; conv => whnf))
    refine ⟨_, _, ih _ _ _ _ hn hoy, ?_⟩
    (conv => whnf); repeat (first | (refine w ?_; conv => whnf) | (refine ⟨fun h => absurd h Bool.false_ne_true, fun _ => ?_⟩; conv => whnf) | (refine ⟨fun _ => ?_, fun h => absurd h.symm Bool.false_ne_true⟩; conv => whnf))
    refine ⟨by kernel_rfl, ?_⟩
    (conv => whnf); repeat (first | (refine w ?_; conv => whnf) | (refine ⟨fun h => absurd h Bool.false_ne_true, fun _ => ?_⟩; conv => whnf) | (refine ⟨fun _ => ?_, fun h => absurd h.symm Bool.false_ne_true⟩; conv => whnf))
    refine ⟨fun h => ?_, fun h => ?_⟩
    · rw [if_pos (by simpa using h)] at e5
      (conv => whnf); repeat (first | (refine w ?_; conv => whnf) | (refine ⟨fun h => absurd h Bool.false_ne_true, fun _ => ?_⟩; conv => whnf) | (refine ⟨fun _ => ?_, fun h => absurd h.symm Bool.false_ne_true⟩; conv => whnf))
      refine fin_frz TT ?_ rfl
      rw [e5]; rfl
    · rw [if_neg (by simpa using h)] at e5
      (conv => whnf); repeat (first | (refine w ?_; conv => whnf) | (refine ⟨fun h => absurd h Bool.false_ne_true, fun _ => ?_⟩; conv => whnf) | (refine ⟨fun _ => ?_, fun h => absurd h.symm Bool.false_ne_true⟩; conv => whnf))
      refine fin_frz TT ?_ rfl
      rw [e5]
      show _ = AV.tuple [(Cond.mk 5 [_] _ ⟨_, [], 0, []⟩).av, .int .i64 0]
      rw [mkE]; rfl
  · rw [if_pos hp] at e5
    rw [poV, if_neg hp]
    (conv => whnf); repeat (first | (refine w ?_; conv => whnf) | (refine ⟨fun h => absurd h Bool.false_ne_true, fun _ => ?_⟩; conv => whnf) | (refine ⟨fun _ => ?_, fun h => absurd h.symm Bool.false_ne_true⟩; conv => whnf))
    refine ⟨fun _ => ?_, fun h => absurd h (by simpa using hp)⟩
    (conv => whnf); repeat (first | (refine w ?_; conv => whnf) | (refine ⟨fun h => absurd h Bool.false_ne_true, fun _ => ?_⟩; conv => whnf) | (refine ⟨fun _ => ?_, fun h => absurd h.symm Bool.false_ne_true⟩; conv => whnf))
    refine fin_frz TT ?_ rfl
    rw [e5]; rfl
end Go.Av.Z

/- Transport to the left, on. -/
set_option maxHeartbeats 4000000
namespace Go.Av.Z
open Go.Proofs

def trF (l r : Graph) (k i : Mor) (x : Cond) : Cond := (trn l r k i x).1
theorem m42 (l r : Graph) (k i : Mor) (c : Cond) (hi : Inv l r k i) (ho : ovr r c = 0) (hk : kb c)
    (ih : ∀ x ∈ c.kids, ∀ (l r : Graph) (k i : Mor), Inv l r k i → ovr r x = 0 → Con P 42 [] [.agg (glu l r k i), x.av] (trV l r k i x) []) : Con P 42 [] [.agg (glu l r k i), c.av] (trV l r k i c) [] := by
  have hkl := ((kb_iff c).1 hk).1
  by_cases h5 : (c.kind == 5) = true
  · obtain ⟨⟨y, hy, hoy⟩, _⟩ := ovr_five ho h5
    have c80 := m80 l r k i c y hi ho h5 hy (fun l r k i => ih y (by rw [hy]; exact List.mem_singleton.2 rfl) l r k i)
    unfold trV at c80 ⊢
    refine go Tryz.func42 (by rfl) rfl rfl rfl fun hl => ?_
    (conv => whnf); repeat (first | (refine w ?_; conv => whnf) | (refine ⟨fun h => absurd h Bool.false_ne_true, fun _ => ?_⟩; conv => whnf) | (refine ⟨fun _ => ?_, fun h => absurd h.symm Bool.false_ne_true⟩; conv => whnf))
    refine ⟨fun _ => ?_, fun h => absurd h (by rw [h5]; simp)⟩
    (conv => whnf); repeat (first | (refine w ?_; conv => whnf) | (refine ⟨fun h => absurd h Bool.false_ne_true, fun _ => ?_⟩; conv => whnf) | (refine ⟨fun _ => ?_, fun h => absurd h.symm Bool.false_ne_true⟩; conv => whnf))
    refine ⟨_, _, c80, ?_⟩
    (conv => whnf); repeat (first | (refine w ?_; conv => whnf) | (refine ⟨fun h => absurd h Bool.false_ne_true, fun _ => ?_⟩; conv => whnf) | (refine ⟨fun _ => ?_, fun h => absurd h.symm Bool.false_ne_true⟩; conv => whnf))
    refine fin_frz TT ?_ rfl
    rfl
  · have h5 : (c.kind == 5) = false := by simpa using h5
    have hok := ovr_else ho h5
    have e := trn_else l r k i c h5
    unfold trV
    refine go Tryz.func42 (by rfl) rfl rfl rfl fun hl => ?_
    (conv => whnf); repeat (first | (refine w ?_; conv => whnf) | (refine ⟨fun h => absurd h Bool.false_ne_true, fun _ => ?_⟩; conv => whnf) | (refine ⟨fun _ => ?_, fun h => absurd h.symm Bool.false_ne_true⟩; conv => whnf))
    refine ⟨fun h => absurd h (by rw [h5]; simp), fun _ => ?_⟩
    (conv => whnf); repeat (first | (refine w ?_; conv => whnf) | (refine ⟨fun h => absurd h Bool.false_ne_true, fun _ => ?_⟩; conv => whnf) | (refine ⟨fun _ => ?_, fun h => absurd h.symm Bool.false_ne_true⟩; conv => whnf))
    rw [cnds_len]
    refine loop (fun n : Nat => mkSt [(25, .int .i64 n), (24, .int .i64 c.kids.length), (23, .slice 9 (cnds c.kids)), (6, .bptr 10 0), (2, .bptr 0 0), (3, .bptr 1 0), (4, .bptr 2 0)] [.box 68 (glu l r k i), .box 35 c.cs, .box 35 [.int .i64 0, .ref 3, .ref 4, .ref 5, .ref 6, .ref 7, .ref 8, .int .i64 0, .ref 9], .row 35 9 [], .row 3 1 [], .row 3 1 [], .row 3 1 [], .row 109 3 [], .row 76 4 [], .row 78 5 [], .box 35 [.int .i64 c.kind, .ref 11, .ref 12, .ref 13, .ref 14, .ref 15, .ref 16, .int .i64 0, .ref 17], .row 35 9 (cnds ((c.kids.take n).map (trF l r k i))), .row 3 1 [], .row 3 1 [], .row 3 1 [], .row 109 3 [], .row 76 4 [], .row 78 5 []])
        (fun n => n ≤ c.kids.length ∧ ∀ j y, j < n → c.kids[j]? = some y → (trn l r k i y).2 = 0) (fun n => c.kids.length - n) 0 ⟨Nat.zero_le _, fun j y h => by omega⟩
      (le_of [0, 1, 2, 3, 4, 5, 6, 7, 8, 9, 10, 18, 19, 20, 21, 22, 23, 24] rfl rfl rfl ⟨rfl, rfl, rfl, rfl, rfl, rfl, rfl, trivial⟩ ⟨rfl, rfl, rfl, rfl, rfl, rfl, rfl, rfl, rfl, rfl, rfl, rfl, rfl, rfl, rfl, rfl, rfl, rfl, trivial⟩) ?_
    rintro n ⟨hn, hno⟩
    (conv => whnf); repeat (first | (refine w ?_; conv => whnf) | (refine ⟨fun h => absurd h Bool.false_ne_true, fun _ => ?_⟩; conv => whnf) | (refine ⟨fun _ => ?_, fun h => absurd h.symm Bool.false_ne_true⟩; conv => whnf))
    refine ⟨fun hlt => ?_, fun hge => ?_⟩
    · have hlt := of_lt hlt
      have hx : c.kids[n]? = some c.kids[n] := List.getElem?_eq_getElem hlt
      generalize c.kids[n] = x at hx
      have hm := List.mem_of_getElem? hx
      have c42 := ih x hm l r k i hi (hok x hm)
      unfold trV at c42
      (conv => whnf); repeat (first | (refine w ?_; conv => whnf) | (refine ⟨fun h => absurd h Bool.false_ne_true, fun _ => ?_⟩; conv => whnf) | (refine ⟨fun _ => ?_, fun h => absurd h.symm Bool.false_ne_true⟩; conv => whnf))
      refine ⟨by omega, _, cnds_at hx, ?_⟩
      (conv => whnf); repeat (first | (refine w ?_; conv => whnf) | (refine ⟨fun h => absurd h Bool.false_ne_true, fun _ => ?_⟩; conv => whnf) | (refine ⟨fun _ => ?_, fun h => absurd h.symm Bool.false_ne_true⟩; conv => whnf))
      refine ⟨_, _, c42, ?_⟩
      (conv => whnf); repeat (first | (refine w ?_; conv => whnf) | (refine ⟨fun h => absurd h Bool.false_ne_true, fun _ => ?_⟩; conv => whnf) | (refine ⟨fun _ => ?_, fun h => absurd h.symm Bool.false_ne_true⟩; conv => whnf))
      refine ⟨fun h => ?_, fun h => ?_⟩
      · have h : (trn l r k i x).2 ≠ 0 := by simpa using h
        have he : eL l r k i c.kids = (trn l r k i x).2 := errs_first (f := fun _ x => (trn l r k i x).2) hno hx h
        rw [if_pos (by rw [he]; exact h), he] at e
        (conv => whnf); repeat (first | (refine w ?_; conv => whnf) | (refine ⟨fun h => absurd h Bool.false_ne_true, fun _ => ?_⟩; conv => whnf) | (refine ⟨fun _ => ?_, fun h => absurd h.symm Bool.false_ne_true⟩; conv => whnf))
        refine fin_frz TT ?_ rfl
        rw [e]; rfl
      · have h : (trn l r k i x).2 = 0 := by simpa using h
        (conv => whnf); repeat (first | (refine w ?_; conv => whnf) | (refine ⟨fun h => absurd h Bool.false_ne_true, fun _ => ?_⟩; conv => whnf) | (refine ⟨fun _ => ?_, fun h => absurd h.symm Bool.false_ne_true⟩; conv => whnf))
        refine ⟨by rw [cnds_len, List.length_map, List.length_take]; show (_ + 1) * 184 ≤ _; omega, ?_⟩
        (conv => whnf); repeat (first | (refine w ?_; conv => whnf) | (refine ⟨fun h => absurd h Bool.false_ne_true, fun _ => ?_⟩; conv => whnf) | (refine ⟨fun _ => ?_, fun h => absurd h.symm Bool.false_ne_true⟩; conv => whnf))
        exact ⟨n + 1, ⟨hlt, zero_upto (f := fun _ x => (trn l r k i x).2) hno hx h⟩, by show c.kids.length - (n + 1) < c.kids.length - n; omega, le_of [0, 1, 2, 3, 4, 5, 6, 7, 8, 9, 10, 36, 12, 13, 14, 15, 16, 17] rfl rfl rfl ⟨step_num hlt (by omega), rfl, rfl, rfl, rfl, rfl, rfl, trivial⟩ ⟨rfl, rfl, rfl, rfl, rfl, rfl, rfl, rfl, rfl, rfl, rfl, by rw [take_map _ hx, cnds_app]; rfl, rfl, rfl, rfl, rfl, rfl, rfl, trivial⟩⟩
    · have hge := of_ge hge
      have he : eL l r k i c.kids = 0 := errs_all (f := fun _ x => (trn l r k i x).2) hno (by omega)
      rw [if_neg (by simp [he])] at e
      rw [take_of_all hge]
      (conv => whnf); repeat (first | (refine w ?_; conv => whnf) | (refine ⟨fun h => absurd h Bool.false_ne_true, fun _ => ?_⟩; conv => whnf) | (refine ⟨fun _ => ?_, fun h => absurd h.symm Bool.false_ne_true⟩; conv => whnf))
      refine fin_frz TT ?_ rfl
      rw [e]; rfl
theorem c42 (c : Cond) (hk : kb c) (l r : Graph) (k i : Mor) (hi : Inv l r k i) (ho : ovr r c = 0) : Con P 42 [] [.agg (glu l r k i), c.av] (trV l r k i c) [] :=
  m42 l r k i c hi ho hk fun x hx l r k i hi ho => c42 x (((kb_iff c).1 hk).2 x hx) l r k i hi ho
termination_by SizeOf.sizeOf c
decreasing_by exact kid_lt hx
end Go.Av.Z
