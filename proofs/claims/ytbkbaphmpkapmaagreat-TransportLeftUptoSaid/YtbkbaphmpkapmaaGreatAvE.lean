/- Part 5 of 7 of a proof: the logic Av, contracts of functions. -/
import Derived.Test.YtbkbaphmpkapmaaGreatAvD
set_option linter.unusedVariables false
set_option maxRecDepth 100000
/- Conditions over a graph: what is valid. -/
namespace Go.Av.Z
open Go.Proofs

mutual
/-- The first error of a condition and its kids over a graph. -/
def ovr (a : Graph) : Cond → Int
  | .mk k kids m p => if shp (.mk k kids m p) ≠ 0 then shp (.mk k kids m p) else if (k == 5) = true then (if mval a p.graph m ≠ 0 then mval a p.graph m else if minj a p.graph m = false then 1 else ovrs p.graph kids) else ovrs a kids
def ovrs (a : Graph) : List Cond → Int
  | [] => 0
  | c :: r => if ovr a c ≠ 0 then ovr a c else ovrs a r
end
theorem ovr_eq (a : Graph) (c : Cond) : ovr a c = if shp c ≠ 0 then shp c else if (c.kind == 5) = true then (if mval a c.pat.graph c.map ≠ 0 then mval a c.pat.graph c.map else if minj a c.pat.graph c.map = false then 1 else ovrs c.pat.graph c.kids) else ovrs a c.kids := by
  cases c; rw [ovr]; rfl
theorem ovrs_errs (a : Graph) : ∀ (l : List Cond) (n : Nat), ovrs a l = errs (fun _ x => ovr a x) n l
  | [], n => by rw [ovrs]; rfl
  | c :: r, n => by
    rw [ovrs, errs]
    by_cases h : ovr a c = 0
    · rw [if_neg (by simp [h]), if_pos h]; exact ovrs_errs a r (n + 1)
    · rw [if_pos h, if_neg h]

/-- The kids of a condition, over a graph. -/
theorem m72 (a : Graph) (c : Cond) (ih : ∀ a' : Graph, ∀ x ∈ c.kids, Con P 72 [] [a'.av, x.av] (.int .i64 (ovr a' x)) []) : Con P 72 [] [a.av, c.av] (.int .i64 (ovr a c)) [] := by
  refine go Tryz.func72 (by rfl) rfl rfl rfl fun hl => ?_
  have hn : c.kids.length ≤ 9223372036854775807 := by
    have := hl (cnds c.kids).length (by simp [lensL, lens, Cond.av, Cond.cs])
    rwa [cnds_len] at this
  (conv => whnf); repeat (first | (refine w ?_; conv => whnf) | (refine ⟨fun h => absurd h Bool.false_ne_true, fun _ => ?_⟩; conv => whnf) | (refine ⟨fun _ => ?_, fun h => absurd h.symm Bool.false_ne_true⟩; conv => whnf))
  refine ⟨_, _, c105 c, ?_⟩
  (conv => whnf); repeat (first | (refine w ?_; conv => whnf) | (refine ⟨fun h => absurd h Bool.false_ne_true, fun _ => ?_⟩; conv => whnf) | (refine ⟨fun _ => ?_, fun h => absurd h.symm Bool.false_ne_true⟩; conv => whnf))
  refine ⟨fun h => ?_, fun h => ?_⟩
  · (conv => whnf); repeat (first | (refine w ?_; conv => whnf) | (refine ⟨fun h => absurd h Bool.false_ne_true, fun _ => ?_⟩; conv => whnf) | (refine ⟨fun _ => ?_, fun h => absurd h.symm Bool.false_ne_true⟩; conv => whnf))
    refine fin_frz TT ?_ rfl
    rw [ovr_eq a c, if_pos (by simpa using h)]; rfl
  · have h1 : shp c = 0 := by simpa using h
    (conv => whnf); repeat (first | (refine w ?_; conv => whnf) | (refine ⟨fun h => absurd h Bool.false_ne_true, fun _ => ?_⟩; conv => whnf) | (refine ⟨fun _ => ?_, fun h => absurd h.symm Bool.false_ne_true⟩; conv => whnf))
    refine ⟨fun k5 => ?_, fun k5 => ?_⟩
    · (conv => whnf); repeat (first | (refine w ?_; conv => whnf) | (refine ⟨fun h => absurd h Bool.false_ne_true, fun _ => ?_⟩; conv => whnf) | (refine ⟨fun _ => ?_, fun h => absurd h.symm Bool.false_ne_true⟩; conv => whnf))
      refine ⟨_, _, c40 a c.pat.graph c.map, ?_⟩
      (conv => whnf); repeat (first | (refine w ?_; conv => whnf) | (refine ⟨fun h => absurd h Bool.false_ne_true, fun _ => ?_⟩; conv => whnf) | (refine ⟨fun _ => ?_, fun h => absurd h.symm Bool.false_ne_true⟩; conv => whnf))
      refine ⟨fun h => ?_, fun h => ?_⟩
      · (conv => whnf); repeat (first | (refine w ?_; conv => whnf) | (refine ⟨fun h => absurd h Bool.false_ne_true, fun _ => ?_⟩; conv => whnf) | (refine ⟨fun _ => ?_, fun h => absurd h.symm Bool.false_ne_true⟩; conv => whnf))
        refine fin_frz TT ?_ rfl
        rw [ovr_eq a c, if_neg (by simp [h1]), if_pos k5, if_pos (by simpa using h)]; rfl
      · have h2 : mval a c.pat.graph c.map = 0 := by simpa using h
        (conv => whnf); repeat (first | (refine w ?_; conv => whnf) | (refine ⟨fun h => absurd h Bool.false_ne_true, fun _ => ?_⟩; conv => whnf) | (refine ⟨fun _ => ?_, fun h => absurd h.symm Bool.false_ne_true⟩; conv => whnf))
        refine ⟨_, _, c41 a c.pat.graph c.map, ?_⟩
        (conv => whnf); repeat (first | (refine w ?_; conv => whnf) | (refine ⟨fun h => absurd h Bool.false_ne_true, fun _ => ?_⟩; conv => whnf) | (refine ⟨fun _ => ?_, fun h => absurd h.symm Bool.false_ne_true⟩; conv => whnf))
        refine ⟨fun h => ?_, fun h => ?_⟩
        · (conv => whnf); repeat (first | (refine w ?_; conv => whnf) | (refine ⟨fun h => absurd h Bool.false_ne_true, fun _ => ?_⟩; conv => whnf) | (refine ⟨fun _ => ?_, fun h => absurd h.symm Bool.false_ne_true⟩; conv => whnf))
          refine fin_frz TT ?_ rfl
          rw [ovr_eq a c, if_neg (by simp [h1]), if_pos k5, if_neg (by simp [h2]), if_pos (by simpa using h)]; rfl
        · have h3 : minj a c.pat.graph c.map = true := by simpa using h
          (conv => whnf); repeat (first | (refine w ?_; conv => whnf) | (refine ⟨fun h => absurd h Bool.false_ne_true, fun _ => ?_⟩; conv => whnf) | (refine ⟨fun _ => ?_, fun h => absurd h.symm Bool.false_ne_true⟩; conv => whnf))
          rw [cnds_len]
          refine loop (fun i : Nat => mkSt [(40, .int .i64 i), (39, .int .i64 c.kids.length), (38, .slice 9 (cnds c.kids)), (6, .bptr 0 0)] [.box 25 c.pat.graph.cs]) (fun i => i ≤ c.kids.length ∧ ∀ j y, j < i → c.kids[j]? = some y → ovr c.pat.graph y = 0) (fun i => c.kids.length - i) 0 ⟨Nat.zero_le _, fun j y h => by omega⟩
            (le_of [3] rfl rfl rfl ⟨rfl, rfl, rfl, rfl, trivial⟩ ⟨rfl, trivial⟩) ?_
          rintro i ⟨hi, hno⟩
          (conv => whnf); repeat (first | (refine w ?_; conv => whnf) | (refine ⟨fun h => absurd h Bool.false_ne_true, fun _ => ?_⟩; conv => whnf) | (refine ⟨fun _ => ?_, fun h => absurd h.symm Bool.false_ne_true⟩; conv => whnf))
          refine ⟨fun hlt => ?_, fun hge => ?_⟩
          · have hlt := of_lt hlt
            have hx : c.kids[i]? = some c.kids[i] := List.getElem?_eq_getElem hlt
            generalize c.kids[i] = x at hx
            (conv => whnf); repeat (first | (refine w ?_; conv => whnf) | (refine ⟨fun h => absurd h Bool.false_ne_true, fun _ => ?_⟩; conv => whnf) | (refine ⟨fun _ => ?_, fun h => absurd h.symm Bool.false_ne_true⟩; conv => whnf))
            refine ⟨by omega, _, cnds_at hx, ?_⟩
            (conv => whnf); repeat (first | (refine w ?_; conv => whnf) | (refine ⟨fun h => absurd h Bool.false_ne_true, fun _ => ?_⟩; conv => whnf) | (refine ⟨fun _ => ?_, fun h => absurd h.symm Bool.false_ne_true⟩; conv => whnf))
            refine ⟨_, _, ih c.pat.graph x (List.mem_of_getElem? hx), ?_⟩
            (conv => whnf); repeat (first | (refine w ?_; conv => whnf) | (refine ⟨fun h => absurd h Bool.false_ne_true, fun _ => ?_⟩; conv => whnf) | (refine ⟨fun _ => ?_, fun h => absurd h.symm Bool.false_ne_true⟩; conv => whnf))
            refine ⟨fun h => ?_, fun h => ?_⟩
            · (conv => whnf); repeat (first | (refine w ?_; conv => whnf) | (refine ⟨fun h => absurd h Bool.false_ne_true, fun _ => ?_⟩; conv => whnf) | (refine ⟨fun _ => ?_, fun h => absurd h.symm Bool.false_ne_true⟩; conv => whnf))
              refine fin_frz TT ?_ rfl
              rw [ovr_eq a c, if_neg (by simp [h1]), if_pos k5, if_neg (by simp [h2]), if_neg (by simp [h3]), ovrs_errs _ _ 0, errs_first (f := fun _ x => ovr c.pat.graph x) hno hx (by simpa using h)]; rfl
            · (conv => whnf); repeat (first | (refine w ?_; conv => whnf) | (refine ⟨fun h => absurd h Bool.false_ne_true, fun _ => ?_⟩; conv => whnf) | (refine ⟨fun _ => ?_, fun h => absurd h.symm Bool.false_ne_true⟩; conv => whnf))
              exact ⟨i + 1, ⟨hlt, zero_upto (f := fun _ x => ovr c.pat.graph x) hno hx (by simpa using h)⟩, by show c.kids.length - (i + 1) < c.kids.length - i; omega, le_of [0] rfl rfl rfl ⟨step_num hlt hn, rfl, rfl, rfl, trivial⟩ ⟨rfl, trivial⟩⟩
          · have hge := of_ge hge
            (conv => whnf); repeat (first | (refine w ?_; conv => whnf) | (refine ⟨fun h => absurd h Bool.false_ne_true, fun _ => ?_⟩; conv => whnf) | (refine ⟨fun _ => ?_, fun h => absurd h.symm Bool.false_ne_true⟩; conv => whnf))
            refine fin_frz TT ?_ rfl
            rw [ovr_eq a c, if_neg (by simp [h1]), if_pos k5, if_neg (by simp [h2]), if_neg (by simp [h3]), ovrs_errs _ _ 0, errs_all (f := fun _ x => ovr c.pat.graph x) hno (by omega)]; rfl
    · (conv => whnf); repeat (first | (refine w ?_; conv => whnf) | (refine ⟨fun h => absurd h Bool.false_ne_true, fun _ => ?_⟩; conv => whnf) | (refine ⟨fun _ => ?_, fun h => absurd h.symm Bool.false_ne_true⟩; conv => whnf))
      rw [cnds_len]
      refine loop (fun i : Nat => mkSt [(40, .int .i64 i), (39, .int .i64 c.kids.length), (38, .slice 9 (cnds c.kids)), (6, .bptr 0 0)] [.box 25 a.cs]) (fun i => i ≤ c.kids.length ∧ ∀ j y, j < i → c.kids[j]? = some y → ovr a y = 0) (fun i => c.kids.length - i) 0 ⟨Nat.zero_le _, fun j y h => by omega⟩
        (le_of [3] rfl rfl rfl ⟨rfl, rfl, rfl, rfl, trivial⟩ ⟨rfl, trivial⟩) ?_
      rintro i ⟨hi, hno⟩
      (conv => whnf); repeat (first | (refine w ?_; conv => whnf) | (refine ⟨fun h => absurd h Bool.false_ne_true, fun _ => ?_⟩; conv => whnf) | (refine ⟨fun _ => ?_, fun h => absurd h.symm Bool.false_ne_true⟩; conv => whnf))
      refine ⟨fun hlt => ?_, fun hge => ?_⟩
      · have hlt := of_lt hlt
        have hx : c.kids[i]? = some c.kids[i] := List.getElem?_eq_getElem hlt
        generalize c.kids[i] = x at hx
        (conv => whnf); repeat (first | (refine w ?_; conv => whnf) | (refine ⟨fun h => absurd h Bool.false_ne_true, fun _ => ?_⟩; conv => whnf) | (refine ⟨fun _ => ?_, fun h => absurd h.symm Bool.false_ne_true⟩; conv => whnf))
        refine ⟨by omega, _, cnds_at hx, ?_⟩
        (conv => whnf); repeat (first | (refine w ?_; conv => whnf) | (refine ⟨fun h => absurd h Bool.false_ne_true, fun _ => ?_⟩; conv => whnf) | (refine ⟨fun _ => ?_, fun h => absurd h.symm Bool.false_ne_true⟩; conv => whnf))
        refine ⟨_, _, ih a x (List.mem_of_getElem? hx), ?_⟩
        (conv => whnf); repeat (first | (refine w ?_; conv => whnf) | (refine ⟨fun h => absurd h Bool.false_ne_true, fun _ => ?_⟩; conv => whnf) | (refine ⟨fun _ => ?_, fun h => absurd h.symm Bool.false_ne_true⟩; conv => whnf))
        refine ⟨fun h => ?_, fun h => ?_⟩
        · (conv => whnf); repeat (first | (refine w ?_; conv => whnf) | (refine ⟨fun h => absurd h Bool.false_ne_true, fun _ => ?_⟩; conv => whnf) | (refine ⟨fun _ => ?_, fun h => absurd h.symm Bool.false_ne_true⟩; conv => whnf))
          refine fin_frz TT ?_ rfl
          rw [ovr_eq a c, if_neg (by simp [h1]), if_neg (by simpa using k5), ovrs_errs _ _ 0, errs_first (f := fun _ x => ovr a x) hno hx (by simpa using h)]; rfl
        · (conv => whnf); repeat (first | (refine w ?_; conv => whnf) | (refine ⟨fun h => absurd h Bool.false_ne_true, fun _ => ?_⟩; conv => whnf) | (refine ⟨fun _ => ?_, fun h => absurd h.symm Bool.false_ne_true⟩; conv => whnf))
          exact ⟨i + 1, ⟨hlt, zero_upto (f := fun _ x => ovr a x) hno hx (by simpa using h)⟩, by show c.kids.length - (i + 1) < c.kids.length - i; omega, le_of [0] rfl rfl rfl ⟨step_num hlt hn, rfl, rfl, rfl, trivial⟩ ⟨rfl, trivial⟩⟩
      · have hge := of_ge hge
        (conv => whnf); repeat (first | (refine w ?_; conv => whnf) | (refine ⟨fun h => absurd h Bool.false_ne_true, fun _ => ?_⟩; conv => whnf) | (refine ⟨fun _ => ?_, fun h => absurd h.symm Bool.false_ne_true⟩; conv => whnf))
        refine fin_frz TT ?_ rfl
        rw [ovr_eq a c, if_neg (by simp [h1]), if_neg (by simpa using k5), ovrs_errs _ _ 0, errs_all (f := fun _ x => ovr a x) hno (by omega)]; rfl
theorem c72 (a : Graph) (c : Cond) : Con P 72 [] [a.av, c.av] (.int .i64 (ovr a c)) [] := m72 a c fun a' x hx => c72 a' x
termination_by SizeOf.sizeOf c
decreasing_by exact kid_lt hx
/-- The error of a condition over a graph. -/
def cval (a : Graph) (c : Cond) : Int := if gval a ≠ 0 then gval a else if ovr a c ≠ 0 then ovr a c else lrg c
theorem c34 (a : Graph) (c : Cond) : Con P 34 [] [a.av, c.av] (.int .i64 (cval a c)) [] := by
  refine go Tryz.func34 (by rfl) rfl rfl rfl fun hl => ?_
  (conv => whnf); repeat (first | (refine w ?_; conv => whnf) | (refine ⟨fun h => absurd h Bool.false_ne_true, fun _ => ?_⟩; conv => whnf) | (refine ⟨fun _ => ?_, fun h => absurd h.symm Bool.false_ne_true⟩; conv => whnf))
  refine ⟨_, _, c31 a, ?_⟩
  (conv => whnf); repeat (first | (refine w ?_; conv => whnf) | (refine ⟨fun h => absurd h Bool.false_ne_true, fun _ => ?_⟩; conv => whnf) | (refine ⟨fun _ => ?_, fun h => absurd h.symm Bool.false_ne_true⟩; conv => whnf))
  refine ⟨fun h => ?_, fun h => ?_⟩
  · (conv => whnf); repeat (first | (refine w ?_; conv => whnf) | (refine ⟨fun h => absurd h Bool.false_ne_true, fun _ => ?_⟩; conv => whnf) | (refine ⟨fun _ => ?_, fun h => absurd h.symm Bool.false_ne_true⟩; conv => whnf))
    refine fin_frz TT ?_ rfl
    rw [cval, if_pos (by simpa using h)]; rfl
  · (conv => whnf); repeat (first | (refine w ?_; conv => whnf) | (refine ⟨fun h => absurd h Bool.false_ne_true, fun _ => ?_⟩; conv => whnf) | (refine ⟨fun _ => ?_, fun h => absurd h.symm Bool.false_ne_true⟩; conv => whnf))
    refine ⟨_, _, c72 a c, ?_⟩
    (conv => whnf); repeat (first | (refine w ?_; conv => whnf) | (refine ⟨fun h => absurd h Bool.false_ne_true, fun _ => ?_⟩; conv => whnf) | (refine ⟨fun _ => ?_, fun h => absurd h.symm Bool.false_ne_true⟩; conv => whnf))
    refine ⟨fun h2 => ?_, fun h2 => ?_⟩
    · (conv => whnf); repeat (first | (refine w ?_; conv => whnf) | (refine ⟨fun h => absurd h Bool.false_ne_true, fun _ => ?_⟩; conv => whnf) | (refine ⟨fun _ => ?_, fun h => absurd h.symm Bool.false_ne_true⟩; conv => whnf))
      refine fin_frz TT ?_ rfl
      rw [cval, if_neg (by simpa using h), if_pos (by simpa using h2)]; rfl
    · (conv => whnf); repeat (first | (refine w ?_; conv => whnf) | (refine ⟨fun h => absurd h Bool.false_ne_true, fun _ => ?_⟩; conv => whnf) | (refine ⟨fun _ => ?_, fun h => absurd h.symm Bool.false_ne_true⟩; conv => whnf))
      refine ⟨_, _, c73 c, ?_⟩
      (conv => whnf); repeat (first | (refine w ?_; conv => whnf) | (refine ⟨fun h => absurd h Bool.false_ne_true, fun _ => ?_⟩; conv => whnf) | (refine ⟨fun _ => ?_, fun h => absurd h.symm Bool.false_ne_true⟩; conv => whnf))
      refine fin_frz TT ?_ rfl
      rw [cval, if_neg (by simpa using h), if_neg (by simpa using h2)]; rfl
end Go.Av.Z

/- The guards: what is few, what is light. -/
namespace Go.Av.Z
open Go.Proofs

def fewB (g : Graph) : Bool := decide ((g.nodes.length : Int) ≤ 45) && decide ((g.edges.length : Int) ≤ 90)
theorem c13 (g : Graph) : Con P 13 [] [g.av] (.bool (fewB g)) [] := by
  refine go Tryz.func13 (by rfl) rfl rfl rfl fun hl => ?_
  (conv => whnf); repeat (first | (refine w ?_; conv => whnf) | (refine ⟨fun h => absurd h Bool.false_ne_true, fun _ => ?_⟩; conv => whnf) | (refine ⟨fun _ => ?_, fun h => absurd h.symm Bool.false_ne_true⟩; conv => whnf))
  rw [nums_len]
  refine ⟨fun h => ?_, fun h => ?_⟩
  · (conv => whnf); repeat (first | (refine w ?_; conv => whnf) | (refine ⟨fun h => absurd h Bool.false_ne_true, fun _ => ?_⟩; conv => whnf) | (refine ⟨fun _ => ?_, fun h => absurd h.symm Bool.false_ne_true⟩; conv => whnf))
    refine fin_frz TT ?_ rfl
    rw [fewB, h, edgs_len]; rfl
  · (conv => whnf); repeat (first | (refine w ?_; conv => whnf) | (refine ⟨fun h => absurd h Bool.false_ne_true, fun _ => ?_⟩; conv => whnf) | (refine ⟨fun _ => ?_, fun h => absurd h.symm Bool.false_ne_true⟩; conv => whnf))
    refine fin_frz TT ?_ rfl
    rw [fewB, h]; rfl
def fewM (m : Mor) (n : Int) : Bool := decide (IntKind.i64.wrap ((m.nodes.length : Int) + (m.edges.length : Int)) ≤ n)
theorem c14 (m : Mor) (n : Int) : Con P 14 [] [m.av, .int .i64 n] (.bool (fewM m n)) [] := by
  refine go Tryz.func14 (by rfl) rfl rfl rfl fun hl => ?_
  (conv => whnf); repeat (first | (refine w ?_; conv => whnf) | (refine ⟨fun h => absurd h Bool.false_ne_true, fun _ => ?_⟩; conv => whnf) | (refine ⟨fun _ => ?_, fun h => absurd h.symm Bool.false_ne_true⟩; conv => whnf))
  refine fin_frz TT ?_ rfl
  rw [nums_len, nums_len]; rfl
theorem c15 (m : Mor) (n : Int) : Con P 15 [] [m.av, .int .i64 n] (.bool (fewM m n)) [] := by
  refine go Tryz.func15 (by rfl) rfl rfl rfl fun hl => ?_
  (conv => whnf); repeat (first | (refine w ?_; conv => whnf) | (refine ⟨fun h => absurd h Bool.false_ne_true, fun _ => ?_⟩; conv => whnf) | (refine ⟨fun _ => ?_, fun h => absurd h.symm Bool.false_ne_true⟩; conv => whnf))
  refine fin_frz TT ?_ rfl
  rw [nums_len, nums_len]; rfl
def fewR (r : Rule) : Bool := fewB r.left.graph && (fewB r.right.graph && (fewM r.keep 140 && fewM r.into 140))
theorem c5 (r : Rule) : Con P 5 [] [r.av] (.bool (fewR r)) [] := by
  refine go Tryz.func5 (by rfl) rfl rfl rfl fun hl => ?_
  (conv => whnf); repeat (first | (refine w ?_; conv => whnf) | (refine ⟨fun h => absurd h Bool.false_ne_true, fun _ => ?_⟩; conv => whnf) | (refine ⟨fun _ => ?_, fun h => absurd h.symm Bool.false_ne_true⟩; conv => whnf))
  refine ⟨_, _, c13 r.left.graph, ?_⟩
  (conv => whnf); repeat (first | (refine w ?_; conv => whnf) | (refine ⟨fun h => absurd h Bool.false_ne_true, fun _ => ?_⟩; conv => whnf) | (refine ⟨fun _ => ?_, fun h => absurd h.symm Bool.false_ne_true⟩; conv => whnf))
  refine ⟨fun h1 => ?_, fun h1 => ?_⟩
  · (conv => whnf); repeat (first | (refine w ?_; conv => whnf) | (refine ⟨fun h => absurd h Bool.false_ne_true, fun _ => ?_⟩; conv => whnf) | (refine ⟨fun _ => ?_, fun h => absurd h.symm Bool.false_ne_true⟩; conv => whnf))
    refine ⟨_, _, c13 r.right.graph, ?_⟩
    (conv => whnf); repeat (first | (refine w ?_; conv => whnf) | (refine ⟨fun h => absurd h Bool.false_ne_true, fun _ => ?_⟩; conv => whnf) | (refine ⟨fun _ => ?_, fun h => absurd h.symm Bool.false_ne_true⟩; conv => whnf))
    refine ⟨fun h2 => ?_, fun h2 => ?_⟩
    · (conv => whnf); repeat (first | (refine w ?_; conv => whnf) | (refine ⟨fun h => absurd h Bool.false_ne_true, fun _ => ?_⟩; conv => whnf) | (refine ⟨fun _ => ?_, fun h => absurd h.symm Bool.false_ne_true⟩; conv => whnf))
      refine ⟨_, _, c14 r.keep 140, ?_⟩
      (conv => whnf); repeat (first | (refine w ?_; conv => whnf) | (refine ⟨fun h => absurd h Bool.false_ne_true, fun _ => ?_⟩; conv => whnf) | (refine ⟨fun _ => ?_, fun h => absurd h.symm Bool.false_ne_true⟩; conv => whnf))
      refine ⟨fun h3 => ?_, fun h3 => ?_⟩
      · (conv => whnf); repeat (first | (refine w ?_; conv => whnf) | (refine ⟨fun h => absurd h Bool.false_ne_true, fun _ => ?_⟩; conv => whnf) | (refine ⟨fun _ => ?_, fun h => absurd h.symm Bool.false_ne_true⟩; conv => whnf))
        refine ⟨_, _, c15 r.into 140, ?_⟩
        (conv => whnf); repeat (first | (refine w ?_; conv => whnf) | (refine ⟨fun h => absurd h Bool.false_ne_true, fun _ => ?_⟩; conv => whnf) | (refine ⟨fun _ => ?_, fun h => absurd h.symm Bool.false_ne_true⟩; conv => whnf))
        refine fin_frz TT ?_ rfl
        rw [fewR, h1, h2, h3]; rfl
      · (conv => whnf); repeat (first | (refine w ?_; conv => whnf) | (refine ⟨fun h => absurd h Bool.false_ne_true, fun _ => ?_⟩; conv => whnf) | (refine ⟨fun _ => ?_, fun h => absurd h.symm Bool.false_ne_true⟩; conv => whnf))
        refine fin_frz TT ?_ rfl
        rw [fewR, h1, h2, h3]; rfl
    · (conv => whnf); repeat (first | (refine w ?_; conv => whnf) | (refine ⟨fun h => absurd h Bool.false_ne_true, fun _ => ?_⟩; conv => whnf) | (refine ⟨fun _ => ?_, fun h => absurd h.symm Bool.false_ne_true⟩; conv => whnf))
      refine fin_frz TT ?_ rfl
      rw [fewR, h1, h2]; rfl
  · (conv => whnf); repeat (first | (refine w ?_; conv => whnf) | (refine ⟨fun h => absurd h Bool.false_ne_true, fun _ => ?_⟩; conv => whnf) | (refine ⟨fun _ => ?_, fun h => absurd h.symm Bool.false_ne_true⟩; conv => whnf))
    refine fin_frz TT ?_ rfl
    rw [fewR, h1]; rfl
/-- The lists of a condition, without its kids', are short. -/
def fitOne (n e : Int) (c : Cond) : Bool := !(decide (n < (c.pat.graph.nodes.length : Int)) || (decide (e < (c.pat.graph.edges.length : Int)) || (decide ((100 : Int) < c.map.nodes.length) || (decide ((100 : Int) < c.map.edges.length) || (decide ((20 : Int) < c.pat.slots.length) || decide ((20 : Int) < c.pat.tests.length))))))
mutual
def fitB (n e : Int) : Cond → Bool
  | .mk k kids m p => fitOne n e (.mk k kids m p) && fitBs n e kids
def fitBs (n e : Int) : List Cond → Bool
  | [] => true
  | c :: r => fitB n e c && fitBs n e r
end
theorem fitB_eq (n e : Int) (c : Cond) : fitB n e c = (fitOne n e c && fitBs n e c.kids) := by cases c; rw [fitB]; rfl
theorem fitBs_all (n e : Int) : ∀ l : List Cond, fitBs n e l = l.all (fitB n e)
  | [] => by rw [fitBs]; rfl
  | c :: r => by rw [fitBs, fitBs_all n e r]; rfl
theorem m17 (n e : Int) (c : Cond) (ih : ∀ x ∈ c.kids, Con P 17 [] [x.av, .int .i64 n, .int .i64 e] (.bool (fitB n e x)) []) : Con P 17 [] [c.av, .int .i64 n, .int .i64 e] (.bool (fitB n e c)) [] := by
  refine go Tryz.func17 (by rfl) rfl rfl rfl fun hl => ?_
  have hn : c.kids.length ≤ 9223372036854775807 := by
    have := hl (cnds c.kids).length (by simp [lensL, lens, Cond.av, Cond.cs])
    rwa [cnds_len] at this
  (conv => whnf); repeat (first | (refine w ?_; conv => whnf) | (refine ⟨fun h => absurd h Bool.false_ne_true, fun _ => ?_⟩; conv => whnf) | (refine ⟨fun _ => ?_, fun h => absurd h.symm Bool.false_ne_true⟩; conv => whnf))
  rw [nums_len]
  refine ⟨fun h1 => ?_, fun h1 => ?_⟩
  · (conv => whnf); repeat (first | (refine w ?_; conv => whnf) | (refine ⟨fun h => absurd h Bool.false_ne_true, fun _ => ?_⟩; conv => whnf) | (refine ⟨fun _ => ?_, fun h => absurd h.symm Bool.false_ne_true⟩; conv => whnf))
    refine fin_frz TT ?_ rfl
    rw [fitB_eq n e c, fitOne, h1]; rfl
  (conv => whnf); repeat (first | (refine w ?_; conv => whnf) | (refine ⟨fun h => absurd h Bool.false_ne_true, fun _ => ?_⟩; conv => whnf) | (refine ⟨fun _ => ?_, fun h => absurd h.symm Bool.false_ne_true⟩; conv => whnf))
  rw [edgs_len]
  refine ⟨fun h2 => ?_, fun h2 => ?_⟩
  · (conv => whnf); repeat (first | (refine w ?_; conv => whnf) | (refine ⟨fun h => absurd h Bool.false_ne_true, fun _ => ?_⟩; conv => whnf) | (refine ⟨fun _ => ?_, fun h => absurd h.symm Bool.false_ne_true⟩; conv => whnf))
    refine fin_frz TT ?_ rfl
    rw [fitB_eq n e c, fitOne, h1, h2]; rfl
  (conv => whnf); repeat (first | (refine w ?_; conv => whnf) | (refine ⟨fun h => absurd h Bool.false_ne_true, fun _ => ?_⟩; conv => whnf) | (refine ⟨fun _ => ?_, fun h => absurd h.symm Bool.false_ne_true⟩; conv => whnf))
  rw [nums_len]
  refine ⟨fun h3 => ?_, fun h3 => ?_⟩
  · (conv => whnf); repeat (first | (refine w ?_; conv => whnf) | (refine ⟨fun h => absurd h Bool.false_ne_true, fun _ => ?_⟩; conv => whnf) | (refine ⟨fun _ => ?_, fun h => absurd h.symm Bool.false_ne_true⟩; conv => whnf))
    refine fin_frz TT ?_ rfl
    rw [fitB_eq n e c, fitOne, h1, h2, h3]; rfl
  (conv => whnf); repeat (first | (refine w ?_; conv => whnf) | (refine ⟨fun h => absurd h Bool.false_ne_true, fun _ => ?_⟩; conv => whnf) | (refine ⟨fun _ => ?_, fun h => absurd h.symm Bool.false_ne_true⟩; conv => whnf))
  rw [nums_len]
  refine ⟨fun h4 => ?_, fun h4 => ?_⟩
  · (conv => whnf); repeat (first | (refine w ?_; conv => whnf) | (refine ⟨fun h => absurd h Bool.false_ne_true, fun _ => ?_⟩; conv => whnf) | (refine ⟨fun _ => ?_, fun h => absurd h.symm Bool.false_ne_true⟩; conv => whnf))
    refine fin_frz TT ?_ rfl
    rw [fitB_eq n e c, fitOne, h1, h2, h3, h4]; rfl
  (conv => whnf); repeat (first | (refine w ?_; conv => whnf) | (refine ⟨fun h => absurd h Bool.false_ne_true, fun _ => ?_⟩; conv => whnf) | (refine ⟨fun _ => ?_, fun h => absurd h.symm Bool.false_ne_true⟩; conv => whnf))
  rw [slts_len]
  refine ⟨fun h5 => ?_, fun h5 => ?_⟩
  · (conv => whnf); repeat (first | (refine w ?_; conv => whnf) | (refine ⟨fun h => absurd h Bool.false_ne_true, fun _ => ?_⟩; conv => whnf) | (refine ⟨fun _ => ?_, fun h => absurd h.symm Bool.false_ne_true⟩; conv => whnf))
    refine fin_frz TT ?_ rfl
    rw [fitB_eq n e c, fitOne, h1, h2, h3, h4, h5]; rfl
  (conv => whnf); repeat (first | (refine w ?_; conv => whnf) | (refine ⟨fun h => absurd h Bool.false_ne_true, fun _ => ?_⟩; conv => whnf) | (refine ⟨fun _ => ?_, fun h => absurd h.symm Bool.false_ne_true⟩; conv => whnf))
  rw [tsts_len]
  refine ⟨fun h6 => ?_, fun h6 => ?_⟩
  · (conv => whnf); repeat (first | (refine w ?_; conv => whnf) | (refine ⟨fun h => absurd h Bool.false_ne_true, fun _ => ?_⟩; conv => whnf) | (refine ⟨fun _ => ?_, fun h => absurd h.symm Bool.false_ne_true⟩; conv => whnf))
    refine fin_frz TT ?_ rfl
    rw [fitB_eq n e c, fitOne, h1, h2, h3, h4, h5, h6]; rfl
  have hone : fitOne n e c = true := by rw [fitOne, h1, h2, h3, h4, h5, h6]; rfl
  (conv => whnf); repeat (first | (refine w ?_; conv => whnf) | (refine ⟨fun h => absurd h Bool.false_ne_true, fun _ => ?_⟩; conv => whnf) | (refine ⟨fun _ => ?_, fun h => absurd h.symm Bool.false_ne_true⟩; conv => whnf))
  refine loop (fun i : Nat => mkSt [(7, .int .i64 i), (3, .bptr 0 0), (1, .int .i64 n), (2, .int .i64 e)] [.box 35 c.cs]) (fun i => i ≤ c.kids.length ∧ ∀ j y, j < i → c.kids[j]? = some y → fitB n e y = true) (fun i => c.kids.length - i) 0 ⟨Nat.zero_le _, fun j y h => by omega⟩
    (le_of [0] rfl rfl rfl ⟨rfl, rfl, rfl, rfl, trivial⟩ ⟨rfl, trivial⟩) ?_
  rintro i ⟨hi, hno⟩
  (conv => whnf); repeat (first | (refine w ?_; conv => whnf) | (refine ⟨fun h => absurd h Bool.false_ne_true, fun _ => ?_⟩; conv => whnf) | (refine ⟨fun _ => ?_, fun h => absurd h.symm Bool.false_ne_true⟩; conv => whnf))
  rw [cnds_len]
  refine ⟨fun hlt => ?_, fun hge => ?_⟩
  · have hlt := of_lt hlt
    have hx : c.kids[i]? = some c.kids[i] := List.getElem?_eq_getElem hlt
    generalize c.kids[i] = x at hx
    (conv => whnf); repeat (first | (refine w ?_; conv => whnf) | (refine ⟨fun h => absurd h Bool.false_ne_true, fun _ => ?_⟩; conv => whnf) | (refine ⟨fun _ => ?_, fun h => absurd h.symm Bool.false_ne_true⟩; conv => whnf))
    refine ⟨by omega, _, cnds_at hx, ?_⟩
    (conv => whnf); repeat (first | (refine w ?_; conv => whnf) | (refine ⟨fun h => absurd h Bool.false_ne_true, fun _ => ?_⟩; conv => whnf) | (refine ⟨fun _ => ?_, fun h => absurd h.symm Bool.false_ne_true⟩; conv => whnf))
    refine ⟨_, _, ih x (List.mem_of_getElem? hx), ?_⟩
    (conv => whnf); repeat (first | (refine w ?_; conv => whnf) | (refine ⟨fun h => absurd h Bool.false_ne_true, fun _ => ?_⟩; conv => whnf) | (refine ⟨fun _ => ?_, fun h => absurd h.symm Bool.false_ne_true⟩; conv => whnf))
    refine ⟨fun h => ?_, fun h => ?_⟩
    · have h : fitB n e x = false := by simpa using h
      (conv => whnf); repeat (first | (refine w ?_; conv => whnf) | (refine ⟨fun h => absurd h Bool.false_ne_true, fun _ => ?_⟩; conv => whnf) | (refine ⟨fun _ => ?_, fun h => absurd h.symm Bool.false_ne_true⟩; conv => whnf))
      refine fin_frz TT ?_ rfl
      rw [fitB_eq n e c, fitBs_all, hone, Bool.true_and, List.all_eq_false.2 ⟨x, List.mem_of_getElem? hx, by simp [h]⟩]; rfl
    · have h : fitB n e x = true := by simpa using h
      (conv => whnf); repeat (first | (refine w ?_; conv => whnf) | (refine ⟨fun h => absurd h Bool.false_ne_true, fun _ => ?_⟩; conv => whnf) | (refine ⟨fun _ => ?_, fun h => absurd h.symm Bool.false_ne_true⟩; conv => whnf))
      exact ⟨i + 1, ⟨hlt, fun j y hj hy => by
        rcases Nat.lt_or_ge j i with h' | h'
        · exact hno j y h' hy
        · have : j = i := by omega
          subst this; rw [hx] at hy; cases hy; exact h⟩, by show c.kids.length - (i + 1) < c.kids.length - i; omega, le_of [0] rfl rfl rfl ⟨step_num hlt hn, rfl, rfl, rfl, trivial⟩ ⟨rfl, trivial⟩⟩
  · have hge := of_ge hge
    (conv => whnf); repeat (first | (refine w ?_; conv => whnf) | (refine ⟨fun h => absurd h Bool.false_ne_true, fun _ => ?_⟩; conv => whnf) | (refine ⟨fun _ => ?_, fun h => absurd h.symm Bool.false_ne_true⟩; conv => whnf))
    refine fin_frz TT ?_ rfl
    rw [fitB_eq n e c, fitBs_all, hone, Bool.true_and, List.all_eq_true.2 fun y hy => by
      obtain ⟨j, hj, rfl⟩ := List.mem_iff_getElem.1 hy
      exact hno j _ (by omega) (List.getElem?_eq_getElem hj)]; rfl
theorem c17 (n e : Int) (c : Cond) : Con P 17 [] [c.av, .int .i64 n, .int .i64 e] (.bool (fitB n e c)) [] := m17 n e c fun x hx => c17 n e x
termination_by SizeOf.sizeOf c
decreasing_by exact kid_lt hx
end Go.Av.Z

/- The reference: conditions over a graph; light conditions. -/
namespace Go.Av.Z
open Go.Proofs

/-- All lists of a condition and its kids' are no longer than memory lets them be. -/
def fineA (c : Cond) : Prop := c.fine ∧ ∀ x, ∀ _ : x ∈ c.kids, fineA x
termination_by SizeOf.sizeOf c
decreasing_by exact kid_lt (by assumption)
theorem fineA_iff (c : Cond) : fineA c ↔ c.fine ∧ ∀ x ∈ c.kids, fineA x := by rw [fineA]
theorem fit_fine {n e : Int} (hn : n ≤ 1000) (he : e ≤ 1000) (c : Cond) (h : fitB n e c = true) : fineA c := by
  rw [fitB_eq, fitBs_all, Bool.and_eq_true] at h
  rw [fineA_iff]
  refine ⟨?_, fun x hx => fit_fine hn he x (List.all_eq_true.1 h.2 x hx)⟩
  have h1 := h.1
  simp [fitOne] at h1
  unfold Cond.fine
  omega
termination_by SizeOf.sizeOf c
decreasing_by exact kid_lt hx
theorem shp_five {c : Cond} (h : shp c = 0) (h5 : (c.kind == 5) = true) : ∃ x, c.kids = [x] := by
  have hk : c.kind = 5 := by simpa using h5
  unfold shp at h
  split at h
  · cases h
  · rename_i h1
    have h1 : shpOk c = true := by simpa using h1
    unfold shpOk at h1
    rw [hk] at h1
    have : ((c.kids.length : Int) == 1) = true := by simpa using h1
    have : c.kids.length = 1 := by simp at this; omega
    exact List.length_eq_one_iff.1 this
theorem m36 (a : Graph) (c : Cond) (hf : fineA c) (ih : ∀ a' : Graph, ∀ x ∈ c.kids, fineA x → Con P 36 [] [a'.av, x.av] (.int .i64 (ovr a' x)) []) : Con P 36 [] [a.av, c.av] (.int .i64 (ovr a c)) [] := by
  have hff := (fineA_iff c).1 hf
  refine go Tryz.func36 (by rfl) rfl rfl rfl fun hl => ?_
  have hn : c.kids.length ≤ 9223372036854775807 := by
    have := hl (cnds c.kids).length (by simp [lensL, lens, Cond.av, Cond.cs])
    rwa [cnds_len] at this
  (conv => whnf); repeat (first | (refine w ?_; conv => whnf) | (refine ⟨fun h => absurd h Bool.false_ne_true, fun _ => ?_⟩; conv => whnf) | (refine ⟨fun _ => ?_, fun h => absurd h.symm Bool.false_ne_true⟩; conv => whnf))
  refine ⟨_, _, c76 c hff.1, ?_⟩
  (conv => whnf); repeat (first | (refine w ?_; conv => whnf) | (refine ⟨fun h => absurd h Bool.false_ne_true, fun _ => ?_⟩; conv => whnf) | (refine ⟨fun _ => ?_, fun h => absurd h.symm Bool.false_ne_true⟩; conv => whnf))
  refine ⟨fun h => ?_, fun h => ?_⟩
  · (conv => whnf); repeat (first | (refine w ?_; conv => whnf) | (refine ⟨fun h => absurd h Bool.false_ne_true, fun _ => ?_⟩; conv => whnf) | (refine ⟨fun _ => ?_, fun h => absurd h.symm Bool.false_ne_true⟩; conv => whnf))
    refine fin_frz TT ?_ rfl
    rw [ovr_eq a c, if_pos (by simpa using h)]; rfl
  · have h1 : shp c = 0 := by simpa using h
    (conv => whnf); repeat (first | (refine w ?_; conv => whnf) | (refine ⟨fun h => absurd h Bool.false_ne_true, fun _ => ?_⟩; conv => whnf) | (refine ⟨fun _ => ?_, fun h => absurd h.symm Bool.false_ne_true⟩; conv => whnf))
    refine ⟨fun k5 => ?_, fun k5 => ?_⟩
    · obtain ⟨x, hx⟩ := shp_five h1 k5
      have hx0 : c.kids[0]? = some x := by rw [hx]; rfl
      (conv => whnf); repeat (first | (refine w ?_; conv => whnf) | (refine ⟨fun h => absurd h Bool.false_ne_true, fun _ => ?_⟩; conv => whnf) | (refine ⟨fun _ => ?_, fun h => absurd h.symm Bool.false_ne_true⟩; conv => whnf))
      refine ⟨_, _, c45 a c.pat.graph c.map, ?_⟩
      (conv => whnf); repeat (first | (refine w ?_; conv => whnf) | (refine ⟨fun h => absurd h Bool.false_ne_true, fun _ => ?_⟩; conv => whnf) | (refine ⟨fun _ => ?_, fun h => absurd h.symm Bool.false_ne_true⟩; conv => whnf))
      refine ⟨fun h => ?_, fun h => ?_⟩
      · (conv => whnf); repeat (first | (refine w ?_; conv => whnf) | (refine ⟨fun h => absurd h Bool.false_ne_true, fun _ => ?_⟩; conv => whnf) | (refine ⟨fun _ => ?_, fun h => absurd h.symm Bool.false_ne_true⟩; conv => whnf))
        refine fin_frz TT ?_ rfl
        rw [ovr_eq a c, if_neg (by simp [h1]), if_pos k5, if_pos (by simpa using h)]; rfl
      · have h2 : mval a c.pat.graph c.map = 0 := by simpa using h
        (conv => whnf); repeat (first | (refine w ?_; conv => whnf) | (refine ⟨fun h => absurd h Bool.false_ne_true, fun _ => ?_⟩; conv => whnf) | (refine ⟨fun _ => ?_, fun h => absurd h.symm Bool.false_ne_true⟩; conv => whnf))
        refine ⟨_, _, c46 a c.pat.graph c.map, ?_⟩
        (conv => whnf); repeat (first | (refine w ?_; conv => whnf) | (refine ⟨fun h => absurd h Bool.false_ne_true, fun _ => ?_⟩; conv => whnf) | (refine ⟨fun _ => ?_, fun h => absurd h.symm Bool.false_ne_true⟩; conv => whnf))
        refine ⟨fun h => ?_, fun h => ?_⟩
        · (conv => whnf); repeat (first | (refine w ?_; conv => whnf) | (refine ⟨fun h => absurd h Bool.false_ne_true, fun _ => ?_⟩; conv => whnf) | (refine ⟨fun _ => ?_, fun h => absurd h.symm Bool.false_ne_true⟩; conv => whnf))
          refine fin_frz TT ?_ rfl
          rw [ovr_eq a c, if_neg (by simp [h1]), if_pos k5, if_neg (by simp [h2]), if_pos (by simpa using h)]; rfl
        · have h3 : minj a c.pat.graph c.map = true := by simpa using h
          have hm := List.mem_of_getElem? hx0
          (conv => whnf); repeat (first | (refine w ?_; conv => whnf) | (refine ⟨fun h => absurd h Bool.false_ne_true, fun _ => ?_⟩; conv => whnf) | (refine ⟨fun _ => ?_, fun h => absurd h.symm Bool.false_ne_true⟩; conv => whnf))
          refine ⟨by omega, _, cnds_at hx0, ?_⟩
          (conv => whnf); repeat (first | (refine w ?_; conv => whnf) | (refine ⟨fun h => absurd h Bool.false_ne_true, fun _ => ?_⟩; conv => whnf) | (refine ⟨fun _ => ?_, fun h => absurd h.symm Bool.false_ne_true⟩; conv => whnf))
          refine ⟨_, _, ih c.pat.graph x hm (hff.2 x hm), ?_⟩
          (conv => whnf); repeat (first | (refine w ?_; conv => whnf) | (refine ⟨fun h => absurd h Bool.false_ne_true, fun _ => ?_⟩; conv => whnf) | (refine ⟨fun _ => ?_, fun h => absurd h.symm Bool.false_ne_true⟩; conv => whnf))
          refine ⟨by kernel_rfl, ?_⟩
          (conv => whnf); repeat (first | (refine w ?_; conv => whnf) | (refine ⟨fun h => absurd h Bool.false_ne_true, fun _ => ?_⟩; conv => whnf) | (refine ⟨fun _ => ?_, fun h => absurd h.symm Bool.false_ne_true⟩; conv => whnf))
          refine fin_frz TT ?_ rfl
          have e : ovr c.pat.graph x = ovrs c.pat.graph [x] := by rw [ovrs, ovrs]; split <;> simp_all
          rw [ovr_eq a c, if_neg (by simp [h1]), if_pos k5, if_neg (by simp [h2]), if_neg (by simp [h3]), hx, ← e]; rfl
    · (conv => whnf); repeat (first | (refine w ?_; conv => whnf) | (refine ⟨fun h => absurd h Bool.false_ne_true, fun _ => ?_⟩; conv => whnf) | (refine ⟨fun _ => ?_, fun h => absurd h.symm Bool.false_ne_true⟩; conv => whnf))
      refine loop (fun i : Nat => mkSt [(7, .int .i64 i), (2, .bptr 0 0), (3, .bptr 1 0)] [.box 25 a.cs, .box 35 c.cs]) (fun i => i ≤ c.kids.length ∧ ∀ j y, j < i → c.kids[j]? = some y → ovr a y = 0) (fun i => c.kids.length - i) 0 ⟨Nat.zero_le _, fun j y h => by omega⟩
        (le_of [0, 1] rfl rfl rfl ⟨rfl, rfl, rfl, trivial⟩ ⟨rfl, rfl, trivial⟩) ?_
      rintro i ⟨hi, hno⟩
      (conv => whnf); repeat (first | (refine w ?_; conv => whnf) | (refine ⟨fun h => absurd h Bool.false_ne_true, fun _ => ?_⟩; conv => whnf) | (refine ⟨fun _ => ?_, fun h => absurd h.symm Bool.false_ne_true⟩; conv => whnf))
      rw [cnds_len]
      refine ⟨fun hlt => ?_, fun hge => ?_⟩
      · have hlt := of_lt hlt
        have hx : c.kids[i]? = some c.kids[i] := List.getElem?_eq_getElem hlt
        generalize c.kids[i] = x at hx
        have hm := List.mem_of_getElem? hx
        (conv => whnf); repeat (first | (refine w ?_; conv => whnf) | (refine ⟨fun h => absurd h Bool.false_ne_true, fun _ => ?_⟩; conv => whnf) | (refine ⟨fun _ => ?_, fun h => absurd h.symm Bool.false_ne_true⟩; conv => whnf))
        refine ⟨by omega, _, cnds_at hx, ?_⟩
        (conv => whnf); repeat (first | (refine w ?_; conv => whnf) | (refine ⟨fun h => absurd h Bool.false_ne_true, fun _ => ?_⟩; conv => whnf) | (refine ⟨fun _ => ?_, fun h => absurd h.symm Bool.false_ne_true⟩; conv => whnf))
        refine ⟨_, _, ih a x hm (hff.2 x hm), ?_⟩
        (conv => whnf); repeat (first | (refine w ?_; conv => whnf) | (refine ⟨fun h => absurd h Bool.false_ne_true, fun _ => ?_⟩; conv => whnf) | (refine ⟨fun _ => ?_, fun h => absurd h.symm Bool.false_ne_true⟩; conv => whnf))
        refine ⟨by kernel_rfl, ?_⟩
        (conv => whnf); repeat (first | (refine w ?_; conv => whnf) | (refine ⟨fun h => absurd h Bool.false_ne_true, fun _ => ?_⟩; conv => whnf) | (refine ⟨fun _ => ?_, fun h => absurd h.symm Bool.false_ne_true⟩; conv => whnf))
        refine ⟨fun h => ?_, fun h => ?_⟩
        · (conv => whnf); repeat (first | (refine w ?_; conv => whnf) | (refine ⟨fun h => absurd h Bool.false_ne_true, fun _ => ?_⟩; conv => whnf) | (refine ⟨fun _ => ?_, fun h => absurd h.symm Bool.false_ne_true⟩; conv => whnf))
          refine fin_frz TT ?_ rfl
          rw [ovr_eq a c, if_neg (by simp [h1]), if_neg (by simpa using k5), ovrs_errs _ _ 0, errs_first (f := fun _ x => ovr a x) hno hx (by simpa using h)]; rfl
        · (conv => whnf); repeat (first | (refine w ?_; conv => whnf) | (refine ⟨fun h => absurd h Bool.false_ne_true, fun _ => ?_⟩; conv => whnf) | (refine ⟨fun _ => ?_, fun h => absurd h.symm Bool.false_ne_true⟩; conv => whnf))
          exact ⟨i + 1, ⟨hlt, zero_upto (f := fun _ x => ovr a x) hno hx (by simpa using h)⟩, by show c.kids.length - (i + 1) < c.kids.length - i; omega, le_of [0, 1] rfl rfl rfl ⟨step_num hlt hn, rfl, rfl, trivial⟩ ⟨rfl, rfl, trivial⟩⟩
      · have hge := of_ge hge
        (conv => whnf); repeat (first | (refine w ?_; conv => whnf) | (refine ⟨fun h => absurd h Bool.false_ne_true, fun _ => ?_⟩; conv => whnf) | (refine ⟨fun _ => ?_, fun h => absurd h.symm Bool.false_ne_true⟩; conv => whnf))
        refine fin_frz TT ?_ rfl
        rw [ovr_eq a c, if_neg (by simp [h1]), if_neg (by simpa using k5), ovrs_errs _ _ 0, errs_all (f := fun _ x => ovr a x) hno (by omega)]; rfl
theorem c36 (a : Graph) (c : Cond) (hf : fineA c) : Con P 36 [] [a.av, c.av] (.int .i64 (ovr a c)) [] := m36 a c hf fun a' x hx h => c36 a' x h
termination_by SizeOf.sizeOf c
decreasing_by exact kid_lt hx
theorem c18 (a : Graph) (c : Cond) (hf : fineA c) : Con P 18 [] [a.av, c.av] (.int .i64 (cval a c)) [] := by
  refine go Tryz.func18 (by rfl) rfl rfl rfl fun hl => ?_
  (conv => whnf); repeat (first | (refine w ?_; conv => whnf) | (refine ⟨fun h => absurd h Bool.false_ne_true, fun _ => ?_⟩; conv => whnf) | (refine ⟨fun _ => ?_, fun h => absurd h.symm Bool.false_ne_true⟩; conv => whnf))
  refine ⟨_, _, c35 a, ?_⟩
  (conv => whnf); repeat (first | (refine w ?_; conv => whnf) | (refine ⟨fun h => absurd h Bool.false_ne_true, fun _ => ?_⟩; conv => whnf) | (refine ⟨fun _ => ?_, fun h => absurd h.symm Bool.false_ne_true⟩; conv => whnf))
  refine ⟨fun h => ?_, fun h => ?_⟩
  · (conv => whnf); repeat (first | (refine w ?_; conv => whnf) | (refine ⟨fun h => absurd h Bool.false_ne_true, fun _ => ?_⟩; conv => whnf) | (refine ⟨fun _ => ?_, fun h => absurd h.symm Bool.false_ne_true⟩; conv => whnf))
    refine fin_frz TT ?_ rfl
    rw [cval, if_pos (by simpa using h)]; rfl
  · (conv => whnf); repeat (first | (refine w ?_; conv => whnf) | (refine ⟨fun h => absurd h Bool.false_ne_true, fun _ => ?_⟩; conv => whnf) | (refine ⟨fun _ => ?_, fun h => absurd h.symm Bool.false_ne_true⟩; conv => whnf))
    refine ⟨_, _, c36 a c hf, ?_⟩
    (conv => whnf); repeat (first | (refine w ?_; conv => whnf) | (refine ⟨fun h => absurd h Bool.false_ne_true, fun _ => ?_⟩; conv => whnf) | (refine ⟨fun _ => ?_, fun h => absurd h.symm Bool.false_ne_true⟩; conv => whnf))
    refine ⟨fun h2 => ?_, fun h2 => ?_⟩
    · (conv => whnf); repeat (first | (refine w ?_; conv => whnf) | (refine ⟨fun h => absurd h Bool.false_ne_true, fun _ => ?_⟩; conv => whnf) | (refine ⟨fun _ => ?_, fun h => absurd h.symm Bool.false_ne_true⟩; conv => whnf))
      refine fin_frz TT ?_ rfl
      rw [cval, if_neg (by simpa using h), if_pos (by simpa using h2)]; rfl
    · (conv => whnf); repeat (first | (refine w ?_; conv => whnf) | (refine ⟨fun h => absurd h Bool.false_ne_true, fun _ => ?_⟩; conv => whnf) | (refine ⟨fun _ => ?_, fun h => absurd h.symm Bool.false_ne_true⟩; conv => whnf))
      refine ⟨_, _, c37 c, ?_⟩
      (conv => whnf); repeat (first | (refine w ?_; conv => whnf) | (refine ⟨fun h => absurd h Bool.false_ne_true, fun _ => ?_⟩; conv => whnf) | (refine ⟨fun _ => ?_, fun h => absurd h.symm Bool.false_ne_true⟩; conv => whnf))
      refine fin_frz TT ?_ rfl
      rw [cval, if_neg (by simpa using h), if_neg (by simpa using h2)]; rfl
end Go.Av.Z

/- Light conditions; the size that is asked. -/
namespace Go.Av.Z
open Go.Proofs

def lightB (a : Graph) (c : Cond) : Bool :=
  if (decide ((60 : Int) < (csz c).1) || (!fitB 45 90 c || !fewB a)) = true then false else
    (cval a c != 0) || (decide ((csz c).1 ≤ 8) && ((decide ((csz c).2 ≤ 1) && fitB 4 3 c) || (decide ((csz c).2 ≤ 2) && fitB 2 2 c)))
theorem c6 (a : Graph) (c : Cond) : Con P 6 [] [a.av, c.av] (.bool (lightB a c)) [] := by
  refine go Tryz.func6 (by rfl) rfl rfl rfl fun hl => ?_
  (conv => whnf); repeat (first | (refine w ?_; conv => whnf) | (refine ⟨fun h => absurd h Bool.false_ne_true, fun _ => ?_⟩; conv => whnf) | (refine ⟨fun _ => ?_, fun h => absurd h.symm Bool.false_ne_true⟩; conv => whnf))
  refine ⟨_, _, c16 c, ?_⟩
  (conv => whnf); repeat (first | (refine w ?_; conv => whnf) | (refine ⟨fun h => absurd h Bool.false_ne_true, fun _ => ?_⟩; conv => whnf) | (refine ⟨fun _ => ?_, fun h => absurd h.symm Bool.false_ne_true⟩; conv => whnf))
  refine ⟨fun h1 => ?_, fun h1 => ?_⟩
  · (conv => whnf); repeat (first | (refine w ?_; conv => whnf) | (refine ⟨fun h => absurd h Bool.false_ne_true, fun _ => ?_⟩; conv => whnf) | (refine ⟨fun _ => ?_, fun h => absurd h.symm Bool.false_ne_true⟩; conv => whnf))
    refine fin_frz TT ?_ rfl
    rw [lightB, h1]; rfl
  (conv => whnf); repeat (first | (refine w ?_; conv => whnf) | (refine ⟨fun h => absurd h Bool.false_ne_true, fun _ => ?_⟩; conv => whnf) | (refine ⟨fun _ => ?_, fun h => absurd h.symm Bool.false_ne_true⟩; conv => whnf))
  refine ⟨_, _, c17 45 90 c, ?_⟩
  (conv => whnf); repeat (first | (refine w ?_; conv => whnf) | (refine ⟨fun h => absurd h Bool.false_ne_true, fun _ => ?_⟩; conv => whnf) | (refine ⟨fun _ => ?_, fun h => absurd h.symm Bool.false_ne_true⟩; conv => whnf))
  refine ⟨fun h2 => ?_, fun h2 => ?_⟩
  · (conv => whnf); repeat (first | (refine w ?_; conv => whnf) | (refine ⟨fun h => absurd h Bool.false_ne_true, fun _ => ?_⟩; conv => whnf) | (refine ⟨fun _ => ?_, fun h => absurd h.symm Bool.false_ne_true⟩; conv => whnf))
    refine fin_frz TT ?_ rfl
    rw [lightB, h1, h2]; rfl
  (conv => whnf); repeat (first | (refine w ?_; conv => whnf) | (refine ⟨fun h => absurd h Bool.false_ne_true, fun _ => ?_⟩; conv => whnf) | (refine ⟨fun _ => ?_, fun h => absurd h.symm Bool.false_ne_true⟩; conv => whnf))
  refine ⟨_, _, c13 a, ?_⟩
  (conv => whnf); repeat (first | (refine w ?_; conv => whnf) | (refine ⟨fun h => absurd h Bool.false_ne_true, fun _ => ?_⟩; conv => whnf) | (refine ⟨fun _ => ?_, fun h => absurd h.symm Bool.false_ne_true⟩; conv => whnf))
  refine ⟨fun h3 => ?_, fun h3 => ?_⟩
  · (conv => whnf); repeat (first | (refine w ?_; conv => whnf) | (refine ⟨fun h => absurd h Bool.false_ne_true, fun _ => ?_⟩; conv => whnf) | (refine ⟨fun _ => ?_, fun h => absurd h.symm Bool.false_ne_true⟩; conv => whnf))
    refine fin_frz TT ?_ rfl
    rw [lightB, h1, h2, h3]; rfl
  (conv => whnf); repeat (first | (refine w ?_; conv => whnf) | (refine ⟨fun h => absurd h Bool.false_ne_true, fun _ => ?_⟩; conv => whnf) | (refine ⟨fun _ => ?_, fun h => absurd h.symm Bool.false_ne_true⟩; conv => whnf))
  have hf : fitB 45 90 c = true := by simpa using h2
  have e : lightB a c = ((cval a c != 0) || (decide ((csz c).1 ≤ 8) && ((decide ((csz c).2 ≤ 1) && fitB 4 3 c) || (decide ((csz c).2 ≤ 2) && fitB 2 2 c)))) := by rw [lightB, h1, h2, h3]; rfl
  refine ⟨_, _, c18 a c (fit_fine (by omega) (by omega) c hf), ?_⟩
  (conv => whnf); repeat (first | (refine w ?_; conv => whnf) | (refine ⟨fun h => absurd h Bool.false_ne_true, fun _ => ?_⟩; conv => whnf) | (refine ⟨fun _ => ?_, fun h => absurd h.symm Bool.false_ne_true⟩; conv => whnf))
  refine ⟨fun h4 => ?_, fun h4 => ?_⟩
  · (conv => whnf); repeat (first | (refine w ?_; conv => whnf) | (refine ⟨fun h => absurd h Bool.false_ne_true, fun _ => ?_⟩; conv => whnf) | (refine ⟨fun _ => ?_, fun h => absurd h.symm Bool.false_ne_true⟩; conv => whnf))
    refine fin_frz TT ?_ rfl
    rw [e, h4]; rfl
  (conv => whnf); repeat (first | (refine w ?_; conv => whnf) | (refine ⟨fun h => absurd h Bool.false_ne_true, fun _ => ?_⟩; conv => whnf) | (refine ⟨fun _ => ?_, fun h => absurd h.symm Bool.false_ne_true⟩; conv => whnf))
  refine ⟨fun h5 => ?_, fun h5 => ?_⟩
  · (conv => whnf); repeat (first | (refine w ?_; conv => whnf) | (refine ⟨fun h => absurd h Bool.false_ne_true, fun _ => ?_⟩; conv => whnf) | (refine ⟨fun _ => ?_, fun h => absurd h.symm Bool.false_ne_true⟩; conv => whnf))
    refine ⟨fun h6 => ?_, fun h6 => ?_⟩
    · (conv => whnf); repeat (first | (refine w ?_; conv => whnf) | (refine ⟨fun h => absurd h Bool.false_ne_true, fun _ => ?_⟩; conv => whnf) | (refine ⟨fun _ => ?_, fun h => absurd h.symm Bool.false_ne_true⟩; conv => whnf))
      refine ⟨_, _, c17 4 3 c, ?_⟩
      (conv => whnf); repeat (first | (refine w ?_; conv => whnf) | (refine ⟨fun h => absurd h Bool.false_ne_true, fun _ => ?_⟩; conv => whnf) | (refine ⟨fun _ => ?_, fun h => absurd h.symm Bool.false_ne_true⟩; conv => whnf))
      refine ⟨fun h7 => ?_, fun h7 => ?_⟩
      · (conv => whnf); repeat (first | (refine w ?_; conv => whnf) | (refine ⟨fun h => absurd h Bool.false_ne_true, fun _ => ?_⟩; conv => whnf) | (refine ⟨fun _ => ?_, fun h => absurd h.symm Bool.false_ne_true⟩; conv => whnf))
        refine fin_frz TT ?_ rfl
        rw [e, h4, h5, h6, h7]; rfl
      · (conv => whnf); repeat (first | (refine w ?_; conv => whnf) | (refine ⟨fun h => absurd h Bool.false_ne_true, fun _ => ?_⟩; conv => whnf) | (refine ⟨fun _ => ?_, fun h => absurd h.symm Bool.false_ne_true⟩; conv => whnf))
        refine ⟨fun h8 => ?_, fun h8 => ?_⟩
        · (conv => whnf); repeat (first | (refine w ?_; conv => whnf) | (refine ⟨fun h => absurd h Bool.false_ne_true, fun _ => ?_⟩; conv => whnf) | (refine ⟨fun _ => ?_, fun h => absurd h.symm Bool.false_ne_true⟩; conv => whnf))
          refine ⟨_, _, c17 2 2 c, ?_⟩
          (conv => whnf); repeat (first | (refine w ?_; conv => whnf) | (refine ⟨fun h => absurd h Bool.false_ne_true, fun _ => ?_⟩; conv => whnf) | (refine ⟨fun _ => ?_, fun h => absurd h.symm Bool.false_ne_true⟩; conv => whnf))
          refine fin_frz TT ?_ rfl
          rw [e, h4, h5, h6, h7, h8]; rfl
        · (conv => whnf); repeat (first | (refine w ?_; conv => whnf) | (refine ⟨fun h => absurd h Bool.false_ne_true, fun _ => ?_⟩; conv => whnf) | (refine ⟨fun _ => ?_, fun h => absurd h.symm Bool.false_ne_true⟩; conv => whnf))
          refine fin_frz TT ?_ rfl
          rw [e, h4, h5, h6, h7, h8]; rfl
    · (conv => whnf); repeat (first | (refine w ?_; conv => whnf) | (refine ⟨fun h => absurd h Bool.false_ne_true, fun _ => ?_⟩; conv => whnf) | (refine ⟨fun _ => ?_, fun h => absurd h.symm Bool.false_ne_true⟩; conv => whnf))
      refine ⟨fun h8 => ?_, fun h8 => ?_⟩
      · (conv => whnf); repeat (first | (refine w ?_; conv => whnf) | (refine ⟨fun h => absurd h Bool.false_ne_true, fun _ => ?_⟩; conv => whnf) | (refine ⟨fun _ => ?_, fun h => absurd h.symm Bool.false_ne_true⟩; conv => whnf))
        refine ⟨_, _, c17 2 2 c, ?_⟩
        (conv => whnf); repeat (first | (refine w ?_; conv => whnf) | (refine ⟨fun h => absurd h Bool.false_ne_true, fun _ => ?_⟩; conv => whnf) | (refine ⟨fun _ => ?_, fun h => absurd h.symm Bool.false_ne_true⟩; conv => whnf))
        refine fin_frz TT ?_ rfl
        rw [e, h4, h5, h6, h8]; rfl
      · (conv => whnf); repeat (first | (refine w ?_; conv => whnf) | (refine ⟨fun h => absurd h Bool.false_ne_true, fun _ => ?_⟩; conv => whnf) | (refine ⟨fun _ => ?_, fun h => absurd h.symm Bool.false_ne_true⟩; conv => whnf))
        refine fin_frz TT ?_ rfl
        rw [e, h4, h5, h6, h8]; rfl
  · (conv => whnf); repeat (first | (refine w ?_; conv => whnf) | (refine ⟨fun h => absurd h Bool.false_ne_true, fun _ => ?_⟩; conv => whnf) | (refine ⟨fun _ => ?_, fun h => absurd h.symm Bool.false_ne_true⟩; conv => whnf))
    refine fin_frz TT ?_ rfl
    rw [e, h4, h5]; rfl
theorem light_ok {a : Graph} {c : Cond} (h : lightB a c = true) : fitB 45 90 c = true ∧ fewB a = true := by
  unfold lightB at h
  split at h
  · cases h
  · rename_i h1
    simp at h1
    exact h1.2
end Go.Av.Z

/- The reference: the size that is asked. -/
namespace Go.Av.Z
open Go.Proofs

mutual
/-- The first error of a condition and its kids by themselves. -/
def shps : Cond → Int
  | .mk k kids m p => if shp (.mk k kids m p) ≠ 0 then shp (.mk k kids m p) else shpss kids
def shpss : List Cond → Int
  | [] => 0
  | c :: r => if shps c ≠ 0 then shps c else shpss r
end
theorem shps_eq (c : Cond) : shps c = if shp c ≠ 0 then shp c else shpss c.kids := by cases c; rw [shps]; rfl
theorem shpss_errs : ∀ (l : List Cond) (n : Nat), shpss l = errs (fun _ x => shps x) n l
  | [], n => by rw [shpss]; rfl
  | c :: r, n => by
    rw [shpss, errs]
    by_cases h : shps c = 0
    · rw [if_neg (by simp [h]), if_pos h]; exact shpss_errs r (n + 1)
    · rw [if_pos h, if_neg h]
theorem m95 (c : Cond) (hf : fineA c) (ih : ∀ x ∈ c.kids, fineA x → Con P 95 [] [x.av] (.int .i64 (shps x)) []) : Con P 95 [] [c.av] (.int .i64 (shps c)) [] := by
  have hff := (fineA_iff c).1 hf
  refine go Tryz.func95 (by rfl) rfl rfl rfl fun hl => ?_
  have hn : c.kids.length ≤ 9223372036854775807 := by
    have := hl (cnds c.kids).length (by simp [lensL, lens, Cond.av, Cond.cs])
    rwa [cnds_len] at this
  (conv => whnf); repeat (first | (refine w ?_; conv => whnf) | (refine ⟨fun h => absurd h Bool.false_ne_true, fun _ => ?_⟩; conv => whnf) | (refine ⟨fun _ => ?_, fun h => absurd h.symm Bool.false_ne_true⟩; conv => whnf))
  refine ⟨_, _, c76 c hff.1, ?_⟩
  (conv => whnf); repeat (first | (refine w ?_; conv => whnf) | (refine ⟨fun h => absurd h Bool.false_ne_true, fun _ => ?_⟩; conv => whnf) | (refine ⟨fun _ => ?_, fun h => absurd h.symm Bool.false_ne_true⟩; conv => whnf))
  refine ⟨fun h => ?_, fun h => ?_⟩
  · (conv => whnf); repeat (first | (refine w ?_; conv => whnf) | (refine ⟨fun h => absurd h Bool.false_ne_true, fun _ => ?_⟩; conv => whnf) | (refine ⟨fun _ => ?_, fun h => absurd h.symm Bool.false_ne_true⟩; conv => whnf))
    refine fin_frz TT ?_ rfl
    rw [shps_eq c, if_pos (by simpa using h)]; rfl
  · have h1 : shp c = 0 := by simpa using h
    (conv => whnf); repeat (first | (refine w ?_; conv => whnf) | (refine ⟨fun h => absurd h Bool.false_ne_true, fun _ => ?_⟩; conv => whnf) | (refine ⟨fun _ => ?_, fun h => absurd h.symm Bool.false_ne_true⟩; conv => whnf))
    refine loop (fun i : Nat => mkSt [(4, .int .i64 i), (1, .bptr 0 0)] [.box 35 c.cs]) (fun i => i ≤ c.kids.length ∧ ∀ j y, j < i → c.kids[j]? = some y → shps y = 0) (fun i => c.kids.length - i) 0 ⟨Nat.zero_le _, fun j y h => by omega⟩
      (le_of [0] rfl rfl rfl ⟨rfl, rfl, trivial⟩ ⟨rfl, trivial⟩) ?_
    rintro i ⟨hi, hno⟩
    (conv => whnf); repeat (first | (refine w ?_; conv => whnf) | (refine ⟨fun h => absurd h Bool.false_ne_true, fun _ => ?_⟩; conv => whnf) | (refine ⟨fun _ => ?_, fun h => absurd h.symm Bool.false_ne_true⟩; conv => whnf))
    rw [cnds_len]
    refine ⟨fun hlt => ?_, fun hge => ?_⟩
    · have hlt := of_lt hlt
      have hx : c.kids[i]? = some c.kids[i] := List.getElem?_eq_getElem hlt
      generalize c.kids[i] = x at hx
      have hm := List.mem_of_getElem? hx
      (conv => whnf); repeat (first | (refine w ?_; conv => whnf) | (refine ⟨fun h => absurd h Bool.false_ne_true, fun _ => ?_⟩; conv => whnf) | (refine ⟨fun _ => ?_, fun h => absurd h.symm Bool.false_ne_true⟩; conv => whnf))
      refine ⟨by omega, _, cnds_at hx, ?_⟩
      (conv => whnf); repeat (first | (refine w ?_; conv => whnf) | (refine ⟨fun h => absurd h Bool.false_ne_true, fun _ => ?_⟩; conv => whnf) | (refine ⟨fun _ => ?_, fun h => absurd h.symm Bool.false_ne_true⟩; conv => whnf))
      refine ⟨_, _, ih x hm (hff.2 x hm), ?_⟩
      (conv => whnf); repeat (first | (refine w ?_; conv => whnf) | (refine ⟨fun h => absurd h Bool.false_ne_true, fun _ => ?_⟩; conv => whnf) | (refine ⟨fun _ => ?_, fun h => absurd h.symm Bool.false_ne_true⟩; conv => whnf))
      refine ⟨fun h => ?_, fun h => ?_⟩
      · (conv => whnf); repeat (first | (refine w ?_; conv => whnf) | (refine ⟨fun h => absurd h Bool.false_ne_true, fun _ => ?_⟩; conv => whnf) | (refine ⟨fun _ => ?_, fun h => absurd h.symm Bool.false_ne_true⟩; conv => whnf))
        refine fin_frz TT ?_ rfl
        rw [shps_eq c, if_neg (by simp [h1]), shpss_errs _ 0, errs_first (f := fun _ x => shps x) hno hx (by simpa using h)]; rfl
      · (conv => whnf); repeat (first | (refine w ?_; conv => whnf) | (refine ⟨fun h => absurd h Bool.false_ne_true, fun _ => ?_⟩; conv => whnf) | (refine ⟨fun _ => ?_, fun h => absurd h.symm Bool.false_ne_true⟩; conv => whnf))
        exact ⟨i + 1, ⟨hlt, zero_upto (f := fun _ x => shps x) hno hx (by simpa using h)⟩, by show c.kids.length - (i + 1) < c.kids.length - i; omega, le_of [0] rfl rfl rfl ⟨step_num hlt hn, rfl, trivial⟩ ⟨rfl, trivial⟩⟩
    · have hge := of_ge hge
      (conv => whnf); repeat (first | (refine w ?_; conv => whnf) | (refine ⟨fun h => absurd h Bool.false_ne_true, fun _ => ?_⟩; conv => whnf) | (refine ⟨fun _ => ?_, fun h => absurd h.symm Bool.false_ne_true⟩; conv => whnf))
      refine fin_frz TT ?_ rfl
      rw [shps_eq c, if_neg (by simp [h1]), shpss_errs _ 0, errs_all (f := fun _ x => shps x) hno (by omega)]; rfl
theorem c95 (c : Cond) (hf : fineA c) : Con P 95 [] [c.av] (.int .i64 (shps c)) [] := m95 c hf fun x hx h => c95 x h
termination_by SizeOf.sizeOf c
decreasing_by exact kid_lt hx
def szErr (c : Cond) : Int := if shps c ≠ 0 then shps c else lrg c
def szN (c : Cond) : Int × Int := if szErr c = 0 then csz c else (0, 0)
theorem c55 (c : Cond) (hf : fineA c) : Con P 55 [] [c.av] (.tuple [.int .i64 (szN c).1, .int .i64 (szN c).2, .int .i64 (szErr c)]) [] := by
  refine go Tryz.func55 (by rfl) rfl rfl rfl fun hl => ?_
  (conv => whnf); repeat (first | (refine w ?_; conv => whnf) | (refine ⟨fun h => absurd h Bool.false_ne_true, fun _ => ?_⟩; conv => whnf) | (refine ⟨fun _ => ?_, fun h => absurd h.symm Bool.false_ne_true⟩; conv => whnf))
  refine ⟨_, _, c95 c hf, ?_⟩
  (conv => whnf); repeat (first | (refine w ?_; conv => whnf) | (refine ⟨fun h => absurd h Bool.false_ne_true, fun _ => ?_⟩; conv => whnf) | (refine ⟨fun _ => ?_, fun h => absurd h.symm Bool.false_ne_true⟩; conv => whnf))
  refine ⟨fun h => ?_, fun h => ?_⟩
  · have e : szErr c = shps c := by rw [szErr, if_pos (by simpa using h)]
    have e2 : szN c = (0, 0) := by rw [szN, if_neg (by rw [e]; simpa using h)]
    (conv => whnf); repeat (first | (refine w ?_; conv => whnf) | (refine ⟨fun h => absurd h Bool.false_ne_true, fun _ => ?_⟩; conv => whnf) | (refine ⟨fun _ => ?_, fun h => absurd h.symm Bool.false_ne_true⟩; conv => whnf))
    refine fin_frz TT ?_ rfl
    rw [e, e2]; rfl
  · have e : szErr c = lrg c := by rw [szErr, if_neg (by simpa using h)]
    (conv => whnf); repeat (first | (refine w ?_; conv => whnf) | (refine ⟨fun h => absurd h Bool.false_ne_true, fun _ => ?_⟩; conv => whnf) | (refine ⟨fun _ => ?_, fun h => absurd h.symm Bool.false_ne_true⟩; conv => whnf))
    refine ⟨_, _, c37 c, ?_⟩
    (conv => whnf); repeat (first | (refine w ?_; conv => whnf) | (refine ⟨fun h => absurd h Bool.false_ne_true, fun _ => ?_⟩; conv => whnf) | (refine ⟨fun _ => ?_, fun h => absurd h.symm Bool.false_ne_true⟩; conv => whnf))
    refine ⟨fun h2 => ?_, fun h2 => ?_⟩
    · have e2 : szN c = (0, 0) := by rw [szN, if_neg (by rw [e]; simpa using h2)]
      (conv => whnf); repeat (first | (refine w ?_; conv => whnf) | (refine ⟨fun h => absurd h Bool.false_ne_true, fun _ => ?_⟩; conv => whnf) | (refine ⟨fun _ => ?_, fun h => absurd h.symm Bool.false_ne_true⟩; conv => whnf))
      refine fin_frz TT ?_ rfl
      rw [e, e2]; rfl
    · have e2 : szN c = csz c := by rw [szN, if_pos (by rw [e]; simpa using h2)]
      (conv => whnf); repeat (first | (refine w ?_; conv => whnf) | (refine ⟨fun h => absurd h Bool.false_ne_true, fun _ => ?_⟩; conv => whnf) | (refine ⟨fun _ => ?_, fun h => absurd h.symm Bool.false_ne_true⟩; conv => whnf))
      refine ⟨_, _, c16 c, ?_⟩
      (conv => whnf); repeat (first | (refine w ?_; conv => whnf) | (refine ⟨fun h => absurd h Bool.false_ne_true, fun _ => ?_⟩; conv => whnf) | (refine ⟨fun _ => ?_, fun h => absurd h.symm Bool.false_ne_true⟩; conv => whnf))
      refine fin_frz TT ?_ rfl
      rw [e, e2, show lrg c = 0 by simpa using h2]; rfl
def Cond.zero : Cond := .mk 0 [] ⟨[], []⟩ ⟨⟨[], []⟩, [], 0, []⟩
def smallC (c : Cond) : Cond := if szErr c = 0 then c else .zero
theorem c24 (c : Cond) (hf : fineA c) : Con P 24 [] [c.av] (.tuple [(smallC c).av, .int .i64 (szErr c)]) [] := by
  refine go Tryz.func24 (by rfl) rfl rfl rfl fun hl => ?_
  (conv => whnf); repeat (first | (refine w ?_; conv => whnf) | (refine ⟨fun h => absurd h Bool.false_ne_true, fun _ => ?_⟩; conv => whnf) | (refine ⟨fun _ => ?_, fun h => absurd h.symm Bool.false_ne_true⟩; conv => whnf))
  refine ⟨_, _, c55 c hf, ?_⟩
  (conv => whnf); repeat (first | (refine w ?_; conv => whnf) | (refine ⟨fun h => absurd h Bool.false_ne_true, fun _ => ?_⟩; conv => whnf) | (refine ⟨fun _ => ?_, fun h => absurd h.symm Bool.false_ne_true⟩; conv => whnf))
  refine ⟨fun h => ?_, fun h => ?_⟩
  · have e2 : smallC c = .zero := by rw [smallC, if_neg (by simpa using h)]
    (conv => whnf); repeat (first | (refine w ?_; conv => whnf) | (refine ⟨fun h => absurd h Bool.false_ne_true, fun _ => ?_⟩; conv => whnf) | (refine ⟨fun _ => ?_, fun h => absurd h.symm Bool.false_ne_true⟩; conv => whnf))
    refine fin_frz TT ?_ rfl
    rw [e2]; rfl
  · have e2 : smallC c = c := by rw [smallC, if_pos (by simpa using h)]
    (conv => whnf); repeat (first | (refine w ?_; conv => whnf) | (refine ⟨fun h => absurd h Bool.false_ne_true, fun _ => ?_⟩; conv => whnf) | (refine ⟨fun _ => ?_, fun h => absurd h.symm Bool.false_ne_true⟩; conv => whnf))
    refine fin_frz TT ?_ rfl
    rw [e2, show szErr c = 0 by simpa using h]; rfl
end Go.Av.Z

/- The reference: what is the same is found the same. -/
namespace Go.Av.Z
open Go.Proofs

theorem c56 (l : List Int) : Con P 56 [] [.slice 1 (nums l), .slice 1 (nums l)] (.bool true) [] := by
  refine go Tryz.func56 (by rfl) rfl rfl rfl fun hl => ?_
  (conv => whnf); repeat (first | (refine w ?_; conv => whnf) | (refine ⟨fun h => absurd h Bool.false_ne_true, fun _ => ?_⟩; conv => whnf) | (refine ⟨fun _ => ?_, fun h => absurd h.symm Bool.false_ne_true⟩; conv => whnf))
  have hn : l.length ≤ 9223372036854775807 := by
    have := hl (nums l).length (by simp [lensL, lens])
    rwa [nums_len] at this
  refine ⟨fun h => absurd h (by simp), fun _ => ?_⟩
  (conv => whnf); repeat (first | (refine w ?_; conv => whnf) | (refine ⟨fun h => absurd h Bool.false_ne_true, fun _ => ?_⟩; conv => whnf) | (refine ⟨fun _ => ?_, fun h => absurd h.symm Bool.false_ne_true⟩; conv => whnf))
  refine loop (fun i : Nat => mkSt [(5, .int .i64 i), (0, .slice 1 (nums l)), (1, .slice 1 (nums l))] []) (fun i => i ≤ l.length) (fun i => l.length - i) 0 (Nat.zero_le _)
    (le_of [] rfl rfl rfl ⟨rfl, rfl, rfl, trivial⟩ trivial) ?_
  intro i hi
  (conv => whnf); repeat (first | (refine w ?_; conv => whnf) | (refine ⟨fun h => absurd h Bool.false_ne_true, fun _ => ?_⟩; conv => whnf) | (refine ⟨fun _ => ?_, fun h => absurd h.symm Bool.false_ne_true⟩; conv => whnf))
  rw [nums_len]
  refine ⟨fun hlt => ?_, fun hge => ?_⟩
  · have hlt := of_lt hlt
    have hx : l[i]? = some l[i] := List.getElem?_eq_getElem hlt
    generalize l[i] = x at hx
    (conv => whnf); repeat (first | (refine w ?_; conv => whnf) | (refine ⟨fun h => absurd h Bool.false_ne_true, fun _ => ?_⟩; conv => whnf) | (refine ⟨fun _ => ?_, fun h => absurd h.symm Bool.false_ne_true⟩; conv => whnf))
    refine ⟨by omega, _, nums_at hx, ?_⟩
    (conv => whnf); repeat (first | (refine w ?_; conv => whnf) | (refine ⟨fun h => absurd h Bool.false_ne_true, fun _ => ?_⟩; conv => whnf) | (refine ⟨fun _ => ?_, fun h => absurd h.symm Bool.false_ne_true⟩; conv => whnf))
    refine ⟨by omega, _, nums_at hx, ?_⟩
    (conv => whnf); repeat (first | (refine w ?_; conv => whnf) | (refine ⟨fun h => absurd h Bool.false_ne_true, fun _ => ?_⟩; conv => whnf) | (refine ⟨fun _ => ?_, fun h => absurd h.symm Bool.false_ne_true⟩; conv => whnf))
    refine ⟨by kernel_rfl, ?_⟩
    (conv => whnf); repeat (first | (refine w ?_; conv => whnf) | (refine ⟨fun h => absurd h Bool.false_ne_true, fun _ => ?_⟩; conv => whnf) | (refine ⟨fun _ => ?_, fun h => absurd h.symm Bool.false_ne_true⟩; conv => whnf))
    refine ⟨fun h => absurd h (by simp), fun _ => ?_⟩
    (conv => whnf); repeat (first | (refine w ?_; conv => whnf) | (refine ⟨fun h => absurd h Bool.false_ne_true, fun _ => ?_⟩; conv => whnf) | (refine ⟨fun _ => ?_, fun h => absurd h.symm Bool.false_ne_true⟩; conv => whnf))
    exact ⟨i + 1, hlt, by show l.length - (i + 1) < l.length - i; omega, le_of [] rfl rfl rfl ⟨step_num hlt hn, rfl, rfl, trivial⟩ trivial⟩
  · (conv => whnf); repeat (first | (refine w ?_; conv => whnf) | (refine ⟨fun h => absurd h Bool.false_ne_true, fun _ => ?_⟩; conv => whnf) | (refine ⟨fun _ => ?_, fun h => absurd h.symm Bool.false_ne_true⟩; conv => whnf))
    refine fin_frz TT ?_ rfl
    rfl
theorem c57 (l : List Int) : Con P 57 [] [.slice 1 (nums l), .slice 1 (nums l)] (.bool true) [] := by
  refine go Tryz.func57 (by rfl) rfl rfl rfl fun hl => ?_
  (conv => whnf); repeat (first | (refine w ?_; conv => whnf) | (refine ⟨fun h => absurd h Bool.false_ne_true, fun _ => ?_⟩; conv => whnf) | (refine ⟨fun _ => ?_, fun h => absurd h.symm Bool.false_ne_true⟩; conv => whnf))
  have hn : l.length ≤ 9223372036854775807 := by
    have := hl (nums l).length (by simp [lensL, lens])
    rwa [nums_len] at this
  refine ⟨fun h => absurd h (by simp), fun _ => ?_⟩
  (conv => whnf); repeat (first | (refine w ?_; conv => whnf) | (refine ⟨fun h => absurd h Bool.false_ne_true, fun _ => ?_⟩; conv => whnf) | (refine ⟨fun _ => ?_, fun h => absurd h.symm Bool.false_ne_true⟩; conv => whnf))
  refine loop (fun i : Nat => mkSt [(5, .int .i64 i), (0, .slice 1 (nums l)), (1, .slice 1 (nums l))] []) (fun i => i ≤ l.length) (fun i => l.length - i) 0 (Nat.zero_le _)
    (le_of [] rfl rfl rfl ⟨rfl, rfl, rfl, trivial⟩ trivial) ?_
  intro i hi
  (conv => whnf); repeat (first | (refine w ?_; conv => whnf) | (refine ⟨fun h => absurd h Bool.false_ne_true, fun _ => ?_⟩; conv => whnf) | (refine ⟨fun _ => ?_, fun h => absurd h.symm Bool.false_ne_true⟩; conv => whnf))
  rw [nums_len]
  refine ⟨fun hlt => ?_, fun hge => ?_⟩
  · have hlt := of_lt hlt
    have hx : l[i]? = some l[i] := List.getElem?_eq_getElem hlt
    generalize l[i] = x at hx
    (conv => whnf); repeat (first | (refine w ?_; conv => whnf) | (refine ⟨fun h => absurd h Bool.false_ne_true, fun _ => ?_⟩; conv => whnf) | (refine ⟨fun _ => ?_, fun h => absurd h.symm Bool.false_ne_true⟩; conv => whnf))
    refine ⟨by omega, _, nums_at hx, ?_⟩
    (conv => whnf); repeat (first | (refine w ?_; conv => whnf) | (refine ⟨fun h => absurd h Bool.false_ne_true, fun _ => ?_⟩; conv => whnf) | (refine ⟨fun _ => ?_, fun h => absurd h.symm Bool.false_ne_true⟩; conv => whnf))
    refine ⟨by omega, _, nums_at hx, ?_⟩
    (conv => whnf); repeat (first | (refine w ?_; conv => whnf) | (refine ⟨fun h => absurd h Bool.false_ne_true, fun _ => ?_⟩; conv => whnf) | (refine ⟨fun _ => ?_, fun h => absurd h.symm Bool.false_ne_true⟩; conv => whnf))
    refine ⟨by kernel_rfl, ?_⟩
    (conv => whnf); repeat (first | (refine w ?_; conv => whnf) | (refine ⟨fun h => absurd h Bool.false_ne_true, fun _ => ?_⟩; conv => whnf) | (refine ⟨fun _ => ?_, fun h => absurd h.symm Bool.false_ne_true⟩; conv => whnf))
    refine ⟨fun h => absurd h (by simp), fun _ => ?_⟩
    (conv => whnf); repeat (first | (refine w ?_; conv => whnf) | (refine ⟨fun h => absurd h Bool.false_ne_true, fun _ => ?_⟩; conv => whnf) | (refine ⟨fun _ => ?_, fun h => absurd h.symm Bool.false_ne_true⟩; conv => whnf))
    exact ⟨i + 1, hlt, by show l.length - (i + 1) < l.length - i; omega, le_of [] rfl rfl rfl ⟨step_num hlt hn, rfl, rfl, trivial⟩ trivial⟩
  · (conv => whnf); repeat (first | (refine w ?_; conv => whnf) | (refine ⟨fun h => absurd h Bool.false_ne_true, fun _ => ?_⟩; conv => whnf) | (refine ⟨fun _ => ?_, fun h => absurd h.symm Bool.false_ne_true⟩; conv => whnf))
    refine fin_frz TT ?_ rfl
    rfl
theorem c25 (m : Mor) : Con P 25 [] [m.av, m.av] (.bool true) [] := by
  refine go Tryz.func25 (by rfl) rfl rfl rfl fun hl => ?_
  (conv => whnf); repeat (first | (refine w ?_; conv => whnf) | (refine ⟨fun h => absurd h Bool.false_ne_true, fun _ => ?_⟩; conv => whnf) | (refine ⟨fun _ => ?_, fun h => absurd h.symm Bool.false_ne_true⟩; conv => whnf))
  refine ⟨_, _, c56 m.nodes, ?_⟩
  (conv => whnf); repeat (first | (refine w ?_; conv => whnf) | (refine ⟨fun h => absurd h Bool.false_ne_true, fun _ => ?_⟩; conv => whnf) | (refine ⟨fun _ => ?_, fun h => absurd h.symm Bool.false_ne_true⟩; conv => whnf))
  refine ⟨_, _, c56 m.edges, ?_⟩
  (conv => whnf); repeat (first | (refine w ?_; conv => whnf) | (refine ⟨fun h => absurd h Bool.false_ne_true, fun _ => ?_⟩; conv => whnf) | (refine ⟨fun _ => ?_, fun h => absurd h.symm Bool.false_ne_true⟩; conv => whnf))
  refine fin_frz TT ?_ rfl
  rfl
theorem c26 (g : Graph) : Con P 26 [] [g.av, g.av] (.bool true) [] := by
  refine go Tryz.func26 (by rfl) rfl rfl rfl fun hl => ?_
  (conv => whnf); repeat (first | (refine w ?_; conv => whnf) | (refine ⟨fun h => absurd h Bool.false_ne_true, fun _ => ?_⟩; conv => whnf) | (refine ⟨fun _ => ?_, fun h => absurd h.symm Bool.false_ne_true⟩; conv => whnf))
  have hn : g.edges.length ≤ 9223372036854775807 := by
    have := hl (edgs g.edges).length (by simp [lensL, lens, Graph.av, Graph.cs])
    rwa [edgs_len] at this
  refine ⟨_, _, c57 g.nodes, ?_⟩
  (conv => whnf); repeat (first | (refine w ?_; conv => whnf) | (refine ⟨fun h => absurd h Bool.false_ne_true, fun _ => ?_⟩; conv => whnf) | (refine ⟨fun _ => ?_, fun h => absurd h.symm Bool.false_ne_true⟩; conv => whnf))
  refine ⟨fun h => absurd h (by simp), fun _ => ?_⟩
  (conv => whnf); repeat (first | (refine w ?_; conv => whnf) | (refine ⟨fun h => absurd h Bool.false_ne_true, fun _ => ?_⟩; conv => whnf) | (refine ⟨fun _ => ?_, fun h => absurd h.symm Bool.false_ne_true⟩; conv => whnf))
  refine loop (fun i : Nat => mkSt [(5, .int .i64 i), (2, .bptr 0 0), (3, .bptr 1 0)] [.box 25 g.cs, .box 25 g.cs]) (fun i => i ≤ g.edges.length) (fun i => g.edges.length - i) 0 (Nat.zero_le _)
    (le_of [0, 1] rfl rfl rfl ⟨rfl, rfl, rfl, trivial⟩ ⟨rfl, rfl, trivial⟩) ?_
  intro i hi
  (conv => whnf); repeat (first | (refine w ?_; conv => whnf) | (refine ⟨fun h => absurd h Bool.false_ne_true, fun _ => ?_⟩; conv => whnf) | (refine ⟨fun _ => ?_, fun h => absurd h.symm Bool.false_ne_true⟩; conv => whnf))
  rw [edgs_len]
  refine ⟨fun hlt => ?_, fun hge => ?_⟩
  · have hlt := of_lt hlt
    have hx : g.edges[i]? = some g.edges[i] := List.getElem?_eq_getElem hlt
    generalize g.edges[i] = x at hx
    (conv => whnf); repeat (first | (refine w ?_; conv => whnf) | (refine ⟨fun h => absurd h Bool.false_ne_true, fun _ => ?_⟩; conv => whnf) | (refine ⟨fun _ => ?_, fun h => absurd h.symm Bool.false_ne_true⟩; conv => whnf))
    refine ⟨by omega, _, edgs_at hx, ?_⟩
    (conv => whnf); repeat (first | (refine w ?_; conv => whnf) | (refine ⟨fun h => absurd h Bool.false_ne_true, fun _ => ?_⟩; conv => whnf) | (refine ⟨fun _ => ?_, fun h => absurd h.symm Bool.false_ne_true⟩; conv => whnf))
    refine ⟨by omega, _, edgs_at hx, ?_⟩
    (conv => whnf); repeat (first | (refine w ?_; conv => whnf) | (refine ⟨fun h => absurd h Bool.false_ne_true, fun _ => ?_⟩; conv => whnf) | (refine ⟨fun _ => ?_, fun h => absurd h.symm Bool.false_ne_true⟩; conv => whnf))
    refine ⟨eq109, rfl, ?_⟩
    (conv => whnf); repeat (first | (refine w ?_; conv => whnf) | (refine ⟨fun h => absurd h Bool.false_ne_true, fun _ => ?_⟩; conv => whnf) | (refine ⟨fun _ => ?_, fun h => absurd h.symm Bool.false_ne_true⟩; conv => whnf))
    refine ⟨by kernel_rfl, ?_⟩
    (conv => whnf); repeat (first | (refine w ?_; conv => whnf) | (refine ⟨fun h => absurd h Bool.false_ne_true, fun _ => ?_⟩; conv => whnf) | (refine ⟨fun _ => ?_, fun h => absurd h.symm Bool.false_ne_true⟩; conv => whnf))
    refine ⟨fun h => absurd h (by simp), fun _ => ?_⟩
    (conv => whnf); repeat (first | (refine w ?_; conv => whnf) | (refine ⟨fun h => absurd h Bool.false_ne_true, fun _ => ?_⟩; conv => whnf) | (refine ⟨fun _ => ?_, fun h => absurd h.symm Bool.false_ne_true⟩; conv => whnf))
    exact ⟨i + 1, hlt, by show g.edges.length - (i + 1) < g.edges.length - i; omega, le_of [0, 1] rfl rfl rfl ⟨step_num hlt hn, rfl, rfl, trivial⟩ ⟨rfl, rfl, trivial⟩⟩
  · (conv => whnf); repeat (first | (refine w ?_; conv => whnf) | (refine ⟨fun h => absurd h Bool.false_ne_true, fun _ => ?_⟩; conv => whnf) | (refine ⟨fun _ => ?_, fun h => absurd h.symm Bool.false_ne_true⟩; conv => whnf))
    refine fin_frz TT ?_ rfl
    rfl
end Go.Av.Z

/- The reference: conditions that are the same. -/
namespace Go.Av.Z
open Go.Proofs

/-- No condition inside has slots or tests. -/
def noSl (c : Cond) : Prop := (c.pat.slots = [] ∧ c.pat.tests = []) ∧ ∀ x, ∀ _ : x ∈ c.kids, noSl x
termination_by SizeOf.sizeOf c
decreasing_by exact kid_lt (by assumption)
theorem noSl_iff (c : Cond) : noSl c ↔ (c.pat.slots = [] ∧ c.pat.tests = []) ∧ ∀ x ∈ c.kids, noSl x := by rw [noSl]
theorem m9 (c : Cond) (hc : noSl c) (ih : ∀ x ∈ c.kids, noSl x → Con P 9 [] [x.av, x.av] (.bool true) []) : Con P 9 [] [c.av, c.av] (.bool true) [] := by
  obtain ⟨⟨hs, ht⟩, hk⟩ := (noSl_iff c).1 hc
  refine go Tryz.func9 (by rfl) rfl rfl rfl fun hl => ?_
  have hn : c.kids.length ≤ 9223372036854775807 := by
    have := hl (cnds c.kids).length (by simp [lensL, lens, Cond.av, Cond.cs])
    rwa [cnds_len] at this
  (conv => whnf); repeat (first | (refine w ?_; conv => whnf) | (refine ⟨fun h => absurd h Bool.false_ne_true, fun _ => ?_⟩; conv => whnf) | (refine ⟨fun _ => ?_, fun h => absurd h.symm Bool.false_ne_true⟩; conv => whnf))
  refine ⟨fun h => absurd h (by simp), fun _ => ?_⟩
  (conv => whnf); repeat (first | (refine w ?_; conv => whnf) | (refine ⟨fun h => absurd h Bool.false_ne_true, fun _ => ?_⟩; conv => whnf) | (refine ⟨fun _ => ?_, fun h => absurd h.symm Bool.false_ne_true⟩; conv => whnf))
  refine ⟨fun h => absurd h (by simp), fun _ => ?_⟩
  (conv => whnf); repeat (first | (refine w ?_; conv => whnf) | (refine ⟨fun h => absurd h Bool.false_ne_true, fun _ => ?_⟩; conv => whnf) | (refine ⟨fun _ => ?_, fun h => absurd h.symm Bool.false_ne_true⟩; conv => whnf))
  refine ⟨_, _, c25 c.map, ?_⟩
  (conv => whnf); repeat (first | (refine w ?_; conv => whnf) | (refine ⟨fun h => absurd h Bool.false_ne_true, fun _ => ?_⟩; conv => whnf) | (refine ⟨fun _ => ?_, fun h => absurd h.symm Bool.false_ne_true⟩; conv => whnf))
  refine ⟨_, _, c26 c.pat.graph, ?_⟩
  (conv => whnf); repeat (first | (refine w ?_; conv => whnf) | (refine ⟨fun h => absurd h Bool.false_ne_true, fun _ => ?_⟩; conv => whnf) | (refine ⟨fun _ => ?_, fun h => absurd h.symm Bool.false_ne_true⟩; conv => whnf))
  refine ⟨fun h => absurd h (by simp), fun _ => ?_⟩
  (conv => whnf); repeat (first | (refine w ?_; conv => whnf) | (refine ⟨fun h => absurd h Bool.false_ne_true, fun _ => ?_⟩; conv => whnf) | (refine ⟨fun _ => ?_, fun h => absurd h.symm Bool.false_ne_true⟩; conv => whnf))
  refine ⟨fun h => absurd h (by simp), fun _ => ?_⟩
  (conv => whnf); repeat (first | (refine w ?_; conv => whnf) | (refine ⟨fun h => absurd h Bool.false_ne_true, fun _ => ?_⟩; conv => whnf) | (refine ⟨fun _ => ?_, fun h => absurd h.symm Bool.false_ne_true⟩; conv => whnf))
  refine ⟨fun h => absurd h (by simp), fun _ => ?_⟩
  (conv => whnf); repeat (first | (refine w ?_; conv => whnf) | (refine ⟨fun h => absurd h Bool.false_ne_true, fun _ => ?_⟩; conv => whnf) | (refine ⟨fun _ => ?_, fun h => absurd h.symm Bool.false_ne_true⟩; conv => whnf))
  refine loop (fun i : Nat => mkSt [(5, .int .i64 i), (2, .bptr 0 0), (3, .bptr 1 0)] [.box 35 c.cs, .box 35 c.cs]) (fun i => i = 0) (fun i => 0) 0 rfl
    (le_of [0, 1] rfl rfl rfl ⟨rfl, rfl, rfl, trivial⟩ ⟨rfl, rfl, trivial⟩) ?_
  rintro i rfl
  (conv => whnf); repeat (first | (refine w ?_; conv => whnf) | (refine ⟨fun h => absurd h Bool.false_ne_true, fun _ => ?_⟩; conv => whnf) | (refine ⟨fun _ => ?_, fun h => absurd h.symm Bool.false_ne_true⟩; conv => whnf))
  rw [hs]
  refine ⟨fun h => absurd h (by simp [slts]), fun _ => ?_⟩
  (conv => whnf); repeat (first | (refine w ?_; conv => whnf) | (refine ⟨fun h => absurd h Bool.false_ne_true, fun _ => ?_⟩; conv => whnf) | (refine ⟨fun _ => ?_, fun h => absurd h.symm Bool.false_ne_true⟩; conv => whnf))
  refine loop (fun i : Nat => mkSt [(6, .int .i64 i), (2, .bptr 0 0), (3, .bptr 1 0)] [.box 35 c.cs, .box 35 c.cs]) (fun i => i = 0) (fun i => 0) 0 rfl
    (le_of [0, 1] rfl rfl rfl ⟨rfl, rfl, rfl, trivial⟩ ⟨rfl, rfl, trivial⟩) ?_
  rintro i rfl
  (conv => whnf); repeat (first | (refine w ?_; conv => whnf) | (refine ⟨fun h => absurd h Bool.false_ne_true, fun _ => ?_⟩; conv => whnf) | (refine ⟨fun _ => ?_, fun h => absurd h.symm Bool.false_ne_true⟩; conv => whnf))
  rw [ht]
  refine ⟨fun h => absurd h (by simp [tsts]), fun _ => ?_⟩
  (conv => whnf); repeat (first | (refine w ?_; conv => whnf) | (refine ⟨fun h => absurd h Bool.false_ne_true, fun _ => ?_⟩; conv => whnf) | (refine ⟨fun _ => ?_, fun h => absurd h.symm Bool.false_ne_true⟩; conv => whnf))
  refine loop (fun i : Nat => mkSt [(7, .int .i64 i), (2, .bptr 0 0), (3, .bptr 1 0)] [.box 35 c.cs, .box 35 c.cs]) (fun i => i ≤ c.kids.length) (fun i => c.kids.length - i) 0 (Nat.zero_le _)
    (le_of [0, 1] rfl rfl rfl ⟨rfl, rfl, rfl, trivial⟩ ⟨rfl, rfl, trivial⟩) ?_
  intro i hi
  (conv => whnf); repeat (first | (refine w ?_; conv => whnf) | (refine ⟨fun h => absurd h Bool.false_ne_true, fun _ => ?_⟩; conv => whnf) | (refine ⟨fun _ => ?_, fun h => absurd h.symm Bool.false_ne_true⟩; conv => whnf))
  rw [cnds_len]
  refine ⟨fun hlt => ?_, fun hge => ?_⟩
  · have hlt := of_lt hlt
    have hx : c.kids[i]? = some c.kids[i] := List.getElem?_eq_getElem hlt
    generalize c.kids[i] = x at hx
    have hm := List.mem_of_getElem? hx
    (conv => whnf); repeat (first | (refine w ?_; conv => whnf) | (refine ⟨fun h => absurd h Bool.false_ne_true, fun _ => ?_⟩; conv => whnf) | (refine ⟨fun _ => ?_, fun h => absurd h.symm Bool.false_ne_true⟩; conv => whnf))
    refine ⟨by omega, _, cnds_at hx, ?_⟩
    (conv => whnf); repeat (first | (refine w ?_; conv => whnf) | (refine ⟨fun h => absurd h Bool.false_ne_true, fun _ => ?_⟩; conv => whnf) | (refine ⟨fun _ => ?_, fun h => absurd h.symm Bool.false_ne_true⟩; conv => whnf))
    refine ⟨by omega, _, cnds_at hx, ?_⟩
    (conv => whnf); repeat (first | (refine w ?_; conv => whnf) | (refine ⟨fun h => absurd h Bool.false_ne_true, fun _ => ?_⟩; conv => whnf) | (refine ⟨fun _ => ?_, fun h => absurd h.symm Bool.false_ne_true⟩; conv => whnf))
    refine ⟨_, _, ih x hm (hk x hm), ?_⟩
    (conv => whnf); repeat (first | (refine w ?_; conv => whnf) | (refine ⟨fun h => absurd h Bool.false_ne_true, fun _ => ?_⟩; conv => whnf) | (refine ⟨fun _ => ?_, fun h => absurd h.symm Bool.false_ne_true⟩; conv => whnf))
    refine ⟨by kernel_rfl, ?_⟩
    (conv => whnf); repeat (first | (refine w ?_; conv => whnf) | (refine ⟨fun h => absurd h Bool.false_ne_true, fun _ => ?_⟩; conv => whnf) | (refine ⟨fun _ => ?_, fun h => absurd h.symm Bool.false_ne_true⟩; conv => whnf))
    exact ⟨i + 1, hlt, by show c.kids.length - (i + 1) < c.kids.length - i; omega, le_of [0, 1] rfl rfl rfl ⟨step_num hlt hn, rfl, rfl, trivial⟩ ⟨rfl, rfl, trivial⟩⟩
  · (conv => whnf); repeat (first | (refine w ?_; conv => whnf) | (refine ⟨fun h => absurd h Bool.false_ne_true, fun _ => ?_⟩; conv => whnf) | (refine ⟨fun _ => ?_, fun h => absurd h.symm Bool.false_ne_true⟩; conv => whnf))
    refine fin_frz TT ?_ rfl
    rfl
theorem c9 (c : Cond) (hc : noSl c) : Con P 9 [] [c.av, c.av] (.bool true) [] := m9 c hc fun x hx h => c9 x h
termination_by SizeOf.sizeOf c
decreasing_by exact kid_lt hx
end Go.Av.Z

/- Structural rules. -/
namespace Go.Av.Z
open Go.Proofs

/-- The graph that a rule keeps. -/
def kep (r : Rule) : Graph := ext r.left.graph r.keep
/-- The error of a structural rule. -/
def strc (r : Rule) : Int :=
  if gval r.left.graph ≠ 0 then gval r.left.graph else if gval r.right.graph ≠ 0 then gval r.right.graph else if pval r.left.graph r.keep ≠ 0 then pval r.left.graph r.keep else
  if mval (kep r) r.right.graph r.into ≠ 0 then mval (kep r) r.right.graph r.into else if minj (kep r) r.right.graph r.into = false then 11 else
  if (plainB r.left && plainB r.right) = false then 8 else if r.inj = false then 8 else 0
def Rule.fine (r : Rule) : Prop := r.left.slots.length ≤ 1099511627776 ∧ r.left.tests.length ≤ 1099511627776 ∧ r.right.slots.length ≤ 1099511627776 ∧ r.right.tests.length ≤ 1099511627776
theorem plain_sum {p : Pat} (h1 : p.slots.length ≤ 1099511627776) (h2 : p.tests.length ≤ 1099511627776) : decide ((0 : Int) < IntKind.i64.wrap ((p.slots.length : Int) + (p.tests.length : Int))) = !(((p.slots.length : Int) == 0) && ((p.tests.length : Int) == 0)) := by
  rw [wrap_small (by omega) (by omega)]
  cases h : (((p.slots.length : Int) == 0) && ((p.tests.length : Int) == 0)) with
  | true => simp at h; simp [h.1, h.2]
  | false =>
    have : 0 < (p.slots.length : Int) + (p.tests.length : Int) := by
      rcases Nat.eq_zero_or_pos p.slots.length with h1 | h1
      · rcases Nat.eq_zero_or_pos p.tests.length with h2 | h2
        · rw [h1, h2] at h; cases h
        · omega
      · omega
    simp [this]

theorem c19 (r : Rule) (hf : r.fine) : Con P 19 [] [r.av] (.int .i64 (strc r)) [] := by
  obtain ⟨hf1, hf2, hf3, hf4⟩ := hf
  refine go Tryz.func19 (by rfl) rfl rfl rfl fun hl => ?_
  (conv => whnf); repeat (first | (refine w ?_; conv => whnf) | (refine ⟨fun h => absurd h Bool.false_ne_true, fun _ => ?_⟩; conv => whnf) | (refine ⟨fun _ => ?_, fun h => absurd h.symm Bool.false_ne_true⟩; conv => whnf))
  refine ⟨_, _, c31 r.left.graph, ?_⟩
  (conv => whnf); repeat (first | (refine w ?_; conv => whnf) | (refine ⟨fun h => absurd h Bool.false_ne_true, fun _ => ?_⟩; conv => whnf) | (refine ⟨fun _ => ?_, fun h => absurd h.symm Bool.false_ne_true⟩; conv => whnf))
  refine ⟨fun h => ?_, fun h => ?_⟩
  · (conv => whnf); repeat (first | (refine w ?_; conv => whnf) | (refine ⟨fun h => absurd h Bool.false_ne_true, fun _ => ?_⟩; conv => whnf) | (refine ⟨fun _ => ?_, fun h => absurd h.symm Bool.false_ne_true⟩; conv => whnf))
    refine fin_frz TT ?_ rfl
    rw [strc, if_pos (by simpa using h)]; rfl
  have h1 : gval r.left.graph = 0 := by simpa using h
  (conv => whnf); repeat (first | (refine w ?_; conv => whnf) | (refine ⟨fun h => absurd h Bool.false_ne_true, fun _ => ?_⟩; conv => whnf) | (refine ⟨fun _ => ?_, fun h => absurd h.symm Bool.false_ne_true⟩; conv => whnf))
  refine ⟨_, _, c31 r.right.graph, ?_⟩
  (conv => whnf); repeat (first | (refine w ?_; conv => whnf) | (refine ⟨fun h => absurd h Bool.false_ne_true, fun _ => ?_⟩; conv => whnf) | (refine ⟨fun _ => ?_, fun h => absurd h.symm Bool.false_ne_true⟩; conv => whnf))
  refine ⟨fun h => ?_, fun h => ?_⟩
  · (conv => whnf); repeat (first | (refine w ?_; conv => whnf) | (refine ⟨fun h => absurd h Bool.false_ne_true, fun _ => ?_⟩; conv => whnf) | (refine ⟨fun _ => ?_, fun h => absurd h.symm Bool.false_ne_true⟩; conv => whnf))
    refine fin_frz TT ?_ rfl
    rw [strc, if_neg (by simp [h1]), if_pos (by simpa using h)]; rfl
  have h2 : gval r.right.graph = 0 := by simpa using h
  (conv => whnf); repeat (first | (refine w ?_; conv => whnf) | (refine ⟨fun h => absurd h Bool.false_ne_true, fun _ => ?_⟩; conv => whnf) | (refine ⟨fun _ => ?_, fun h => absurd h.symm Bool.false_ne_true⟩; conv => whnf))
  refine ⟨_, _, c38 r.left.graph r.keep, ?_⟩
  (conv => whnf); repeat (first | (refine w ?_; conv => whnf) | (refine ⟨fun h => absurd h Bool.false_ne_true, fun _ => ?_⟩; conv => whnf) | (refine ⟨fun _ => ?_, fun h => absurd h.symm Bool.false_ne_true⟩; conv => whnf))
  refine ⟨fun h => ?_, fun h => ?_⟩
  · (conv => whnf); repeat (first | (refine w ?_; conv => whnf) | (refine ⟨fun h => absurd h Bool.false_ne_true, fun _ => ?_⟩; conv => whnf) | (refine ⟨fun _ => ?_, fun h => absurd h.symm Bool.false_ne_true⟩; conv => whnf))
    refine fin_frz TT ?_ rfl
    rw [strc, if_neg (by simp [h1]), if_neg (by simp [h2]), if_pos (by simpa using h)]; rfl
  have h3 : pval r.left.graph r.keep = 0 := by simpa using h
  (conv => whnf); repeat (first | (refine w ?_; conv => whnf) | (refine ⟨fun h => absurd h Bool.false_ne_true, fun _ => ?_⟩; conv => whnf) | (refine ⟨fun _ => ?_, fun h => absurd h.symm Bool.false_ne_true⟩; conv => whnf))
  refine ⟨_, _, c39 r.left.graph r.keep h3, ?_⟩
  (conv => whnf); repeat (first | (refine w ?_; conv => whnf) | (refine ⟨fun h => absurd h Bool.false_ne_true, fun _ => ?_⟩; conv => whnf) | (refine ⟨fun _ => ?_, fun h => absurd h.symm Bool.false_ne_true⟩; conv => whnf))
  refine ⟨_, _, c40 (kep r) r.right.graph r.into, ?_⟩
  (conv => whnf); repeat (first | (refine w ?_; conv => whnf) | (refine ⟨fun h => absurd h Bool.false_ne_true, fun _ => ?_⟩; conv => whnf) | (refine ⟨fun _ => ?_, fun h => absurd h.symm Bool.false_ne_true⟩; conv => whnf))
  refine ⟨fun h => ?_, fun h => ?_⟩
  · (conv => whnf); repeat (first | (refine w ?_; conv => whnf) | (refine ⟨fun h => absurd h Bool.false_ne_true, fun _ => ?_⟩; conv => whnf) | (refine ⟨fun _ => ?_, fun h => absurd h.symm Bool.false_ne_true⟩; conv => whnf))
    refine fin_frz TT ?_ rfl
    rw [strc, if_neg (by simp [h1]), if_neg (by simp [h2]), if_neg (by simp [h3]), if_pos (by simpa using h)]; rfl
  have h4 : mval (kep r) r.right.graph r.into = 0 := by simpa using h
  (conv => whnf); repeat (first | (refine w ?_; conv => whnf) | (refine ⟨fun h => absurd h Bool.false_ne_true, fun _ => ?_⟩; conv => whnf) | (refine ⟨fun _ => ?_, fun h => absurd h.symm Bool.false_ne_true⟩; conv => whnf))
  refine ⟨_, _, c41 (kep r) r.right.graph r.into, ?_⟩
  (conv => whnf); repeat (first | (refine w ?_; conv => whnf) | (refine ⟨fun h => absurd h Bool.false_ne_true, fun _ => ?_⟩; conv => whnf) | (refine ⟨fun _ => ?_, fun h => absurd h.symm Bool.false_ne_true⟩; conv => whnf))
  refine ⟨fun h => ?_, fun h => ?_⟩
  · (conv => whnf); repeat (first | (refine w ?_; conv => whnf) | (refine ⟨fun h => absurd h Bool.false_ne_true, fun _ => ?_⟩; conv => whnf) | (refine ⟨fun _ => ?_, fun h => absurd h.symm Bool.false_ne_true⟩; conv => whnf))
    refine fin_frz TT ?_ rfl
    rw [strc, if_neg (by simp [h1]), if_neg (by simp [h2]), if_neg (by simp [h3]), if_neg (by simp [h4]), if_pos (by simpa using h)]; rfl
  have h5 : minj (kep r) r.right.graph r.into = true := by simpa using h
  have e : strc r = if (plainB r.left && plainB r.right) = false then 8 else if r.inj = false then 8 else 0 := by rw [strc, if_neg (by simp [h1]), if_neg (by simp [h2]), if_neg (by simp [h3]), if_neg (by simp [h4]), if_neg (by simp [h5])]
  (conv => whnf); repeat (first | (refine w ?_; conv => whnf) | (refine ⟨fun h => absurd h Bool.false_ne_true, fun _ => ?_⟩; conv => whnf) | (refine ⟨fun _ => ?_, fun h => absurd h.symm Bool.false_ne_true⟩; conv => whnf))
  refine loop (fun i : Nat => mkSt [(72, .int .i64 i), (71, .int .i64 2), (70, .ref 1), (1, .bptr 0 0)] [.box 37 r.cs, .row 29 5 [r.left.cs, r.right.cs]]) (fun i => i ≤ 2 ∧ (1 ≤ i → plainB r.left = true) ∧ (2 ≤ i → plainB r.right = true)) (fun i => 2 - i) 0 ⟨by omega, by omega, by omega⟩
    (le_of [0, 13] rfl rfl rfl ⟨rfl, rfl, rfl, rfl, trivial⟩ ⟨rfl, rfl, trivial⟩) ?_
  rintro i ⟨hi, hl1, hl2⟩
  (conv => whnf); repeat (first | (refine w ?_; conv => whnf) | (refine ⟨fun h => absurd h Bool.false_ne_true, fun _ => ?_⟩; conv => whnf) | (refine ⟨fun _ => ?_, fun h => absurd h.symm Bool.false_ne_true⟩; conv => whnf))
  refine ⟨fun hlt => ?_, fun hge => ?_⟩
  · have hlt : i < 2 := by simp at hlt; omega
    rcases (by omega : i = 0 ∨ i = 1) with rfl | rfl
    · (conv => whnf); repeat (first | (refine w ?_; conv => whnf) | (refine ⟨fun h => absurd h Bool.false_ne_true, fun _ => ?_⟩; conv => whnf) | (refine ⟨fun _ => ?_, fun h => absurd h.symm Bool.false_ne_true⟩; conv => whnf))
      refine ⟨⟨by omega, by simp⟩, ?_⟩
      (conv => whnf); repeat (first | (refine w ?_; conv => whnf) | (refine ⟨fun h => absurd h Bool.false_ne_true, fun _ => ?_⟩; conv => whnf) | (refine ⟨fun _ => ?_, fun h => absurd h.symm Bool.false_ne_true⟩; conv => whnf))
      refine ⟨rfl, _, rfl, ?_⟩
      (conv => whnf); repeat (first | (refine w ?_; conv => whnf) | (refine ⟨fun h => absurd h Bool.false_ne_true, fun _ => ?_⟩; conv => whnf) | (refine ⟨fun _ => ?_, fun h => absurd h.symm Bool.false_ne_true⟩; conv => whnf))
      rw [slts_len, tsts_len, plain_sum hf1 hf2]
      refine ⟨fun h => ?_, fun h => ?_⟩
      · have hp : plainB r.left = false := by rw [plainB]; revert h; cases ((r.left.slots.length : Int) == 0) <;> cases ((r.left.tests.length : Int) == 0) <;> cases (r.left.vars == 0) <;> simp
        (conv => whnf); repeat (first | (refine w ?_; conv => whnf) | (refine ⟨fun h => absurd h Bool.false_ne_true, fun _ => ?_⟩; conv => whnf) | (refine ⟨fun _ => ?_, fun h => absurd h.symm Bool.false_ne_true⟩; conv => whnf))
        refine fin_frz TT ?_ rfl
        rw [e, if_pos (by rw [hp]; rfl)]; rfl
      · (conv => whnf); repeat (first | (refine w ?_; conv => whnf) | (refine ⟨fun h => absurd h Bool.false_ne_true, fun _ => ?_⟩; conv => whnf) | (refine ⟨fun _ => ?_, fun h => absurd h.symm Bool.false_ne_true⟩; conv => whnf))
        refine ⟨fun h' => ?_, fun h' => ?_⟩
        · have hp : plainB r.left = false := by rw [plainB]; revert h'; cases hv : (r.left.vars == 0) <;> simp [bne, hv]
          (conv => whnf); repeat (first | (refine w ?_; conv => whnf) | (refine ⟨fun h => absurd h Bool.false_ne_true, fun _ => ?_⟩; conv => whnf) | (refine ⟨fun _ => ?_, fun h => absurd h.symm Bool.false_ne_true⟩; conv => whnf))
          refine fin_frz TT ?_ rfl
          rw [e, if_pos (by rw [hp]; rfl)]; rfl
        · have hp : plainB r.left = true := by rw [plainB]; revert h h'; cases ((r.left.slots.length : Int) == 0) <;> cases ((r.left.tests.length : Int) == 0) <;> cases hv : (r.left.vars == 0) <;> simp [bne, hv]
          (conv => whnf); repeat (first | (refine w ?_; conv => whnf) | (refine ⟨fun h => absurd h Bool.false_ne_true, fun _ => ?_⟩; conv => whnf) | (refine ⟨fun _ => ?_, fun h => absurd h.symm Bool.false_ne_true⟩; conv => whnf))
          exact ⟨1, ⟨by omega, fun _ => hp, by omega⟩, by decide, le_of [0, 1] rfl rfl rfl ⟨rfl, rfl, rfl, rfl, trivial⟩ ⟨rfl, rfl, trivial⟩⟩
    · have hpl := hl1 (by omega)
      (conv => whnf); repeat (first | (refine w ?_; conv => whnf) | (refine ⟨fun h => absurd h Bool.false_ne_true, fun _ => ?_⟩; conv => whnf) | (refine ⟨fun _ => ?_, fun h => absurd h.symm Bool.false_ne_true⟩; conv => whnf))
      refine ⟨⟨by omega, by simp⟩, ?_⟩
      (conv => whnf); repeat (first | (refine w ?_; conv => whnf) | (refine ⟨fun h => absurd h Bool.false_ne_true, fun _ => ?_⟩; conv => whnf) | (refine ⟨fun _ => ?_, fun h => absurd h.symm Bool.false_ne_true⟩; conv => whnf))
      refine ⟨rfl, _, rfl, ?_⟩
      (conv => whnf); repeat (first | (refine w ?_; conv => whnf) | (refine ⟨fun h => absurd h Bool.false_ne_true, fun _ => ?_⟩; conv => whnf) | (refine ⟨fun _ => ?_, fun h => absurd h.symm Bool.false_ne_true⟩; conv => whnf))
      rw [slts_len, tsts_len, plain_sum hf3 hf4]
      refine ⟨fun h => ?_, fun h => ?_⟩
      · have hp : plainB r.right = false := by rw [plainB]; revert h; cases ((r.right.slots.length : Int) == 0) <;> cases ((r.right.tests.length : Int) == 0) <;> cases (r.right.vars == 0) <;> simp
        (conv => whnf); repeat (first | (refine w ?_; conv => whnf) | (refine ⟨fun h => absurd h Bool.false_ne_true, fun _ => ?_⟩; conv => whnf) | (refine ⟨fun _ => ?_, fun h => absurd h.symm Bool.false_ne_true⟩; conv => whnf))
        refine fin_frz TT ?_ rfl
        rw [e, if_pos (by rw [hp, hpl]; rfl)]; rfl
      · (conv => whnf); repeat (first | (refine w ?_; conv => whnf) | (refine ⟨fun h => absurd h Bool.false_ne_true, fun _ => ?_⟩; conv => whnf) | (refine ⟨fun _ => ?_, fun h => absurd h.symm Bool.false_ne_true⟩; conv => whnf))
        refine ⟨fun h' => ?_, fun h' => ?_⟩
        · have hp : plainB r.right = false := by rw [plainB]; revert h'; cases hv : (r.right.vars == 0) <;> simp [bne, hv]
          (conv => whnf); repeat (first | (refine w ?_; conv => whnf) | (refine ⟨fun h => absurd h Bool.false_ne_true, fun _ => ?_⟩; conv => whnf) | (refine ⟨fun _ => ?_, fun h => absurd h.symm Bool.false_ne_true⟩; conv => whnf))
          refine fin_frz TT ?_ rfl
          rw [e, if_pos (by rw [hp, hpl]; rfl)]; rfl
        · have hp : plainB r.right = true := by rw [plainB]; revert h h'; cases ((r.right.slots.length : Int) == 0) <;> cases ((r.right.tests.length : Int) == 0) <;> cases hv : (r.right.vars == 0) <;> simp [bne, hv]
          (conv => whnf); repeat (first | (refine w ?_; conv => whnf) | (refine ⟨fun h => absurd h Bool.false_ne_true, fun _ => ?_⟩; conv => whnf) | (refine ⟨fun _ => ?_, fun h => absurd h.symm Bool.false_ne_true⟩; conv => whnf))
          exact ⟨2, ⟨by omega, fun _ => hpl, fun _ => hp⟩, by decide, le_of [0, 1] rfl rfl rfl ⟨rfl, rfl, rfl, rfl, trivial⟩ ⟨rfl, rfl, trivial⟩⟩
  · have hge : ¬ i < 2 := by simp at hge; omega
    have hpl := hl1 (by omega)
    have hpr := hl2 (by omega)
    (conv => whnf); repeat (first | (refine w ?_; conv => whnf) | (refine ⟨fun h => absurd h Bool.false_ne_true, fun _ => ?_⟩; conv => whnf) | (refine ⟨fun _ => ?_, fun h => absurd h.symm Bool.false_ne_true⟩; conv => whnf))
    refine ⟨fun h => ?_, fun h => ?_⟩
    · (conv => whnf); repeat (first | (refine w ?_; conv => whnf) | (refine ⟨fun h => absurd h Bool.false_ne_true, fun _ => ?_⟩; conv => whnf) | (refine ⟨fun _ => ?_, fun h => absurd h.symm Bool.false_ne_true⟩; conv => whnf))
      refine fin_frz TT ?_ rfl
      rw [e, hpl, hpr, if_neg (by simp), if_pos (by simpa using h)]; rfl
    · (conv => whnf); repeat (first | (refine w ?_; conv => whnf) | (refine ⟨fun h => absurd h Bool.false_ne_true, fun _ => ?_⟩; conv => whnf) | (refine ⟨fun _ => ?_, fun h => absurd h.symm Bool.false_ne_true⟩; conv => whnf))
      refine fin_frz TT ?_ rfl
      rw [e, hpl, hpr, if_neg (by simp), if_neg (by simpa using h)]; rfl
end Go.Av.Z

/- The reference: structural rules. -/
namespace Go.Av.Z
open Go.Proofs

theorem four_sum {a b c d : Nat} (ha : a ≤ 1099511627776) (hb : b ≤ 1099511627776) (hc : c ≤ 1099511627776) (hd : d ≤ 1099511627776) :
    (IntKind.i64.wrap (IntKind.i64.wrap (IntKind.i64.wrap ((a : Int) + (b : Int)) + (c : Int)) + (d : Int)) == 0) = ((((a : Int) == 0) && ((b : Int) == 0)) && (((c : Int) == 0) && ((d : Int) == 0))) := by
  rw [wrap_small (n := (a : Int) + b) (by omega) (by omega), wrap_small (n := (a : Int) + b + c) (by omega) (by omega), wrap_small (n := (a : Int) + b + c + d) (by omega) (by omega), Bool.eq_iff_iff]
  simp
  omega
theorem plain_split (p q : Pat) : (plainB p && plainB q) = (((((p.slots.length : Int) == 0) && ((p.tests.length : Int) == 0)) && (((q.slots.length : Int) == 0) && ((q.tests.length : Int) == 0))) && ((p.vars == 0) && (q.vars == 0))) := by
  rw [plainB, plainB]
  cases ((p.slots.length : Int) == 0) <;> cases ((p.tests.length : Int) == 0) <;> cases ((q.slots.length : Int) == 0) <;> cases ((q.tests.length : Int) == 0) <;> cases (p.vars == 0) <;> cases (q.vars == 0) <;> rfl

theorem c22 (r : Rule) (hf : r.fine) : Con P 22 [] [r.av] (.int .i64 (strc r)) [] := by
  obtain ⟨hf1, hf2, hf3, hf4⟩ := hf
  refine go Tryz.func22 (by rfl) rfl rfl rfl fun hl => ?_
  (conv => whnf); repeat (first | (refine w ?_; conv => whnf) | (refine ⟨fun h => absurd h Bool.false_ne_true, fun _ => ?_⟩; conv => whnf) | (refine ⟨fun _ => ?_, fun h => absurd h.symm Bool.false_ne_true⟩; conv => whnf))
  refine ⟨_, _, c35 r.left.graph, ?_⟩
  (conv => whnf); repeat (first | (refine w ?_; conv => whnf) | (refine ⟨fun h => absurd h Bool.false_ne_true, fun _ => ?_⟩; conv => whnf) | (refine ⟨fun _ => ?_, fun h => absurd h.symm Bool.false_ne_true⟩; conv => whnf))
  refine ⟨fun h => ?_, fun h => ?_⟩
  · (conv => whnf); repeat (first | (refine w ?_; conv => whnf) | (refine ⟨fun h => absurd h Bool.false_ne_true, fun _ => ?_⟩; conv => whnf) | (refine ⟨fun _ => ?_, fun h => absurd h.symm Bool.false_ne_true⟩; conv => whnf))
    refine fin_frz TT ?_ rfl
    rw [strc, if_pos (by simpa using h)]; rfl
  have h1 : gval r.left.graph = 0 := by simpa using h
  (conv => whnf); repeat (first | (refine w ?_; conv => whnf) | (refine ⟨fun h => absurd h Bool.false_ne_true, fun _ => ?_⟩; conv => whnf) | (refine ⟨fun _ => ?_, fun h => absurd h.symm Bool.false_ne_true⟩; conv => whnf))
  refine ⟨_, _, c35 r.right.graph, ?_⟩
  (conv => whnf); repeat (first | (refine w ?_; conv => whnf) | (refine ⟨fun h => absurd h Bool.false_ne_true, fun _ => ?_⟩; conv => whnf) | (refine ⟨fun _ => ?_, fun h => absurd h.symm Bool.false_ne_true⟩; conv => whnf))
  refine ⟨fun h => ?_, fun h => ?_⟩
  · (conv => whnf); repeat (first | (refine w ?_; conv => whnf) | (refine ⟨fun h => absurd h Bool.false_ne_true, fun _ => ?_⟩; conv => whnf) | (refine ⟨fun _ => ?_, fun h => absurd h.symm Bool.false_ne_true⟩; conv => whnf))
    refine fin_frz TT ?_ rfl
    rw [strc, if_neg (by simp [h1]), if_pos (by simpa using h)]; rfl
  have h2 : gval r.right.graph = 0 := by simpa using h
  (conv => whnf); repeat (first | (refine w ?_; conv => whnf) | (refine ⟨fun h => absurd h Bool.false_ne_true, fun _ => ?_⟩; conv => whnf) | (refine ⟨fun _ => ?_, fun h => absurd h.symm Bool.false_ne_true⟩; conv => whnf))
  refine ⟨_, _, c43 r.left.graph r.keep, ?_⟩
  (conv => whnf); repeat (first | (refine w ?_; conv => whnf) | (refine ⟨fun h => absurd h Bool.false_ne_true, fun _ => ?_⟩; conv => whnf) | (refine ⟨fun _ => ?_, fun h => absurd h.symm Bool.false_ne_true⟩; conv => whnf))
  refine ⟨fun h => ?_, fun h => ?_⟩
  · (conv => whnf); repeat (first | (refine w ?_; conv => whnf) | (refine ⟨fun h => absurd h Bool.false_ne_true, fun _ => ?_⟩; conv => whnf) | (refine ⟨fun _ => ?_, fun h => absurd h.symm Bool.false_ne_true⟩; conv => whnf))
    refine fin_frz TT ?_ rfl
    rw [strc, if_neg (by simp [h1]), if_neg (by simp [h2]), if_pos (by simpa using h)]; rfl
  have h3 : pval r.left.graph r.keep = 0 := by simpa using h
  (conv => whnf); repeat (first | (refine w ?_; conv => whnf) | (refine ⟨fun h => absurd h Bool.false_ne_true, fun _ => ?_⟩; conv => whnf) | (refine ⟨fun _ => ?_, fun h => absurd h.symm Bool.false_ne_true⟩; conv => whnf))
  refine ⟨_, _, c44 r.left.graph r.keep h3, ?_⟩
  (conv => whnf); repeat (first | (refine w ?_; conv => whnf) | (refine ⟨fun h => absurd h Bool.false_ne_true, fun _ => ?_⟩; conv => whnf) | (refine ⟨fun _ => ?_, fun h => absurd h.symm Bool.false_ne_true⟩; conv => whnf))
  refine ⟨_, _, c45 (kep r) r.right.graph r.into, ?_⟩
  (conv => whnf); repeat (first | (refine w ?_; conv => whnf) | (refine ⟨fun h => absurd h Bool.false_ne_true, fun _ => ?_⟩; conv => whnf) | (refine ⟨fun _ => ?_, fun h => absurd h.symm Bool.false_ne_true⟩; conv => whnf))
  refine ⟨fun h => ?_, fun h => ?_⟩
  · (conv => whnf); repeat (first | (refine w ?_; conv => whnf) | (refine ⟨fun h => absurd h Bool.false_ne_true, fun _ => ?_⟩; conv => whnf) | (refine ⟨fun _ => ?_, fun h => absurd h.symm Bool.false_ne_true⟩; conv => whnf))
    refine fin_frz TT ?_ rfl
    rw [strc, if_neg (by simp [h1]), if_neg (by simp [h2]), if_neg (by simp [h3]), if_pos (by simpa using h)]; rfl
  have h4 : mval (kep r) r.right.graph r.into = 0 := by simpa using h
  (conv => whnf); repeat (first | (refine w ?_; conv => whnf) | (refine ⟨fun h => absurd h Bool.false_ne_true, fun _ => ?_⟩; conv => whnf) | (refine ⟨fun _ => ?_, fun h => absurd h.symm Bool.false_ne_true⟩; conv => whnf))
  refine ⟨_, _, c46 (kep r) r.right.graph r.into, ?_⟩
  (conv => whnf); repeat (first | (refine w ?_; conv => whnf) | (refine ⟨fun h => absurd h Bool.false_ne_true, fun _ => ?_⟩; conv => whnf) | (refine ⟨fun _ => ?_, fun h => absurd h.symm Bool.false_ne_true⟩; conv => whnf))
  refine ⟨fun h => ?_, fun h => ?_⟩
  · (conv => whnf); repeat (first | (refine w ?_; conv => whnf) | (refine ⟨fun h => absurd h Bool.false_ne_true, fun _ => ?_⟩; conv => whnf) | (refine ⟨fun _ => ?_, fun h => absurd h.symm Bool.false_ne_true⟩; conv => whnf))
    refine fin_frz TT ?_ rfl
    rw [strc, if_neg (by simp [h1]), if_neg (by simp [h2]), if_neg (by simp [h3]), if_neg (by simp [h4]), if_pos (by simpa using h)]; rfl
  have h5 : minj (kep r) r.right.graph r.into = true := by simpa using h
  have e : strc r = if (plainB r.left && plainB r.right) = false then 8 else if r.inj = false then 8 else 0 := by rw [strc, if_neg (by simp [h1]), if_neg (by simp [h2]), if_neg (by simp [h3]), if_neg (by simp [h4]), if_neg (by simp [h5])]
  rw [plain_split] at e
  (conv => whnf); repeat (first | (refine w ?_; conv => whnf) | (refine ⟨fun h => absurd h Bool.false_ne_true, fun _ => ?_⟩; conv => whnf) | (refine ⟨fun _ => ?_, fun h => absurd h.symm Bool.false_ne_true⟩; conv => whnf))
  rw [slts_len, tsts_len, slts_len, tsts_len, four_sum hf1 hf2 hf3 hf4]
  refine ⟨fun k1 => ?_, fun k1 => ?_⟩
  · rw [k1, Bool.true_and] at e
    (conv => whnf); repeat (first | (refine w ?_; conv => whnf) | (refine ⟨fun h => absurd h Bool.false_ne_true, fun _ => ?_⟩; conv => whnf) | (refine ⟨fun _ => ?_, fun h => absurd h.symm Bool.false_ne_true⟩; conv => whnf))
    refine ⟨fun k2 => ?_, fun k2 => ?_⟩
    · rw [k2, Bool.true_and] at e
      (conv => whnf); repeat (first | (refine w ?_; conv => whnf) | (refine ⟨fun h => absurd h Bool.false_ne_true, fun _ => ?_⟩; conv => whnf) | (refine ⟨fun _ => ?_, fun h => absurd h.symm Bool.false_ne_true⟩; conv => whnf))
      refine ⟨fun k3 => ?_, fun k3 => ?_⟩
      · have k3 : (r.right.vars == 0) = false := by simpa using k3
        rw [k3] at e
        (conv => whnf); repeat (first | (refine w ?_; conv => whnf) | (refine ⟨fun h => absurd h Bool.false_ne_true, fun _ => ?_⟩; conv => whnf) | (refine ⟨fun _ => ?_, fun h => absurd h.symm Bool.false_ne_true⟩; conv => whnf))
        refine fin_frz TT ?_ rfl
        rw [e]; rfl
      · rw [if_neg (by simp at k3; simp [k3])] at e
        (conv => whnf); repeat (first | (refine w ?_; conv => whnf) | (refine ⟨fun h => absurd h Bool.false_ne_true, fun _ => ?_⟩; conv => whnf) | (refine ⟨fun _ => ?_, fun h => absurd h.symm Bool.false_ne_true⟩; conv => whnf))
        refine ⟨fun k4 => ?_, fun k4 => ?_⟩
        · (conv => whnf); repeat (first | (refine w ?_; conv => whnf) | (refine ⟨fun h => absurd h Bool.false_ne_true, fun _ => ?_⟩; conv => whnf) | (refine ⟨fun _ => ?_, fun h => absurd h.symm Bool.false_ne_true⟩; conv => whnf))
          refine fin_frz TT ?_ rfl
          rw [e, if_pos (by simpa using k4)]; rfl
        · (conv => whnf); repeat (first | (refine w ?_; conv => whnf) | (refine ⟨fun h => absurd h Bool.false_ne_true, fun _ => ?_⟩; conv => whnf) | (refine ⟨fun _ => ?_, fun h => absurd h.symm Bool.false_ne_true⟩; conv => whnf))
          refine fin_frz TT ?_ rfl
          rw [e, if_neg (by simpa using k4)]; rfl
    · rw [k2] at e
      (conv => whnf); repeat (first | (refine w ?_; conv => whnf) | (refine ⟨fun h => absurd h Bool.false_ne_true, fun _ => ?_⟩; conv => whnf) | (refine ⟨fun _ => ?_, fun h => absurd h.symm Bool.false_ne_true⟩; conv => whnf))
      refine fin_frz TT ?_ rfl
      rw [e]; rfl
  · rw [k1] at e
    (conv => whnf); repeat (first | (refine w ?_; conv => whnf) | (refine ⟨fun h => absurd h Bool.false_ne_true, fun _ => ?_⟩; conv => whnf) | (refine ⟨fun _ => ?_, fun h => absurd h.symm Bool.false_ne_true⟩; conv => whnf))
    refine fin_frz TT ?_ rfl
    rw [e]; rfl
end Go.Av.Z

/- slices.Concat; numbers in order. -/
namespace Go.Av.Z
open Go.Proofs

def lsts (l : List (List Int)) : List (List AV) := l.map fun x => [.slice 1 (nums x)]
theorem lsts_len (l : List (List Int)) : (lsts l).length = l.length := by simp [lsts]
theorem lsts_at {l : List (List Int)} {i : Nat} {x : List Int} (h : l[i]? = some x) : (lsts l)[i]? = some [.slice 1 (nums x)] := by simp [lsts, h]
theorem flat_take {l : List (List Int)} {i : Nat} {x : List Int} (h : l[i]? = some x) : (l.take (i + 1)).flatten = (l.take i).flatten ++ x := by
  rw [List.take_add_one, h]; simp
theorem flat_le {l : List (List Int)} (i : Nat) : (l.take i).flatten.length ≤ l.flatten.length := by
  have := congrArg (fun z => z.flatten.length) (List.take_append_drop i l)
  simp only [List.flatten_append, List.length_append] at this
  omega
theorem nums_apps (a b : List Int) : nums (a ++ b) = nums a ++ nums b := by simp [nums]
theorem c185 (l : List (List Int)) (hl1 : l.length ≤ 1000) (hl2 : l.flatten.length ≤ 1000000) : Con P 185 [] [.slice 1 (lsts l)] (.slice 1 (nums l.flatten)) [] := by
  refine go Tryz.func185 (by rfl) rfl rfl rfl fun hl => ?_
  (conv => whnf); repeat (first | (refine w ?_; conv => whnf) | (refine ⟨fun h => absurd h Bool.false_ne_true, fun _ => ?_⟩; conv => whnf) | (refine ⟨fun _ => ?_, fun h => absurd h.symm Bool.false_ne_true⟩; conv => whnf))
  rw [lsts_len]
  refine loop (fun i : Nat => mkSt [(11, .int .i64 i), (10, .int .i64 l.length), (9, .slice 1 (lsts l)), (0, .slice 1 (lsts l)), (3, .int .i64 (l.take i).flatten.length)] []) (fun i => i ≤ l.length) (fun i => l.length - i) 0 (Nat.zero_le _)
    (le_of [] rfl rfl rfl ⟨rfl, rfl, rfl, rfl, rfl, trivial⟩ trivial) ?_
  intro i hi
  (conv => whnf); repeat (first | (refine w ?_; conv => whnf) | (refine ⟨fun h => absurd h Bool.false_ne_true, fun _ => ?_⟩; conv => whnf) | (refine ⟨fun _ => ?_, fun h => absurd h.symm Bool.false_ne_true⟩; conv => whnf))
  refine ⟨fun hlt => ?_, fun hge => ?_⟩
  · have hlt := of_lt hlt
    have hx : l[i]? = some l[i] := List.getElem?_eq_getElem hlt
    generalize l[i] = x at hx
    have hf := flat_take hx
    have hle := flat_le (l := l) (i + 1)
    rw [hf, List.length_append] at hle
    (conv => whnf); repeat (first | (refine w ?_; conv => whnf) | (refine ⟨fun h => absurd h Bool.false_ne_true, fun _ => ?_⟩; conv => whnf) | (refine ⟨fun _ => ?_, fun h => absurd h.symm Bool.false_ne_true⟩; conv => whnf))
    refine ⟨by omega, _, lsts_at hx, ?_⟩
    (conv => whnf); repeat (first | (refine w ?_; conv => whnf) | (refine ⟨fun h => absurd h Bool.false_ne_true, fun _ => ?_⟩; conv => whnf) | (refine ⟨fun _ => ?_, fun h => absurd h.symm Bool.false_ne_true⟩; conv => whnf))
    rw [nums_len, wrap_small (by omega) (by omega)]
    refine ⟨fun h => ?_, fun h => ?_⟩
    · exfalso; simp at h; omega
    · (conv => whnf); repeat (first | (refine w ?_; conv => whnf) | (refine ⟨fun h => absurd h Bool.false_ne_true, fun _ => ?_⟩; conv => whnf) | (refine ⟨fun _ => ?_, fun h => absurd h.symm Bool.false_ne_true⟩; conv => whnf))
      exact ⟨i + 1, hlt, by show l.length - (i + 1) < l.length - i; omega, le_of [] rfl rfl rfl ⟨step_num hlt (by omega), rfl, rfl, rfl, by rw [hf, List.length_append, Int.natCast_add]; rfl, trivial⟩ trivial⟩
  · have hge := of_ge hge
    rw [take_of_all hge]
    (conv => whnf); repeat (first | (refine w ?_; conv => whnf) | (refine ⟨fun h => absurd h Bool.false_ne_true, fun _ => ?_⟩; conv => whnf) | (refine ⟨fun _ => ?_, fun h => absurd h.symm Bool.false_ne_true⟩; conv => whnf))
    refine ⟨_, _, c200 l.flatten.length hl2, ?_⟩
    (conv => whnf); repeat (first | (refine w ?_; conv => whnf) | (refine ⟨fun h => absurd h Bool.false_ne_true, fun _ => ?_⟩; conv => whnf) | (refine ⟨fun _ => ?_, fun h => absurd h.symm Bool.false_ne_true⟩; conv => whnf))
    refine loop (fun i : Nat => mkSt [(27, .int .i64 i), (26, .int .i64 l.length), (25, .slice 1 (lsts l)), (6, .ref 0)] [.row 3 1 (nums (l.take i).flatten)]) (fun i => i ≤ l.length) (fun i => l.length - i) 0 (Nat.zero_le _)
      (le_of [0] rfl rfl rfl ⟨rfl, by rw [lsts_len]; rfl, rfl, rfl, trivial⟩ ⟨rfl, trivial⟩) ?_
    clear hi
    intro i hi
    (conv => whnf); repeat (first | (refine w ?_; conv => whnf) | (refine ⟨fun h => absurd h Bool.false_ne_true, fun _ => ?_⟩; conv => whnf) | (refine ⟨fun _ => ?_, fun h => absurd h.symm Bool.false_ne_true⟩; conv => whnf))
    refine ⟨fun hlt => ?_, fun hge => ?_⟩
    · have hlt := of_lt hlt
      have hx : l[i]? = some l[i] := List.getElem?_eq_getElem hlt
      generalize l[i] = x at hx
      have hf := flat_take hx
      have hle := flat_le (l := l) (i + 1)
      rw [hf, List.length_append] at hle
      (conv => whnf); repeat (first | (refine w ?_; conv => whnf) | (refine ⟨fun h => absurd h Bool.false_ne_true, fun _ => ?_⟩; conv => whnf) | (refine ⟨fun _ => ?_, fun h => absurd h.symm Bool.false_ne_true⟩; conv => whnf))
      refine ⟨by omega, _, lsts_at hx, ?_⟩
      (conv => whnf); repeat (first | (refine w ?_; conv => whnf) | (refine ⟨fun h => absurd h Bool.false_ne_true, fun _ => ?_⟩; conv => whnf) | (refine ⟨fun _ => ?_, fun h => absurd h.symm Bool.false_ne_true⟩; conv => whnf))
      refine ⟨by rw [nums_len, nums_len]; show (_ + _) * 8 ≤ _; omega, ?_⟩
      (conv => whnf); repeat (first | (refine w ?_; conv => whnf) | (refine ⟨fun h => absurd h Bool.false_ne_true, fun _ => ?_⟩; conv => whnf) | (refine ⟨fun _ => ?_, fun h => absurd h.symm Bool.false_ne_true⟩; conv => whnf))
      exact ⟨i + 1, hlt, by show l.length - (i + 1) < l.length - i; omega, le_of [1] rfl rfl rfl ⟨step_num hlt (by omega), rfl, rfl, rfl, trivial⟩ ⟨by rw [hf, nums_apps]; rfl, trivial⟩⟩
    · have hge := of_ge hge
      rw [take_of_all hge]
      (conv => whnf); repeat (first | (refine w ?_; conv => whnf) | (refine ⟨fun h => absurd h Bool.false_ne_true, fun _ => ?_⟩; conv => whnf) | (refine ⟨fun _ => ?_, fun h => absurd h.symm Bool.false_ne_true⟩; conv => whnf))
      refine fin_frz TT ?_ rfl
      rfl

/-- n numbers from f on. -/
def rng (f n : Nat) : List Int := (List.range n).map fun i => ((f + i : Nat) : Int)
theorem rng_len (f n : Nat) : (rng f n).length = n := by simp [rng]
theorem rng_succ (f n : Nat) : rng f (n + 1) = rng f n ++ [((f + n : Nat) : Int)] := by simp [rng, List.range_succ]
theorem c186 (f n : Nat) (hf : f ≤ 1000000) (hn : n ≤ 1000000) : Con P 186 [] [.int .i64 f, .int .i64 n] (.slice 1 (nums (rng f n))) [] := by
  refine go Tryz.func186 (by rfl) rfl rfl rfl fun hl => ?_
  (conv => whnf); repeat (first | (refine w ?_; conv => whnf) | (refine ⟨fun h => absurd h Bool.false_ne_true, fun _ => ?_⟩; conv => whnf) | (refine ⟨fun _ => ?_, fun h => absurd h.symm Bool.false_ne_true⟩; conv => whnf))
  refine loop (fun i : Nat => mkSt [(8, .int .i64 i), (7, .int .i64 n), (0, .int .i64 f), (5, .ref 0)] [.row 3 1 (nums (rng f i))]) (fun i => i ≤ n) (fun i => n - i) 0 (Nat.zero_le _)
    (le_of [1] rfl rfl rfl ⟨rfl, rfl, rfl, rfl, trivial⟩ ⟨rfl, trivial⟩) ?_
  intro i hi
  (conv => whnf); repeat (first | (refine w ?_; conv => whnf) | (refine ⟨fun h => absurd h Bool.false_ne_true, fun _ => ?_⟩; conv => whnf) | (refine ⟨fun _ => ?_, fun h => absurd h.symm Bool.false_ne_true⟩; conv => whnf))
  refine ⟨fun hlt => ?_, fun hge => ?_⟩
  · have hlt := of_lt hlt
    (conv => whnf); repeat (first | (refine w ?_; conv => whnf) | (refine ⟨fun h => absurd h Bool.false_ne_true, fun _ => ?_⟩; conv => whnf) | (refine ⟨fun _ => ?_, fun h => absurd h.symm Bool.false_ne_true⟩; conv => whnf))
    rw [wrap_small (n := (f : Int) + i) (by omega) (by omega)]
    refine ⟨by rw [nums_len, rng_len]; show (_ + 1) * 8 ≤ _; omega, ?_⟩
    (conv => whnf); repeat (first | (refine w ?_; conv => whnf) | (refine ⟨fun h => absurd h Bool.false_ne_true, fun _ => ?_⟩; conv => whnf) | (refine ⟨fun _ => ?_, fun h => absurd h.symm Bool.false_ne_true⟩; conv => whnf))
    exact ⟨i + 1, hlt, by show n - (i + 1) < n - i; omega, le_of [2] rfl rfl rfl ⟨step_num hlt (by omega), rfl, rfl, rfl, trivial⟩ ⟨by rw [rng_succ, nums_app, Int.natCast_add]; rfl, trivial⟩⟩
  · have hge := of_ge hge
    have : i = n := by omega
    subst this
    (conv => whnf); repeat (first | (refine w ?_; conv => whnf) | (refine ⟨fun h => absurd h Bool.false_ne_true, fun _ => ?_⟩; conv => whnf) | (refine ⟨fun _ => ?_, fun h => absurd h.symm Bool.false_ne_true⟩; conv => whnf))
    refine fin_frz TT ?_ rfl
    rfl
theorem c125 (f n : Nat) (hf : f ≤ 1000000) (hn : n ≤ 1000000) : Con P 125 [] [.int .i64 f, .int .i64 n] (.slice 1 (nums (rng f n))) [] := by
  refine go Tryz.func125 (by rfl) rfl rfl rfl fun hl => ?_
  (conv => whnf); repeat (first | (refine w ?_; conv => whnf) | (refine ⟨fun h => absurd h Bool.false_ne_true, fun _ => ?_⟩; conv => whnf) | (refine ⟨fun _ => ?_, fun h => absurd h.symm Bool.false_ne_true⟩; conv => whnf))
  refine loop (fun i : Nat => mkSt [(6, .int .i64 i), (1, .int .i64 n), (0, .int .i64 f), (5, .ref 0)] [.row 3 1 (nums (rng f i))]) (fun i => i ≤ n) (fun i => n - i) 0 (Nat.zero_le _)
    (le_of [1] rfl rfl rfl ⟨rfl, rfl, rfl, rfl, trivial⟩ ⟨rfl, trivial⟩) ?_
  intro i hi
  (conv => whnf); repeat (first | (refine w ?_; conv => whnf) | (refine ⟨fun h => absurd h Bool.false_ne_true, fun _ => ?_⟩; conv => whnf) | (refine ⟨fun _ => ?_, fun h => absurd h.symm Bool.false_ne_true⟩; conv => whnf))
  refine ⟨fun hlt => ?_, fun hge => ?_⟩
  · have hlt := of_lt hlt
    (conv => whnf); repeat (first | (refine w ?_; conv => whnf) | (refine ⟨fun h => absurd h Bool.false_ne_true, fun _ => ?_⟩; conv => whnf) | (refine ⟨fun _ => ?_, fun h => absurd h.symm Bool.false_ne_true⟩; conv => whnf))
    rw [wrap_small (n := (f : Int) + i) (by omega) (by omega)]
    refine ⟨by rw [nums_len, rng_len]; show (_ + 1) * 8 ≤ _; omega, ?_⟩
    (conv => whnf); repeat (first | (refine w ?_; conv => whnf) | (refine ⟨fun h => absurd h Bool.false_ne_true, fun _ => ?_⟩; conv => whnf) | (refine ⟨fun _ => ?_, fun h => absurd h.symm Bool.false_ne_true⟩; conv => whnf))
    exact ⟨i + 1, hlt, by show n - (i + 1) < n - i; omega, le_of [2] rfl rfl rfl ⟨step_num hlt (by omega), rfl, rfl, rfl, trivial⟩ ⟨by rw [rng_succ, nums_app, Int.natCast_add]; rfl, trivial⟩⟩
  · have hge := of_ge hge
    have : i = n := by omega
    subst this
    (conv => whnf); repeat (first | (refine w ?_; conv => whnf) | (refine ⟨fun h => absurd h Bool.false_ne_true, fun _ => ?_⟩; conv => whnf) | (refine ⟨fun _ => ?_, fun h => absurd h.symm Bool.false_ne_true⟩; conv => whnf))
    refine fin_frz TT ?_ rfl
    rfl
theorem c124 (g : Graph) (h1 : g.nodes.length ≤ 1000000) (h2 : g.edges.length ≤ 1000000) : Con P 124 [] [g.av] (.agg [.ref 0, .ref 1]) [.row 3 1 (nums g.nodes), .row 109 3 (edgs g.edges)] := by
  refine go Tryz.func124 (by rfl) rfl rfl rfl fun hl => ?_
  (conv => whnf); repeat (first | (refine w ?_; conv => whnf) | (refine ⟨fun h => absurd h Bool.false_ne_true, fun _ => ?_⟩; conv => whnf) | (refine ⟨fun _ => ?_, fun h => absurd h.symm Bool.false_ne_true⟩; conv => whnf))
  rw [nums_len]
  refine ⟨by show (0 + _) * 8 ≤ _; omega, ?_⟩
  (conv => whnf); repeat (first | (refine w ?_; conv => whnf) | (refine ⟨fun h => absurd h Bool.false_ne_true, fun _ => ?_⟩; conv => whnf) | (refine ⟨fun _ => ?_, fun h => absurd h.symm Bool.false_ne_true⟩; conv => whnf))
  rw [edgs_len]
  refine ⟨by show (0 + _) * 24 ≤ _; omega, ?_⟩
  (conv => whnf); repeat (first | (refine w ?_; conv => whnf) | (refine ⟨fun h => absurd h Bool.false_ne_true, fun _ => ?_⟩; conv => whnf) | (refine ⟨fun _ => ?_, fun h => absurd h.symm Bool.false_ne_true⟩; conv => whnf))
  refine ⟨by kernel_rfl, ?_⟩
  (conv => whnf); repeat (first | (refine w ?_; conv => whnf) | (refine ⟨fun h => absurd h Bool.false_ne_true, fun _ => ?_⟩; conv => whnf) | (refine ⟨fun _ => ?_, fun h => absurd h.symm Bool.false_ne_true⟩; conv => whnf))
  exact le_of [5, 7] rfl rfl rfl ⟨rfl, trivial⟩ ⟨rfl, rfl, trivial⟩
end Go.Av.Z

/- The disjoint union. -/
set_option maxHeartbeats 4000000
namespace Go.Av.Z
open Go.Proofs

/-- An edge, its ends moved on. -/
def shE (n : Nat) (e : Edge) : Edge := ⟨e.type, e.src + n, e.dst + n⟩
/-- The disjoint union. -/
def unG (a b : Graph) : Graph := ⟨a.nodes ++ b.nodes, a.edges ++ b.edges.map (shE a.nodes.length)⟩
/-- The error of a disjoint union. -/
def uerr (a b : Graph) : Int := if gval a ≠ 0 then gval a else if gval b ≠ 0 then gval b else if 40 < a.nodes.length + b.nodes.length ∨ 80 < a.edges.length + b.edges.length then 3 else 0
def un1 (a b : Graph) : Mor := ⟨rng 0 a.nodes.length, rng 0 a.edges.length⟩
def un2 (a b : Graph) : Mor := ⟨rng a.nodes.length b.nodes.length, rng a.edges.length b.edges.length⟩
def Graph.zero : Graph := ⟨[], []⟩
def Mor.zero : Mor := ⟨[], []⟩
/-- What the union hands back. -/
def unR (a b : Graph) : List AV := if uerr a b = 0 then [(unG a b).av, (un1 a b).av, (un2 a b).av, .int .i64 0] else [Graph.zero.av, Mor.zero.av, Mor.zero.av, .int .i64 (uerr a b)]

theorem unR_err {a b : Graph} {e : Int} (h : uerr a b = e) (he : e ≠ 0) : unR a b = [Graph.zero.av, Mor.zero.av, Mor.zero.av, .int .i64 e] := by
  rw [unR, h, if_neg he]
theorem unR_ok {a b : Graph} (h : uerr a b = 0) : unR a b = [(unG a b).av, (un1 a b).av, (un2 a b).av, .int .i64 0] := by
  rw [unR, h, if_pos rfl]
theorem lens_le {m n : Nat} (hm : m ≤ 80) (hn : n ≤ 80) (k : Nat) : decide ((k : Int) < IntKind.i64.wrap ((m : Int) + (n : Int))) = decide (k < m + n) := by
  rw [wrap_small (by omega) (by omega)]
  rw [Bool.eq_iff_iff]; simp; omega
theorem c172 (a b : Graph) : Con P 172 [] [a.av, b.av] (.tuple (unR a b)) [] := by
  refine go Tryz.func172 (by rfl) rfl rfl rfl fun hl => ?_
  (conv => whnf); repeat (first | (refine w ?_; conv => whnf) | (refine ⟨fun h => absurd h Bool.false_ne_true, fun _ => ?_⟩; conv => whnf) | (refine ⟨fun _ => ?_, fun h => absurd h.symm Bool.false_ne_true⟩; conv => whnf))
  refine loop (fun i : Nat => mkSt [(22, .int .i64 i), (21, .int .i64 2), (20, .ref 11), (2, .bptr 0 0), (3, .bptr 1 0), (4, .bptr 2 0), (5, .bptr 5 0), (6, .bptr 8 0)] [.box 25 a.cs, .box 25 b.cs, .box 25 [.ref 3, .ref 4], .row 3 1 [], .row 109 3 [], .box 32 [.ref 6, .ref 7], .row 3 1 [], .row 3 1 [], .box 32 [.ref 9, .ref 10], .row 3 1 [], .row 3 1 [], .row 25 2 [a.cs, b.cs]]) (fun i => i ≤ 2 ∧ (1 ≤ i → gval a = 0) ∧ (2 ≤ i → gval b = 0)) (fun i => 2 - i) 0 ⟨by omega, by omega, by omega⟩
    (le_of [0, 1, 2, 3, 4, 5, 6, 7, 8, 9, 10, 11] rfl rfl rfl ⟨rfl, rfl, rfl, rfl, rfl, rfl, rfl, rfl, trivial⟩ ⟨rfl, rfl, rfl, rfl, rfl, rfl, rfl, rfl, rfl, rfl, rfl, rfl, trivial⟩) ?_
  rintro i ⟨hi, hl1, hl2⟩
  (conv => whnf); repeat (first | (refine w ?_; conv => whnf) | (refine ⟨fun h => absurd h Bool.false_ne_true, fun _ => ?_⟩; conv => whnf) | (refine ⟨fun _ => ?_, fun h => absurd h.symm Bool.false_ne_true⟩; conv => whnf))
  refine ⟨fun hlt => ?_, fun hge => ?_⟩
  · have hlt : i < 2 := by simp at hlt; omega
    --(
    rcases (by omega : i = 0 ∨ i = 1) with rfl | rfl
    · (conv => whnf); repeat (first | (refine w ?_; conv => whnf) | (refine ⟨fun h => absurd h Bool.false_ne_true, fun _ => ?_⟩; conv => whnf) | (refine ⟨fun _ => ?_, fun h => absurd h.symm Bool.false_ne_true⟩; conv => whnf))
      refine ⟨⟨by omega, by simp⟩, ?_⟩
      (conv => whnf); repeat (first | (refine w ?_; conv => whnf) | (refine ⟨fun h => absurd h Bool.false_ne_true, fun _ => ?_⟩; conv => whnf) | (refine ⟨fun _ => ?_, fun h => absurd h.symm Bool.false_ne_true⟩; conv => whnf))
      refine ⟨rfl, _, rfl, ?_⟩
      (conv => whnf); repeat (first | (refine w ?_; conv => whnf) | (refine ⟨fun h => absurd h Bool.false_ne_true, fun _ => ?_⟩; conv => whnf) | (refine ⟨fun _ => ?_, fun h => absurd h.symm Bool.false_ne_true⟩; conv => whnf))
      refine ⟨_, _, c31 a, ?_⟩
      (conv => whnf); repeat (first | (refine w ?_; conv => whnf) | (refine ⟨fun h => absurd h Bool.false_ne_true, fun _ => ?_⟩; conv => whnf) | (refine ⟨fun _ => ?_, fun h => absurd h.symm Bool.false_ne_true⟩; conv => whnf))
      refine ⟨fun h => ?_, fun h => ?_⟩
      · have h : gval a ≠ 0 := by simpa using h
        rw [unR_err (e := gval a) (by rw [uerr, if_pos h]) h]
        (conv => whnf); repeat (first | (refine w ?_; conv => whnf) | (refine ⟨fun h => absurd h Bool.false_ne_true, fun _ => ?_⟩; conv => whnf) | (refine ⟨fun _ => ?_, fun h => absurd h.symm Bool.false_ne_true⟩; conv => whnf))
        refine fin_frz TT ?_ rfl
        rfl
      · (conv => whnf); repeat (first | (refine w ?_; conv => whnf) | (refine ⟨fun h => absurd h Bool.false_ne_true, fun _ => ?_⟩; conv => whnf) | (refine ⟨fun _ => ?_, fun h => absurd h.symm Bool.false_ne_true⟩; conv => whnf))
        exact ⟨1, ⟨by omega, fun _ => by simpa using h, by omega⟩, by decide, le_of [0, 1, 2, 3, 4, 5, 6, 7, 8, 9, 10, 11] rfl rfl rfl ⟨rfl, rfl, rfl, rfl, rfl, rfl, rfl, rfl, trivial⟩ ⟨rfl, rfl, rfl, rfl, rfl, rfl, rfl, rfl, rfl, rfl, rfl, rfl, trivial⟩⟩
    · have h1 := hl1 (by omega)
      (conv => whnf); repeat (first | (refine w ?_; conv => whnf) | (refine ⟨fun h => absurd h Bool.false_ne_true, fun _ => ?_⟩; conv => whnf) | (refine ⟨fun _ => ?_, fun h => absurd h.symm Bool.false_ne_true⟩; conv => whnf))
      refine ⟨⟨by omega, by simp⟩, ?_⟩
      (conv => whnf); repeat (first | (refine w ?_; conv => whnf) | (refine ⟨fun h => absurd h Bool.false_ne_true, fun _ => ?_⟩; conv => whnf) | (refine ⟨fun _ => ?_, fun h => absurd h.symm Bool.false_ne_true⟩; conv => whnf))
      refine ⟨rfl, _, rfl, ?_⟩
      (conv => whnf); repeat (first | (refine w ?_; conv => whnf) | (refine ⟨fun h => absurd h Bool.false_ne_true, fun _ => ?_⟩; conv => whnf) | (refine ⟨fun _ => ?_, fun h => absurd h.symm Bool.false_ne_true⟩; conv => whnf))
      refine ⟨_, _, c31 b, ?_⟩
      (conv => whnf); repeat (first | (refine w ?_; conv => whnf) | (refine ⟨fun h => absurd h Bool.false_ne_true, fun _ => ?_⟩; conv => whnf) | (refine ⟨fun _ => ?_, fun h => absurd h.symm Bool.false_ne_true⟩; conv => whnf))
      refine ⟨fun h => ?_, fun h => ?_⟩
      · have h : gval b ≠ 0 := by simpa using h
        rw [unR_err (e := gval b) (by rw [uerr, if_neg (by simp [h1]), if_pos h]) h]
        (conv => whnf); repeat (first | (refine w ?_; conv => whnf) | (refine ⟨fun h => absurd h Bool.false_ne_true, fun _ => ?_⟩; conv => whnf) | (refine ⟨fun _ => ?_, fun h => absurd h.symm Bool.false_ne_true⟩; conv => whnf))
        refine fin_frz TT ?_ rfl
        rfl
      · (conv => whnf); repeat (first | (refine w ?_; conv => whnf) | (refine ⟨fun h => absurd h Bool.false_ne_true, fun _ => ?_⟩; conv => whnf) | (refine ⟨fun _ => ?_, fun h => absurd h.symm Bool.false_ne_true⟩; conv => whnf))
        exact ⟨2, ⟨by omega, fun _ => h1, fun _ => by simpa using h⟩, by decide, le_of [0, 1, 2, 3, 4, 5, 6, 7, 8, 9, 10, 11] rfl rfl rfl ⟨rfl, rfl, rfl, rfl, rfl, rfl, rfl, rfl, trivial⟩ ⟨rfl, rfl, rfl, rfl, rfl, rfl, rfl, rfl, rfl, rfl, rfl, rfl, trivial⟩⟩
    --)
  · have hge : ¬ i < 2 := by simp at hge; omega
    have h1 := hl1 (by omega)
    have h2 := hl2 (by omega)
    have g1 := gval_len h1
    have g2 := gval_len h2
    have e : uerr a b = if 40 < a.nodes.length + b.nodes.length ∨ 80 < a.edges.length + b.edges.length then 3 else 0 := by rw [uerr, if_neg (by simp [h1]), if_neg (by simp [h2])]
    (conv => whnf); repeat (first | (refine w ?_; conv => whnf) | (refine ⟨fun h => absurd h Bool.false_ne_true, fun _ => ?_⟩; conv => whnf) | (refine ⟨fun _ => ?_, fun h => absurd h.symm Bool.false_ne_true⟩; conv => whnf))
    refine ⟨by kernel_rfl, ?_⟩
    (conv => whnf); repeat (first | (refine w ?_; conv => whnf) | (refine ⟨fun h => absurd h Bool.false_ne_true, fun _ => ?_⟩; conv => whnf) | (refine ⟨fun _ => ?_, fun h => absurd h.symm Bool.false_ne_true⟩; conv => whnf))
    rw [nums_len, nums_len]
    refine ⟨fun h => ?_, fun h => ?_⟩
    · have h := (lens_le (by omega) (by omega) 40).symm.trans h
      --(
      rw [unR_err (e := 3) (by rw [e, if_pos (.inl (by simpa using h))]) (by decide)]
      (conv => whnf); repeat (first | (refine w ?_; conv => whnf) | (refine ⟨fun h => absurd h Bool.false_ne_true, fun _ => ?_⟩; conv => whnf) | (refine ⟨fun _ => ?_, fun h => absurd h.symm Bool.false_ne_true⟩; conv => whnf))
      refine fin_frz TT ?_ rfl
      rfl
      --)
    (conv => whnf); repeat (first | (refine w ?_; conv => whnf) | (refine ⟨fun h => absurd h Bool.false_ne_true, fun _ => ?_⟩; conv => whnf) | (refine ⟨fun _ => ?_, fun h => absurd h.symm Bool.false_ne_true⟩; conv => whnf))
    rw [edgs_len, edgs_len]
    refine ⟨fun h' => ?_, fun h' => ?_⟩
    · have h' := (lens_le (by omega) (by omega) 80).symm.trans h'
      --(
      rw [unR_err (e := 3) (by rw [e, if_pos (.inr (by simpa using h'))]) (by decide)]
      (conv => whnf); repeat (first | (refine w ?_; conv => whnf) | (refine ⟨fun h => absurd h Bool.false_ne_true, fun _ => ?_⟩; conv => whnf) | (refine ⟨fun _ => ?_, fun h => absurd h.symm Bool.false_ne_true⟩; conv => whnf))
      refine fin_frz TT ?_ rfl
      rfl
      --)
    have h := (lens_le (by omega) (by omega) 40).symm.trans h
    have h' := (lens_le (by omega) (by omega) 80).symm.trans h'
    simp at h h'
    rw [unR_ok (by rw [e, if_neg (by omega)])]
    (conv => whnf); repeat (first | (refine w ?_; conv => whnf) | (refine ⟨fun h => absurd h Bool.false_ne_true, fun _ => ?_⟩; conv => whnf) | (refine ⟨fun _ => ?_, fun h => absurd h.symm Bool.false_ne_true⟩; conv => whnf))
    refine ⟨_, _, con_frz rfl rfl rfl (c185 [a.nodes, b.nodes] (by simp) (by simp; omega)), ?_⟩
    (conv => whnf); repeat (first | (refine w ?_; conv => whnf) | (refine ⟨fun h => absurd h Bool.false_ne_true, fun _ => ?_⟩; conv => whnf) | (refine ⟨fun _ => ?_, fun h => absurd h.symm Bool.false_ne_true⟩; conv => whnf))
    refine ⟨_, _, c65 a.edges (by omega), ?_⟩
    (conv => whnf); repeat (first | (refine w ?_; conv => whnf) | (refine ⟨fun h => absurd h Bool.false_ne_true, fun _ => ?_⟩; conv => whnf) | (refine ⟨fun _ => ?_, fun h => absurd h.symm Bool.false_ne_true⟩; conv => whnf))
    refine ⟨by kernel_rfl, ?_⟩
    (conv => whnf); repeat (first | (refine w ?_; conv => whnf) | (refine ⟨fun h => absurd h Bool.false_ne_true, fun _ => ?_⟩; conv => whnf) | (refine ⟨fun _ => ?_, fun h => absurd h.symm Bool.false_ne_true⟩; conv => whnf))
    refine loop (fun i : Nat => mkSt [(71, .int .i64 i), (70, .int .i64 b.edges.length), (69, .slice 3 (edgs b.edges)), (13, .bptr 11 0), (12, .int .i64 a.edges.length), (11, .int .i64 a.nodes.length), (2, .bptr 0 0), (3, .bptr 1 0), (4, .bptr 2 0), (5, .bptr 5 0), (6, .bptr 8 0)]
        [.box 25 a.cs, .box 25 b.cs, .box 25 [.ref 3, .ref 4], .row 3 1 [], .row 109 3 [], .box 32 [.ref 6, .ref 7], .row 3 1 [], .row 3 1 [], .box 32 [.ref 9, .ref 10], .row 3 1 [], .row 3 1 [], .box 25 [.slice 1 (nums (a.nodes ++ b.nodes)), .ref 12], .row 109 3 (edgs (a.edges ++ (b.edges.take i).map (shE a.nodes.length)))]) (fun i => i ≤ b.edges.length) (fun i => b.edges.length - i) 0 (Nat.zero_le _)
      (le_of [0, 1, 2, 3, 4, 5, 6, 7, 8, 9, 10, 16, 14] rfl rfl rfl ⟨rfl, by rw [edgs_len]; rfl, rfl, rfl, rfl, rfl, rfl, rfl, rfl, rfl, rfl, trivial⟩ ⟨rfl, rfl, rfl, rfl, rfl, rfl, rfl, rfl, rfl, rfl, rfl, by show Blk.box 25 [.slice 1 (nums [a.nodes, b.nodes].flatten), _] = _; simp; rfl, by simp; rfl, trivial⟩) ?_
    clear hi
    intro i hi
    (conv => whnf); repeat (first | (refine w ?_; conv => whnf) | (refine ⟨fun h => absurd h Bool.false_ne_true, fun _ => ?_⟩; conv => whnf) | (refine ⟨fun _ => ?_, fun h => absurd h.symm Bool.false_ne_true⟩; conv => whnf))
    refine ⟨fun hlt => ?_, fun hge => ?_⟩
    · have hlt := of_lt hlt
      have hx : b.edges[i]? = some b.edges[i] := List.getElem?_eq_getElem hlt
      generalize b.edges[i] = x at hx
      have hb := gval_edge h2 hx
      (conv => whnf); repeat (first | (refine w ?_; conv => whnf) | (refine ⟨fun h => absurd h Bool.false_ne_true, fun _ => ?_⟩; conv => whnf) | (refine ⟨fun _ => ?_, fun h => absurd h.symm Bool.false_ne_true⟩; conv => whnf))
      refine ⟨by omega, _, edgs_at hx, ?_⟩
      (conv => whnf); repeat (first | (refine w ?_; conv => whnf) | (refine ⟨fun h => absurd h Bool.false_ne_true, fun _ => ?_⟩; conv => whnf) | (refine ⟨fun _ => ?_, fun h => absurd h.symm Bool.false_ne_true⟩; conv => whnf))
      rw [wrap_small (n := x.src + a.nodes.length) (by omega) (by omega)]
      (conv => whnf); repeat (first | (refine w ?_; conv => whnf) | (refine ⟨fun h => absurd h Bool.false_ne_true, fun _ => ?_⟩; conv => whnf) | (refine ⟨fun _ => ?_, fun h => absurd h.symm Bool.false_ne_true⟩; conv => whnf))
      rw [wrap_small (n := x.dst + a.nodes.length) (by omega) (by omega)]
      (conv => whnf); repeat (first | (refine w ?_; conv => whnf) | (refine ⟨fun h => absurd h Bool.false_ne_true, fun _ => ?_⟩; conv => whnf) | (refine ⟨fun _ => ?_, fun h => absurd h.symm Bool.false_ne_true⟩; conv => whnf))
      refine ⟨by rw [edgs_len]; simp; show _ * 24 ≤ _; omega, ?_⟩
      (conv => whnf); repeat (first | (refine w ?_; conv => whnf) | (refine ⟨fun h => absurd h Bool.false_ne_true, fun _ => ?_⟩; conv => whnf) | (refine ⟨fun _ => ?_, fun h => absurd h.symm Bool.false_ne_true⟩; conv => whnf))
      exact ⟨i + 1, hlt, by show b.edges.length - (i + 1) < b.edges.length - i; omega, le_of [0, 1, 2, 3, 4, 5, 6, 7, 8, 9, 10, 11, 15] rfl rfl rfl ⟨step_num hlt (by omega), rfl, rfl, rfl, rfl, rfl, rfl, rfl, rfl, rfl, rfl, trivial⟩ ⟨rfl, rfl, rfl, rfl, rfl, rfl, rfl, rfl, rfl, rfl, rfl, rfl, by rw [take_map _ hx, ← List.append_assoc, edgs_app]; rfl, trivial⟩⟩
    · have hge := of_ge hge
      rw [take_of_all hge]
      (conv => whnf); repeat (first | (refine w ?_; conv => whnf) | (refine ⟨fun h => absurd h Bool.false_ne_true, fun _ => ?_⟩; conv => whnf) | (refine ⟨fun _ => ?_, fun h => absurd h.symm Bool.false_ne_true⟩; conv => whnf))
      refine ⟨_, _, c186 0 a.nodes.length (by omega) (by omega), ?_⟩
      (conv => whnf); repeat (first | (refine w ?_; conv => whnf) | (refine ⟨fun h => absurd h Bool.false_ne_true, fun _ => ?_⟩; conv => whnf) | (refine ⟨fun _ => ?_, fun h => absurd h.symm Bool.false_ne_true⟩; conv => whnf))
      refine ⟨_, _, c186 0 a.edges.length (by omega) (by omega), ?_⟩
      (conv => whnf); repeat (first | (refine w ?_; conv => whnf) | (refine ⟨fun h => absurd h Bool.false_ne_true, fun _ => ?_⟩; conv => whnf) | (refine ⟨fun _ => ?_, fun h => absurd h.symm Bool.false_ne_true⟩; conv => whnf))
      rw [nums_len]
      refine ⟨_, _, c186 a.nodes.length b.nodes.length (by omega) (by omega), ?_⟩
      (conv => whnf); repeat (first | (refine w ?_; conv => whnf) | (refine ⟨fun h => absurd h Bool.false_ne_true, fun _ => ?_⟩; conv => whnf) | (refine ⟨fun _ => ?_, fun h => absurd h.symm Bool.false_ne_true⟩; conv => whnf))
      rw [edgs_len]
      refine ⟨_, _, c186 a.edges.length b.edges.length (by omega) (by omega), ?_⟩
      (conv => whnf); repeat (first | (refine w ?_; conv => whnf) | (refine ⟨fun h => absurd h Bool.false_ne_true, fun _ => ?_⟩; conv => whnf) | (refine ⟨fun _ => ?_, fun h => absurd h.symm Bool.false_ne_true⟩; conv => whnf))
      refine ⟨by kernel_rfl, ?_⟩
      (conv => whnf); repeat (first | (refine w ?_; conv => whnf) | (refine ⟨fun h => absurd h Bool.false_ne_true, fun _ => ?_⟩; conv => whnf) | (refine ⟨fun _ => ?_, fun h => absurd h.symm Bool.false_ne_true⟩; conv => whnf))
      refine ⟨by kernel_rfl, ?_⟩
      (conv => whnf); repeat (first | (refine w ?_; conv => whnf) | (refine ⟨fun h => absurd h Bool.false_ne_true, fun _ => ?_⟩; conv => whnf) | (refine ⟨fun _ => ?_, fun h => absurd h.symm Bool.false_ne_true⟩; conv => whnf))
      refine fin_frz TT ?_ rfl
      rfl
end Go.Av.Z

/- The reference: the disjoint union. -/
set_option maxHeartbeats 4000000
namespace Go.Av.Z
open Go.Proofs

theorem c91 (a b : Graph) : Con P 91 [] [a.av, b.av] (.tuple (unR a b)) [] := by
  refine go Tryz.func91 (by rfl) rfl rfl rfl fun hl => ?_
  (conv => whnf); repeat (first | (refine w ?_; conv => whnf) | (refine ⟨fun h => absurd h Bool.false_ne_true, fun _ => ?_⟩; conv => whnf) | (refine ⟨fun _ => ?_, fun h => absurd h.symm Bool.false_ne_true⟩; conv => whnf))
  refine ⟨_, _, c35 a, ?_⟩
  (conv => whnf); repeat (first | (refine w ?_; conv => whnf) | (refine ⟨fun h => absurd h Bool.false_ne_true, fun _ => ?_⟩; conv => whnf) | (refine ⟨fun _ => ?_, fun h => absurd h.symm Bool.false_ne_true⟩; conv => whnf))
  refine ⟨fun h => ?_, fun h => ?_⟩
  · have h : gval a ≠ 0 := by simpa using h
    --(
    rw [unR_err (e := gval a) (by rw [uerr, if_pos h]) h]
    (conv => whnf); repeat (first | (refine w ?_; conv => whnf) | (refine ⟨fun h => absurd h Bool.false_ne_true, fun _ => ?_⟩; conv => whnf) | (refine ⟨fun _ => ?_, fun h => absurd h.symm Bool.false_ne_true⟩; conv => whnf))
    refine fin_frz TT ?_ rfl
    rfl
    --)
  have h1 : gval a = 0 := by simpa using h
  (conv => whnf); repeat (first | (refine w ?_; conv => whnf) | (refine ⟨fun h => absurd h Bool.false_ne_true, fun _ => ?_⟩; conv => whnf) | (refine ⟨fun _ => ?_, fun h => absurd h.symm Bool.false_ne_true⟩; conv => whnf))
  refine ⟨_, _, c35 b, ?_⟩
  (conv => whnf); repeat (first | (refine w ?_; conv => whnf) | (refine ⟨fun h => absurd h Bool.false_ne_true, fun _ => ?_⟩; conv => whnf) | (refine ⟨fun _ => ?_, fun h => absurd h.symm Bool.false_ne_true⟩; conv => whnf))
  refine ⟨fun h => ?_, fun h => ?_⟩
  · have h : gval b ≠ 0 := by simpa using h
    --(
    rw [unR_err (e := gval b) (by rw [uerr, if_neg (by simp [h1]), if_pos h]) h]
    (conv => whnf); repeat (first | (refine w ?_; conv => whnf) | (refine ⟨fun h => absurd h Bool.false_ne_true, fun _ => ?_⟩; conv => whnf) | (refine ⟨fun _ => ?_, fun h => absurd h.symm Bool.false_ne_true⟩; conv => whnf))
    refine fin_frz TT ?_ rfl
    rfl
    --)
  have h2 : gval b = 0 := by simpa using h
  have g1 := gval_len h1
  have g2 := gval_len h2
  have e : uerr a b = if 40 < a.nodes.length + b.nodes.length ∨ 80 < a.edges.length + b.edges.length then 3 else 0 := by rw [uerr, if_neg (by simp [h1]), if_neg (by simp [h2])]
  (conv => whnf); repeat (first | (refine w ?_; conv => whnf) | (refine ⟨fun h => absurd h Bool.false_ne_true, fun _ => ?_⟩; conv => whnf) | (refine ⟨fun _ => ?_, fun h => absurd h.symm Bool.false_ne_true⟩; conv => whnf))
  refine ⟨by kernel_rfl, ?_⟩
  (conv => whnf); repeat (first | (refine w ?_; conv => whnf) | (refine ⟨fun h => absurd h Bool.false_ne_true, fun _ => ?_⟩; conv => whnf) | (refine ⟨fun _ => ?_, fun h => absurd h.symm Bool.false_ne_true⟩; conv => whnf))
  rw [nums_len, nums_len]
  refine ⟨fun h => ?_, fun h => ?_⟩
  · have h := (lens_le (by omega) (by omega) 40).symm.trans h
    --(
    rw [unR_err (e := 3) (by rw [e, if_pos (.inl (by simpa using h))]) (by decide)]
    (conv => whnf); repeat (first | (refine w ?_; conv => whnf) | (refine ⟨fun h => absurd h Bool.false_ne_true, fun _ => ?_⟩; conv => whnf) | (refine ⟨fun _ => ?_, fun h => absurd h.symm Bool.false_ne_true⟩; conv => whnf))
    refine fin_frz TT ?_ rfl
    rfl
    --)
  (conv => whnf); repeat (first | (refine w ?_; conv => whnf) | (refine ⟨fun h => absurd h Bool.false_ne_true, fun _ => ?_⟩; conv => whnf) | (refine ⟨fun _ => ?_, fun h => absurd h.symm Bool.false_ne_true⟩; conv => whnf))
  rw [edgs_len, edgs_len]
  refine ⟨fun h' => ?_, fun h' => ?_⟩
  · have h' := (lens_le (by omega) (by omega) 80).symm.trans h'
    --(
    rw [unR_err (e := 3) (by rw [e, if_pos (.inr (by simpa using h'))]) (by decide)]
    (conv => whnf); repeat (first | (refine w ?_; conv => whnf) | (refine ⟨fun h => absurd h Bool.false_ne_true, fun _ => ?_⟩; conv => whnf) | (refine ⟨fun _ => ?_, fun h => absurd h.symm Bool.false_ne_true⟩; conv => whnf))
    refine fin_frz TT ?_ rfl
    rfl
    --)
  have h := (lens_le (by omega) (by omega) 40).symm.trans h
  have h' := (lens_le (by omega) (by omega) 80).symm.trans h'
  simp at h h'
  rw [unR_ok (by rw [e, if_neg (by omega)])]
  (conv => whnf); repeat (first | (refine w ?_; conv => whnf) | (refine ⟨fun h => absurd h Bool.false_ne_true, fun _ => ?_⟩; conv => whnf) | (refine ⟨fun _ => ?_, fun h => absurd h.symm Bool.false_ne_true⟩; conv => whnf))
  refine ⟨_, _, c124 a (by omega) (by omega), ?_⟩
  (conv => whnf); repeat (first | (refine w ?_; conv => whnf) | (refine ⟨fun h => absurd h Bool.false_ne_true, fun _ => ?_⟩; conv => whnf) | (refine ⟨fun _ => ?_, fun h => absurd h.symm Bool.false_ne_true⟩; conv => whnf))
  refine ⟨by rw [nums_len, nums_len]; show _ * 8 ≤ _; omega, ?_⟩
  (conv => whnf); repeat (first | (refine w ?_; conv => whnf) | (refine ⟨fun h => absurd h Bool.false_ne_true, fun _ => ?_⟩; conv => whnf) | (refine ⟨fun _ => ?_, fun h => absurd h.symm Bool.false_ne_true⟩; conv => whnf))
  refine loop (fun i : Nat => mkSt [(13, .int .i64 i), (12, .bptr 11 0), (11, .int .i64 a.edges.length), (10, .int .i64 a.nodes.length), (2, .bptr 0 0), (3, .bptr 1 0), (4, .bptr 2 0), (5, .bptr 5 0), (6, .bptr 8 0)]
      [.box 25 a.cs, .box 25 b.cs, .box 25 [.ref 3, .ref 4], .row 3 1 [], .row 109 3 [], .box 32 [.ref 6, .ref 7], .row 3 1 [], .row 3 1 [], .box 32 [.ref 9, .ref 10], .row 3 1 [], .row 3 1 [], .box 25 [.ref 12, .ref 13], .row 3 1 (nums (a.nodes ++ b.nodes)), .row 109 3 (edgs (a.edges ++ (b.edges.take i).map (shE a.nodes.length)))]) (fun i => i ≤ b.edges.length) (fun i => b.edges.length - i) 0 (Nat.zero_le _)
    (le_of [0, 1, 2, 3, 4, 5, 6, 7, 8, 9, 10, 16, 19, 14] rfl rfl rfl ⟨rfl, rfl, rfl, rfl, rfl, rfl, rfl, rfl, rfl, trivial⟩ ⟨rfl, rfl, rfl, rfl, rfl, rfl, rfl, rfl, rfl, rfl, rfl, rfl, by rw [nums_apps]; rfl, by simp; rfl, trivial⟩) ?_
  intro i hi
  (conv => whnf); repeat (first | (refine w ?_; conv => whnf) | (refine ⟨fun h => absurd h Bool.false_ne_true, fun _ => ?_⟩; conv => whnf) | (refine ⟨fun _ => ?_, fun h => absurd h.symm Bool.false_ne_true⟩; conv => whnf))
  rw [edgs_len]
  refine ⟨fun hlt => ?_, fun hge => ?_⟩
  · have hlt := of_lt hlt
    have hx : b.edges[i]? = some b.edges[i] := List.getElem?_eq_getElem hlt
    generalize b.edges[i] = x at hx
    have hb := gval_edge h2 hx
    (conv => whnf); repeat (first | (refine w ?_; conv => whnf) | (refine ⟨fun h => absurd h Bool.false_ne_true, fun _ => ?_⟩; conv => whnf) | (refine ⟨fun _ => ?_, fun h => absurd h.symm Bool.false_ne_true⟩; conv => whnf))
    refine ⟨by omega, _, edgs_at hx, ?_⟩
    (conv => whnf); repeat (first | (refine w ?_; conv => whnf) | (refine ⟨fun h => absurd h Bool.false_ne_true, fun _ => ?_⟩; conv => whnf) | (refine ⟨fun _ => ?_, fun h => absurd h.symm Bool.false_ne_true⟩; conv => whnf))
    rw [wrap_small (n := x.src + a.nodes.length) (by omega) (by omega)]
    (conv => whnf); repeat (first | (refine w ?_; conv => whnf) | (refine ⟨fun h => absurd h Bool.false_ne_true, fun _ => ?_⟩; conv => whnf) | (refine ⟨fun _ => ?_, fun h => absurd h.symm Bool.false_ne_true⟩; conv => whnf))
    rw [wrap_small (n := x.dst + a.nodes.length) (by omega) (by omega)]
    (conv => whnf); repeat (first | (refine w ?_; conv => whnf) | (refine ⟨fun h => absurd h Bool.false_ne_true, fun _ => ?_⟩; conv => whnf) | (refine ⟨fun _ => ?_, fun h => absurd h.symm Bool.false_ne_true⟩; conv => whnf))
    refine ⟨by rw [edgs_len]; simp; show _ * 24 ≤ _; omega, ?_⟩
    (conv => whnf); repeat (first | (refine w ?_; conv => whnf) | (refine ⟨fun h => absurd h Bool.false_ne_true, fun _ => ?_⟩; conv => whnf) | (refine ⟨fun _ => ?_, fun h => absurd h.symm Bool.false_ne_true⟩; conv => whnf))
    exact ⟨i + 1, hlt, by show b.edges.length - (i + 1) < b.edges.length - i; omega, le_of [0, 1, 2, 3, 4, 5, 6, 7, 8, 9, 10, 11, 12, 16] rfl rfl rfl ⟨step_num hlt (by omega), rfl, rfl, rfl, rfl, rfl, rfl, rfl, rfl, trivial⟩ ⟨rfl, rfl, rfl, rfl, rfl, rfl, rfl, rfl, rfl, rfl, rfl, rfl, rfl, by rw [take_map _ hx, ← List.append_assoc, edgs_app]; rfl, trivial⟩⟩
  · have hge := of_ge hge
    rw [take_of_all hge]
    (conv => whnf); repeat (first | (refine w ?_; conv => whnf) | (refine ⟨fun h => absurd h Bool.false_ne_true, fun _ => ?_⟩; conv => whnf) | (refine ⟨fun _ => ?_, fun h => absurd h.symm Bool.false_ne_true⟩; conv => whnf))
    refine ⟨_, _, c125 0 a.nodes.length (by omega) (by omega), ?_⟩
    (conv => whnf); repeat (first | (refine w ?_; conv => whnf) | (refine ⟨fun h => absurd h Bool.false_ne_true, fun _ => ?_⟩; conv => whnf) | (refine ⟨fun _ => ?_, fun h => absurd h.symm Bool.false_ne_true⟩; conv => whnf))
    refine ⟨_, _, c125 0 a.edges.length (by omega) (by omega), ?_⟩
    (conv => whnf); repeat (first | (refine w ?_; conv => whnf) | (refine ⟨fun h => absurd h Bool.false_ne_true, fun _ => ?_⟩; conv => whnf) | (refine ⟨fun _ => ?_, fun h => absurd h.symm Bool.false_ne_true⟩; conv => whnf))
    rw [nums_len]
    refine ⟨_, _, c125 a.nodes.length b.nodes.length (by omega) (by omega), ?_⟩
    (conv => whnf); repeat (first | (refine w ?_; conv => whnf) | (refine ⟨fun h => absurd h Bool.false_ne_true, fun _ => ?_⟩; conv => whnf) | (refine ⟨fun _ => ?_, fun h => absurd h.symm Bool.false_ne_true⟩; conv => whnf))
    rw [edgs_len]
    refine ⟨_, _, c125 a.edges.length b.edges.length (by omega) (by omega), ?_⟩
    (conv => whnf); repeat (first | (refine w ?_; conv => whnf) | (refine ⟨fun h => absurd h Bool.false_ne_true, fun _ => ?_⟩; conv => whnf) | (refine ⟨fun _ => ?_, fun h => absurd h.symm Bool.false_ne_true⟩; conv => whnf))
    refine ⟨by kernel_rfl, ?_⟩
    (conv => whnf); repeat (first | (refine w ?_; conv => whnf) | (refine ⟨fun h => absurd h Bool.false_ne_true, fun _ => ?_⟩; conv => whnf) | (refine ⟨fun _ => ?_, fun h => absurd h.symm Bool.false_ne_true⟩; conv => whnf))
    refine fin_frz TT ?_ rfl
    rfl
end Go.Av.Z

/- Spans; pairs of images; images of images. -/
set_option maxHeartbeats 4000000
namespace Go.Av.Z
open Go.Proofs

structure Span where
  a : Graph
  b : Graph
  c : Graph
  f : Mor
  g : Mor
def Span.cs (s : Span) : List AV := [.slice 1 (nums s.a.nodes), .slice 3 (edgs s.a.edges), .slice 1 (nums s.b.nodes), .slice 3 (edgs s.b.edges), .slice 1 (nums s.c.nodes), .slice 3 (edgs s.c.edges), .slice 1 (nums s.f.nodes), .slice 1 (nums s.f.edges), .slice 1 (nums s.g.nodes), .slice 1 (nums s.g.edges)]
def Span.av (s : Span) : AV := .agg s.cs
/-- The error of a span. -/
def spn (s : Span) : Int := if mval s.a s.b s.f ≠ 0 then mval s.a s.b s.f else mval s.a s.c s.g
theorem c149 (s : Span) : Con P 149 [] [s.av] (.int .i64 (spn s)) [] := by
  refine go Tryz.func149 (by rfl) rfl rfl rfl fun hl => ?_
  (conv => whnf); repeat (first | (refine w ?_; conv => whnf) | (refine ⟨fun h => absurd h Bool.false_ne_true, fun _ => ?_⟩; conv => whnf) | (refine ⟨fun _ => ?_, fun h => absurd h.symm Bool.false_ne_true⟩; conv => whnf))
  refine ⟨_, _, c40 s.a s.b s.f, ?_⟩
  (conv => whnf); repeat (first | (refine w ?_; conv => whnf) | (refine ⟨fun h => absurd h Bool.false_ne_true, fun _ => ?_⟩; conv => whnf) | (refine ⟨fun _ => ?_, fun h => absurd h.symm Bool.false_ne_true⟩; conv => whnf))
  refine ⟨fun h => ?_, fun h => ?_⟩
  · (conv => whnf); repeat (first | (refine w ?_; conv => whnf) | (refine ⟨fun h => absurd h Bool.false_ne_true, fun _ => ?_⟩; conv => whnf) | (refine ⟨fun _ => ?_, fun h => absurd h.symm Bool.false_ne_true⟩; conv => whnf))
    refine fin_frz TT ?_ rfl
    rw [spn, if_pos (by simpa using h)]; rfl
  · (conv => whnf); repeat (first | (refine w ?_; conv => whnf) | (refine ⟨fun h => absurd h Bool.false_ne_true, fun _ => ?_⟩; conv => whnf) | (refine ⟨fun _ => ?_, fun h => absurd h.symm Bool.false_ne_true⟩; conv => whnf))
    refine ⟨_, _, c40 s.a s.c s.g, ?_⟩
    (conv => whnf); repeat (first | (refine w ?_; conv => whnf) | (refine ⟨fun h => absurd h Bool.false_ne_true, fun _ => ?_⟩; conv => whnf) | (refine ⟨fun _ => ?_, fun h => absurd h.symm Bool.false_ne_true⟩; conv => whnf))
    refine fin_frz TT ?_ rfl
    rw [spn, if_neg (by simpa using h)]; rfl
theorem c90 (s : Span) : Con P 90 [] [s.av] (.int .i64 (spn s)) [] := by
  refine go Tryz.func90 (by rfl) rfl rfl rfl fun hl => ?_
  (conv => whnf); repeat (first | (refine w ?_; conv => whnf) | (refine ⟨fun h => absurd h Bool.false_ne_true, fun _ => ?_⟩; conv => whnf) | (refine ⟨fun _ => ?_, fun h => absurd h.symm Bool.false_ne_true⟩; conv => whnf))
  refine ⟨_, _, c45 s.a s.b s.f, ?_⟩
  (conv => whnf); repeat (first | (refine w ?_; conv => whnf) | (refine ⟨fun h => absurd h Bool.false_ne_true, fun _ => ?_⟩; conv => whnf) | (refine ⟨fun _ => ?_, fun h => absurd h.symm Bool.false_ne_true⟩; conv => whnf))
  refine ⟨fun h => ?_, fun h => ?_⟩
  · (conv => whnf); repeat (first | (refine w ?_; conv => whnf) | (refine ⟨fun h => absurd h Bool.false_ne_true, fun _ => ?_⟩; conv => whnf) | (refine ⟨fun _ => ?_, fun h => absurd h.symm Bool.false_ne_true⟩; conv => whnf))
    refine fin_frz TT ?_ rfl
    rw [spn, if_pos (by simpa using h)]; rfl
  · (conv => whnf); repeat (first | (refine w ?_; conv => whnf) | (refine ⟨fun h => absurd h Bool.false_ne_true, fun _ => ?_⟩; conv => whnf) | (refine ⟨fun _ => ?_, fun h => absurd h.symm Bool.false_ne_true⟩; conv => whnf))
    refine ⟨_, _, c45 s.a s.c s.g, ?_⟩
    (conv => whnf); repeat (first | (refine w ?_; conv => whnf) | (refine ⟨fun h => absurd h Bool.false_ne_true, fun _ => ?_⟩; conv => whnf) | (refine ⟨fun _ => ?_, fun h => absurd h.symm Bool.false_ne_true⟩; conv => whnf))
    refine fin_frz TT ?_ rfl
    rw [spn, if_neg (by simpa using h)]; rfl
def przs (l : List (Int × Int)) : List (List AV) := l.map fun p => [.int .i64 p.1, .int .i64 p.2]
theorem przs_len (l : List (Int × Int)) : (przs l).length = l.length := by simp [przs]
theorem przs_at {l : List (Int × Int)} {i : Nat} {p : Int × Int} (h : l[i]? = some p) : (przs l)[i]? = some [.int .i64 p.1, .int .i64 p.2] := by simp [przs, h]
theorem przs_app (l : List (Int × Int)) (p : Int × Int) : przs (l ++ [p]) = przs l ++ [[.int .i64 p.1, .int .i64 p.2]] := by simp [przs]
/-- Pairs of what stands at the same places. -/
def prz (f g : List Int) : List (Int × Int) := f.zip g
theorem zip_take {α β : Type} {f : List α} {g : List β} {i : Nat} {x : α} {y : β} (h1 : f[i]? = some x) (h2 : g[i]? = some y) : (f.take (i + 1)).zip (g.take (i + 1)) = (f.take i).zip (g.take i) ++ [(x, y)] := by
  rw [List.take_add_one, List.take_add_one, h1, h2]
  have e : (f.take i).length = (g.take i).length := by
    have := (List.getElem?_eq_some_iff.1 h1).1
    have := (List.getElem?_eq_some_iff.1 h2).1
    simp; omega
  rw [List.zip_append e]; rfl
theorem prz_take {f g : List Int} {i : Nat} {x y : Int} (h1 : f[i]? = some x) (h2 : g[i]? = some y) : prz (f.take (i + 1)) (g.take (i + 1)) = prz (f.take i) (g.take i) ++ [(x, y)] := zip_take h1 h2
theorem c127 (f g : List Int) (hl : f.length = g.length) (hn : f.length ≤ 1000000) : Con P 127 [] [.slice 1 (nums f), .slice 1 (nums g)] (.slice 2 (przs (prz f g))) [] := by
  refine go Tryz.func127 (by rfl) rfl rfl rfl fun hl => ?_
  (conv => whnf); repeat (first | (refine w ?_; conv => whnf) | (refine ⟨fun h => absurd h Bool.false_ne_true, fun _ => ?_⟩; conv => whnf) | (refine ⟨fun _ => ?_, fun h => absurd h.symm Bool.false_ne_true⟩; conv => whnf))
  refine loop (fun i : Nat => mkSt [(6, .int .i64 i), (0, .slice 1 (nums f)), (1, .slice 1 (nums g)), (5, .ref 0)] [.row 151 2 (przs (prz (f.take i) (g.take i)))]) (fun i => i ≤ f.length) (fun i => f.length - i) 0 (Nat.zero_le _)
    (le_of [1] rfl rfl rfl ⟨rfl, rfl, rfl, rfl, trivial⟩ ⟨rfl, trivial⟩) ?_
  intro i hi
  (conv => whnf); repeat (first | (refine w ?_; conv => whnf) | (refine ⟨fun h => absurd h Bool.false_ne_true, fun _ => ?_⟩; conv => whnf) | (refine ⟨fun _ => ?_, fun h => absurd h.symm Bool.false_ne_true⟩; conv => whnf))
  rw [nums_len]
  refine ⟨fun hlt => ?_, fun hge => ?_⟩
  · have hlt := of_lt hlt
    have hx : f[i]? = some f[i] := List.getElem?_eq_getElem hlt
    have hy : g[i]? = some g[i] := List.getElem?_eq_getElem (by omega)
    generalize f[i] = x at hx
    generalize g[i] = y at hy
    (conv => whnf); repeat (first | (refine w ?_; conv => whnf) | (refine ⟨fun h => absurd h Bool.false_ne_true, fun _ => ?_⟩; conv => whnf) | (refine ⟨fun _ => ?_, fun h => absurd h.symm Bool.false_ne_true⟩; conv => whnf))
    refine ⟨by omega, _, nums_at hx, ?_⟩
    (conv => whnf); repeat (first | (refine w ?_; conv => whnf) | (refine ⟨fun h => absurd h Bool.false_ne_true, fun _ => ?_⟩; conv => whnf) | (refine ⟨fun _ => ?_, fun h => absurd h.symm Bool.false_ne_true⟩; conv => whnf))
    refine ⟨by omega, _, nums_at hy, ?_⟩
    (conv => whnf); repeat (first | (refine w ?_; conv => whnf) | (refine ⟨fun h => absurd h Bool.false_ne_true, fun _ => ?_⟩; conv => whnf) | (refine ⟨fun _ => ?_, fun h => absurd h.symm Bool.false_ne_true⟩; conv => whnf))
    refine ⟨by rw [przs_len, prz, List.length_zip, List.length_take]; show (_ + 1) * 16 ≤ _; omega, ?_⟩
    (conv => whnf); repeat (first | (refine w ?_; conv => whnf) | (refine ⟨fun h => absurd h Bool.false_ne_true, fun _ => ?_⟩; conv => whnf) | (refine ⟨fun _ => ?_, fun h => absurd h.symm Bool.false_ne_true⟩; conv => whnf))
    refine ⟨by kernel_rfl, ?_⟩
    (conv => whnf); repeat (first | (refine w ?_; conv => whnf) | (refine ⟨fun h => absurd h Bool.false_ne_true, fun _ => ?_⟩; conv => whnf) | (refine ⟨fun _ => ?_, fun h => absurd h.symm Bool.false_ne_true⟩; conv => whnf))
    exact ⟨i + 1, hlt, by show f.length - (i + 1) < f.length - i; omega, le_of [2] rfl rfl rfl ⟨step_num hlt (by omega), rfl, rfl, rfl, trivial⟩ ⟨by rw [prz_take hx hy, przs_app]; rfl, trivial⟩⟩
  · have hge := of_ge hge
    rw [take_of_all hge, take_of_all (by omega)]
    (conv => whnf); repeat (first | (refine w ?_; conv => whnf) | (refine ⟨fun h => absurd h Bool.false_ne_true, fun _ => ?_⟩; conv => whnf) | (refine ⟨fun _ => ?_, fun h => absurd h.symm Bool.false_ne_true⟩; conv => whnf))
    refine fin_frz TT ?_ rfl
    rfl
theorem c174 (f g left right : List Int) (hl : f.length = g.length) (hn : f.length ≤ 1000000) (hf : ∀ k ∈ f, 0 ≤ k ∧ k < left.length) (hg : ∀ k ∈ g, 0 ≤ k ∧ k < right.length) :
    Con P 174 [] [.slice 1 (nums f), .slice 1 (nums g), .slice 1 (nums left), .slice 1 (nums right)] (.slice 2 (przs (prz (f.map (at0 left)) (g.map (at0 right))))) [] := by
  refine go Tryz.func174 (by rfl) rfl rfl rfl fun hl => ?_
  (conv => whnf); repeat (first | (refine w ?_; conv => whnf) | (refine ⟨fun h => absurd h Bool.false_ne_true, fun _ => ?_⟩; conv => whnf) | (refine ⟨fun _ => ?_, fun h => absurd h.symm Bool.false_ne_true⟩; conv => whnf))
  refine loop (fun i : Nat => mkSt [(13, .int .i64 i), (12, .int .i64 f.length), (11, .slice 1 (nums f)), (0, .slice 1 (nums f)), (1, .slice 1 (nums g)), (2, .slice 1 (nums left)), (3, .slice 1 (nums right)), (9, .ref 0)] [.row 151 2 (przs (prz ((f.map (at0 left)).take i) ((g.map (at0 right)).take i)))]) (fun i => i ≤ f.length) (fun i => f.length - i) 0 (Nat.zero_le _)
    (le_of [1] rfl rfl rfl ⟨rfl, by rw [nums_len]; rfl, rfl, rfl, rfl, rfl, rfl, rfl, trivial⟩ ⟨rfl, trivial⟩) ?_
  intro i hi
  (conv => whnf); repeat (first | (refine w ?_; conv => whnf) | (refine ⟨fun h => absurd h Bool.false_ne_true, fun _ => ?_⟩; conv => whnf) | (refine ⟨fun _ => ?_, fun h => absurd h.symm Bool.false_ne_true⟩; conv => whnf))
  refine ⟨fun hlt => ?_, fun hge => ?_⟩
  · have hlt := of_lt hlt
    have hx : f[i]? = some f[i] := List.getElem?_eq_getElem hlt
    have hy : g[i]? = some g[i] := List.getElem?_eq_getElem (by omega)
    generalize f[i] = x at hx
    generalize g[i] = y at hy
    have h1 := hf x (List.mem_of_getElem? hx)
    have h2 := hg y (List.mem_of_getElem? hy)
    have hx' : (f.map (at0 left))[i]? = some (at0 left x) := by rw [List.getElem?_map, hx]; rfl
    have hy' : (g.map (at0 right))[i]? = some (at0 right y) := by rw [List.getElem?_map, hy]; rfl
    (conv => whnf); repeat (first | (refine w ?_; conv => whnf) | (refine ⟨fun h => absurd h Bool.false_ne_true, fun _ => ?_⟩; conv => whnf) | (refine ⟨fun _ => ?_, fun h => absurd h.symm Bool.false_ne_true⟩; conv => whnf))
    refine ⟨by omega, _, nums_at hx, ?_⟩
    (conv => whnf); repeat (first | (refine w ?_; conv => whnf) | (refine ⟨fun h => absurd h Bool.false_ne_true, fun _ => ?_⟩; conv => whnf) | (refine ⟨fun _ => ?_, fun h => absurd h.symm Bool.false_ne_true⟩; conv => whnf))
    refine ⟨by omega, _, nums_at (at0_some (by omega)), ?_⟩
    (conv => whnf); repeat (first | (refine w ?_; conv => whnf) | (refine ⟨fun h => absurd h Bool.false_ne_true, fun _ => ?_⟩; conv => whnf) | (refine ⟨fun _ => ?_, fun h => absurd h.symm Bool.false_ne_true⟩; conv => whnf))
    refine ⟨by omega, _, nums_at hy, ?_⟩
    (conv => whnf); repeat (first | (refine w ?_; conv => whnf) | (refine ⟨fun h => absurd h Bool.false_ne_true, fun _ => ?_⟩; conv => whnf) | (refine ⟨fun _ => ?_, fun h => absurd h.symm Bool.false_ne_true⟩; conv => whnf))
    refine ⟨by omega, _, nums_at (at0_some (by omega)), ?_⟩
    (conv => whnf); repeat (first | (refine w ?_; conv => whnf) | (refine ⟨fun h => absurd h Bool.false_ne_true, fun _ => ?_⟩; conv => whnf) | (refine ⟨fun _ => ?_, fun h => absurd h.symm Bool.false_ne_true⟩; conv => whnf))
    refine ⟨by rw [przs_len, prz, List.length_zip, List.length_take, List.length_map]; show (_ + 1) * 16 ≤ _; omega, ?_⟩
    (conv => whnf); repeat (first | (refine w ?_; conv => whnf) | (refine ⟨fun h => absurd h Bool.false_ne_true, fun _ => ?_⟩; conv => whnf) | (refine ⟨fun _ => ?_, fun h => absurd h.symm Bool.false_ne_true⟩; conv => whnf))
    refine ⟨by kernel_rfl, ?_⟩
    (conv => whnf); repeat (first | (refine w ?_; conv => whnf) | (refine ⟨fun h => absurd h Bool.false_ne_true, fun _ => ?_⟩; conv => whnf) | (refine ⟨fun _ => ?_, fun h => absurd h.symm Bool.false_ne_true⟩; conv => whnf))
    exact ⟨i + 1, hlt, by show f.length - (i + 1) < f.length - i; omega, le_of [2] rfl rfl rfl ⟨step_num hlt (by omega), rfl, rfl, rfl, rfl, rfl, rfl, rfl, trivial⟩ ⟨by rw [prz_take hx' hy', przs_app]; rfl, trivial⟩⟩
  · have hge := of_ge hge
    rw [take_of_all (by simpa using hge), take_of_all (by rw [List.length_map]; omega)]
    (conv => whnf); repeat (first | (refine w ?_; conv => whnf) | (refine ⟨fun h => absurd h Bool.false_ne_true, fun _ => ?_⟩; conv => whnf) | (refine ⟨fun _ => ?_, fun h => absurd h.symm Bool.false_ne_true⟩; conv => whnf))
    refine fin_frz TT ?_ rfl
    rfl
theorem nums_make (n : Nat) : chunk 1 n (repl n [.int .i64 0]) = nums (List.replicate n 0) := by
  rw [chunk_ones]
  simp [nums]
theorem nums_set (l : List Int) (k : Nat) (n : Int) : (nums l).set k [.int .i64 n] = nums (l.set k n) := by simp [nums, List.map_set]
theorem fill_set {α : Type} {f : List α} {n i : Nat} {x z : α} (h : f[i]? = some x) (hn : f.length = n) : (f.take i ++ List.replicate (n - i) z).set i x = f.take (i + 1) ++ List.replicate (n - (i + 1)) z := by
  have hi := (List.getElem?_eq_some_iff.1 h).1
  apply List.ext_getElem?
  intro j
  have hl : (f.take i).length = i := by simp; omega
  have hl2 : (f.take (i + 1)).length = i + 1 := by simp; omega
  rw [List.getElem?_set, List.getElem?_append, List.getElem?_append, hl, hl2]
  by_cases hj : i = j
  · subst hj
    rw [if_pos rfl, if_pos (by simp; omega), if_pos (by omega), List.getElem?_take_of_lt (by omega), h]
  · rw [if_neg hj]
    by_cases h2 : j < i
    · rw [if_pos h2, if_pos (by omega), List.getElem?_take_of_lt h2, List.getElem?_take_of_lt (by omega)]
    · rw [if_neg h2, if_neg (by omega), List.getElem?_replicate, List.getElem?_replicate]
      by_cases h3 : j < n
      · rw [if_pos (by omega), if_pos (by omega)]
      · rw [if_neg (by omega), if_neg (by omega)]
theorem c189 (l by_ : List Int) (hn : l.length ≤ 1000000) (h : ∀ k ∈ l, 0 ≤ k ∧ k < by_.length) : Con P 189 [] [.slice 1 (nums l), .slice 1 (nums by_)] (.slice 1 (nums (l.map (at0 by_)))) [] := by
  refine go Tryz.func189 (by rfl) rfl rfl rfl fun hl => ?_
  (conv => whnf); repeat (first | (refine w ?_; conv => whnf) | (refine ⟨fun h => absurd h Bool.false_ne_true, fun _ => ?_⟩; conv => whnf) | (refine ⟨fun _ => ?_, fun h => absurd h.symm Bool.false_ne_true⟩; conv => whnf))
  rw [nums_len]
  refine ⟨⟨rfl, by omega, by show 8 * _ ≤ _; omega, by show _ ≤ maxLen; unfold maxLen; omega⟩, ?_⟩
  (conv => whnf); repeat (first | (refine w ?_; conv => whnf) | (refine ⟨fun h => absurd h Bool.false_ne_true, fun _ => ?_⟩; conv => whnf) | (refine ⟨fun _ => ?_, fun h => absurd h.symm Bool.false_ne_true⟩; conv => whnf))
  refine loop (fun i : Nat => mkSt [(13, .int .i64 i), (12, .int .i64 l.length), (11, .slice 1 (nums l)), (1, .slice 1 (nums by_)), (5, .ref 0)] [.row 3 1 (nums ((l.map (at0 by_)).take i ++ List.replicate (l.length - i) 0))]) (fun i => i ≤ l.length) (fun i => l.length - i) 0 (Nat.zero_le _)
    (le_of [1] rfl rfl rfl ⟨rfl, by rw [nums_len]; rfl, rfl, rfl, rfl, trivial⟩ ⟨by show Blk.row 3 1 (chunk 1 (l.length : Int).toNat (repl (l.length : Int).toNat [.int .i64 0])) = _; rw [Int.toNat_natCast, nums_make]; rfl, trivial⟩) ?_
  intro i hi
  (conv => whnf); repeat (first | (refine w ?_; conv => whnf) | (refine ⟨fun h => absurd h Bool.false_ne_true, fun _ => ?_⟩; conv => whnf) | (refine ⟨fun _ => ?_, fun h => absurd h.symm Bool.false_ne_true⟩; conv => whnf))
  refine ⟨fun hlt => ?_, fun hge => ?_⟩
  · have hlt := of_lt hlt
    have hx : l[i]? = some l[i] := List.getElem?_eq_getElem hlt
    generalize l[i] = k at hx
    have hk := h k (List.mem_of_getElem? hx)
    have hx' : (l.map (at0 by_))[i]? = some (at0 by_ k) := by rw [List.getElem?_map, hx]; rfl
    (conv => whnf); repeat (first | (refine w ?_; conv => whnf) | (refine ⟨fun h => absurd h Bool.false_ne_true, fun _ => ?_⟩; conv => whnf) | (refine ⟨fun _ => ?_, fun h => absurd h.symm Bool.false_ne_true⟩; conv => whnf))
    refine ⟨by omega, _, nums_at hx, ?_⟩
    (conv => whnf); repeat (first | (refine w ?_; conv => whnf) | (refine ⟨fun h => absurd h Bool.false_ne_true, fun _ => ?_⟩; conv => whnf) | (refine ⟨fun _ => ?_, fun h => absurd h.symm Bool.false_ne_true⟩; conv => whnf))
    refine ⟨by omega, _, nums_at (at0_some (by omega)), ?_⟩
    (conv => whnf); repeat (first | (refine w ?_; conv => whnf) | (refine ⟨fun h => absurd h Bool.false_ne_true, fun _ => ?_⟩; conv => whnf) | (refine ⟨fun _ => ?_, fun h => absurd h.symm Bool.false_ne_true⟩; conv => whnf))
    have hlen : (nums ((l.map (at0 by_)).take i ++ List.replicate (l.length - i) 0)).length = l.length := by rw [nums_len]; simp; omega
    refine ⟨⟨by omega, by rw [hlen]; omega⟩, ?_⟩
    (conv => whnf); repeat (first | (refine w ?_; conv => whnf) | (refine ⟨fun h => absurd h Bool.false_ne_true, fun _ => ?_⟩; conv => whnf) | (refine ⟨fun _ => ?_, fun h => absurd h.symm Bool.false_ne_true⟩; conv => whnf))
    refine ⟨_, nums_at (show ((l.map (at0 by_)).take i ++ List.replicate (l.length - i) 0)[((i : Int)).toNat]? = some 0 by rw [Int.toNat_natCast, List.getElem?_append_right (by simp; omega), List.getElem?_replicate, if_pos (by simp; omega)]), ?_⟩
    (conv => whnf); repeat (first | (refine w ?_; conv => whnf) | (refine ⟨fun h => absurd h Bool.false_ne_true, fun _ => ?_⟩; conv => whnf) | (refine ⟨fun _ => ?_, fun h => absurd h.symm Bool.false_ne_true⟩; conv => whnf))
    exact ⟨i + 1, hlt, by show l.length - (i + 1) < l.length - i; omega, le_of [0] rfl rfl rfl ⟨step_num hlt (by omega), rfl, rfl, rfl, rfl, trivial⟩ ⟨by
      show Blk.row 3 1 ((nums _).set ((i : Int)).toNat [.int .i64 _]) = _
      rw [nums_set, Int.toNat_natCast, fill_set hx' (by simp)]; rfl, trivial⟩⟩
  · have hge := of_ge hge
    have : i = l.length := by omega
    subst this
    rw [take_of_all (by simp), Nat.sub_self, List.replicate_zero, List.append_nil]
    (conv => whnf); repeat (first | (refine w ?_; conv => whnf) | (refine ⟨fun h => absurd h Bool.false_ne_true, fun _ => ?_⟩; conv => whnf) | (refine ⟨fun _ => ?_, fun h => absurd h.symm Bool.false_ne_true⟩; conv => whnf))
    refine fin_frz TT ?_ rfl
    rfl
theorem c175 (m n : Mor) (h1 : m.nodes.length ≤ 1000000) (h2 : m.edges.length ≤ 1000000) (h3 : ∀ k ∈ m.nodes, 0 ≤ k ∧ k < n.nodes.length) (h4 : ∀ k ∈ m.edges, 0 ≤ k ∧ k < n.edges.length) : Con P 175 [] [m.av, n.av] (mthen m n).av [] := by
  refine go Tryz.func175 (by rfl) rfl rfl rfl fun hl => ?_
  (conv => whnf); repeat (first | (refine w ?_; conv => whnf) | (refine ⟨fun h => absurd h Bool.false_ne_true, fun _ => ?_⟩; conv => whnf) | (refine ⟨fun _ => ?_, fun h => absurd h.symm Bool.false_ne_true⟩; conv => whnf))
  refine ⟨_, _, c189 m.nodes n.nodes h1 h3, ?_⟩
  (conv => whnf); repeat (first | (refine w ?_; conv => whnf) | (refine ⟨fun h => absurd h Bool.false_ne_true, fun _ => ?_⟩; conv => whnf) | (refine ⟨fun _ => ?_, fun h => absurd h.symm Bool.false_ne_true⟩; conv => whnf))
  refine ⟨_, _, c189 m.edges n.edges h2 h4, ?_⟩
  (conv => whnf); repeat (first | (refine w ?_; conv => whnf) | (refine ⟨fun h => absurd h Bool.false_ne_true, fun _ => ?_⟩; conv => whnf) | (refine ⟨fun _ => ?_, fun h => absurd h.symm Bool.false_ne_true⟩; conv => whnf))
  refine ⟨by kernel_rfl, ?_⟩
  (conv => whnf); repeat (first | (refine w ?_; conv => whnf) | (refine ⟨fun h => absurd h Bool.false_ne_true, fun _ => ?_⟩; conv => whnf) | (refine ⟨fun _ => ?_, fun h => absurd h.symm Bool.false_ne_true⟩; conv => whnf))
  exact fin_frz TT rfl rfl
end Go.Av.Z

/- Partitions: forests. -/
set_option maxHeartbeats 4000000
namespace Go.Av.Z
open Go.Proofs

/-- The element at a place. -/
def gt (q : List Int) (i : Nat) : Int := q.getD i 0
theorem gt_some {q : List Int} {i : Nat} (h : i < q.length) : q[i]? = some (gt q i) := by simp [gt, List.getD_eq_getElem?_getD, List.getElem?_eq_getElem h]
theorem gt_at0 (q : List Int) (n : Int) : at0 q n = gt q n.toNat := rfl
theorem gt_set {q : List Int} {i j : Nat} {x : Int} (h : i < q.length) : gt (q.set i x) j = if j = i then x else gt q j := by
  unfold gt
  rw [List.getD_eq_getElem?_getD, List.getD_eq_getElem?_getD, List.getElem?_set]
  by_cases hj : i = j
  · subst hj; simp [h]
  · rw [if_neg hj, if_neg (fun e => hj e.symm)]
theorem gt_map {q : List Int} {f : Int → Int} {i : Nat} (h : i < q.length) : gt (q.map f) i = f (gt q i) := by
  simp [gt, List.getD_eq_getElem?_getD, List.getElem?_eq_getElem h]
theorem gt_ext {p q : List Int} (hl : p.length = q.length) (h : ∀ i, i < p.length → gt p i = gt q i) : p = q := by
  apply List.ext_getElem hl
  intro i h1 h2
  have := h i h1
  simpa [gt, List.getD_eq_getElem?_getD, List.getElem?_eq_getElem h1, List.getElem?_eq_getElem h2] using this

/-- q points from element to lesser element; p tells where the way ends. -/
structure Frs (q p : List Int) : Prop where
  len : p.length = q.length
  low : ∀ i, i < q.length → 0 ≤ gt q i
  up : ∀ i, i < q.length → gt q i ≤ i
  fix : ∀ i : Nat, i < q.length → gt q i = i → gt p i = i
  step : ∀ i, i < q.length → gt p i = gt p (gt q i).toNat
/-- p tells for each element the least of its class. -/
structure Ptn (p : List Int) : Prop where
  low : ∀ i, i < p.length → 0 ≤ gt p i
  up : ∀ i, i < p.length → gt p i ≤ i
  idem : ∀ i, i < p.length → gt p (gt p i).toNat = gt p i
theorem Frs.all {q p : List Int} (h : Frs q p) : ∀ i, i < q.length → 0 ≤ gt p i ∧ gt p i ≤ i ∧ gt q (gt p i).toNat = gt p i ∧ gt p (gt p i).toNat = gt p i := by
  intro i
  induction i using Nat.strongRecOn with
  | ind i ih =>
    intro hi
    have h1 := h.low i hi
    have h2 := h.up i hi
    by_cases e : gt q i = i
    · have e2 := h.fix i hi e
      rw [e2]
      refine ⟨by omega, by omega, ?_, ?_⟩ <;> rw [Int.toNat_natCast] <;> assumption
    · have hlt : (gt q i).toNat < i := by omega
      obtain ⟨k1, k2, k3, k4⟩ := ih _ hlt (by omega)
      rw [h.step i hi]
      exact ⟨k1, by omega, k3, k4⟩
theorem Frs.ptn {q p : List Int} (h : Frs q p) : Ptn p where
  low i hi := (h.all i (by rw [← h.len]; exact hi)).1
  up i hi := (h.all i (by rw [← h.len]; exact hi)).2.1
  idem i hi := (h.all i (by rw [← h.len]; exact hi)).2.2.2
theorem Frs.self {p : List Int} (h : Ptn p) : Frs p p where
  len := rfl
  low := h.low
  up := h.up
  fix i hi e := e
  step i hi := (h.idem i hi).symm
/-- Two classes become one. -/
def mrg (p : List Int) (a b : Int) : List Int := p.map fun k => if k = max (at0 p a) (at0 p b) then min (at0 p a) (at0 p b) else k
theorem mrg_len (p : List Int) (a b : Int) : (mrg p a b).length = p.length := by simp [mrg]
theorem Frs.mrg {q p : List Int} (h : Frs q p) {a b : Int} (ha : 0 ≤ a ∧ a < q.length) (hb : 0 ≤ b ∧ b < q.length) : Frs (q.set (max (at0 p a) (at0 p b)).toNat (min (at0 p a) (at0 p b))) (mrg p a b) := by
  obtain ⟨a1, a2, a3, a4⟩ := h.all a.toNat (by omega)
  obtain ⟨b1, b2, b3, b4⟩ := h.all b.toNat (by omega)
  have hp : ∀ i, i < q.length → gt (Z.mrg p a b) i = if gt p i = max (at0 p a) (at0 p b) then min (at0 p a) (at0 p b) else gt p i := fun i hi => by
    unfold Z.mrg
    rw [gt_map (by rw [h.len]; exact hi)]
  rw [gt_at0, gt_at0] at *
  generalize hA : gt p a.toNat = A at *
  generalize hB : gt p b.toNat = B at *
  generalize hH : max A B = H at *
  generalize hL : min A B = L at *
  have hH1 : 0 ≤ H ∧ H < q.length ∧ gt q H.toNat = H ∧ gt p H.toNat = H := by
    rcases Int.le_total A B with hAB | hAB
    · have : H = B := by omega
      subst this; exact ⟨b1, by omega, b3, b4⟩
    · have : H = A := by omega
      subst this; exact ⟨a1, by omega, a3, a4⟩
  have hL1 : 0 ≤ L ∧ L ≤ H ∧ gt q L.toNat = L ∧ gt p L.toNat = L := by
    rcases Int.le_total A B with hAB | hAB
    · have : L = A := by omega
      subst this; exact ⟨a1, by omega, a3, a4⟩
    · have : L = B := by omega
      subst this; exact ⟨b1, by omega, b3, b4⟩
  have hHn : H.toNat < q.length := by omega
  refine ⟨by rw [mrg_len, List.length_set]; exact h.len, ?_, ?_, ?_, ?_⟩ <;> (intro i hi; rw [List.length_set] at hi)
  · rw [gt_set hHn]; split
    · omega
    · exact h.low i hi
  · rw [gt_set hHn]; split
    · omega
    · exact h.up i hi
  · rw [gt_set hHn]
    intro e
    rw [hp i hi]
    split at e
    · rename_i k
      have : gt p i = H := by rw [k]; exact hH1.2.2.2
      rw [if_pos this]; omega
    · rename_i k
      have := h.fix i hi e
      rw [this, if_neg (by omega)]
  · rw [gt_set hHn]
    split
    · rename_i k
      rw [hp i hi, hp L.toNat (by omega), hL1.2.2.2]
      have : gt p i = H := by rw [k]; exact hH1.2.2.2
      rw [if_pos this]
      split <;> omega
    · have h1 := h.up i hi
      have h2 := h.low i hi
      rw [hp i hi, hp (gt q i).toNat (by omega), h.step i hi]
theorem Frs.flat {q p : List Int} (h : Frs q p) {i : Nat} (hi : i < q.length) : Frs (q.set i (gt p i)) p := by
  have ha := h.all i hi
  refine ⟨by rw [List.length_set]; exact h.len, ?_, ?_, ?_, ?_⟩ <;> (intro j hj; rw [List.length_set] at hj; rw [gt_set hi])
  · split
    · exact ha.1
    · exact h.low j hj
  · split
    · rename_i k; subst k; exact ha.2.1
    · exact h.up j hj
  · split
    · rename_i k; subst k; exact id
    · exact h.fix j hj
  · split
    · rename_i k; subst k; exact ha.2.2.2.symm
    · exact h.step j hj

theorem c207 (q p : List Int) (h : Frs q p) (i : Nat) (hi : i < q.length) : Con P 207 [.row 3 1 (nums q)] [.ref 0, .int .i64 i] (.int .i64 (gt p i)) [.row 3 1 (nums q)] := by
  refine go Tryz.func207 (by rfl) rfl rfl rfl fun hl => ?_
  (conv => whnf); repeat (first | (refine w ?_; conv => whnf) | (refine ⟨fun h => absurd h Bool.false_ne_true, fun _ => ?_⟩; conv => whnf) | (refine ⟨fun _ => ?_, fun h => absurd h.symm Bool.false_ne_true⟩; conv => whnf))
  refine loop (fun j : Nat => mkSt [(0, .ref 0), (1, .int .i64 j)] [.row 3 1 (nums q)]) (fun j => j < q.length ∧ gt p j = gt p i) (fun j => j) i ⟨hi, rfl⟩
    (le_of [0] rfl rfl rfl ⟨rfl, rfl, trivial⟩ ⟨rfl, trivial⟩) ?_
  rintro j ⟨hj, he⟩
  have h1 := h.low j hj
  have h2 := h.up j hj
  have hq : (nums q)[((j : Int)).toNat]? = some [.int .i64 (gt q j)] := by rw [Int.toNat_natCast]; exact nums_at (gt_some hj)
  (conv => whnf); repeat (first | (refine w ?_; conv => whnf) | (refine ⟨fun h => absurd h Bool.false_ne_true, fun _ => ?_⟩; conv => whnf) | (refine ⟨fun _ => ?_, fun h => absurd h.symm Bool.false_ne_true⟩; conv => whnf))
  refine ⟨⟨by omega, by rw [nums_len]; omega⟩, ?_⟩
  (conv => whnf); repeat (first | (refine w ?_; conv => whnf) | (refine ⟨fun h => absurd h Bool.false_ne_true, fun _ => ?_⟩; conv => whnf) | (refine ⟨fun _ => ?_, fun h => absurd h.symm Bool.false_ne_true⟩; conv => whnf))
  refine ⟨rfl, _, hq, ?_⟩
  (conv => whnf); repeat (first | (refine w ?_; conv => whnf) | (refine ⟨fun h => absurd h Bool.false_ne_true, fun _ => ?_⟩; conv => whnf) | (refine ⟨fun _ => ?_, fun h => absurd h.symm Bool.false_ne_true⟩; conv => whnf))
  refine ⟨fun hne => ?_, fun heq => ?_⟩
  · have hne : gt q j ≠ j := by simpa using hne
    (conv => whnf); repeat (first | (refine w ?_; conv => whnf) | (refine ⟨fun h => absurd h Bool.false_ne_true, fun _ => ?_⟩; conv => whnf) | (refine ⟨fun _ => ?_, fun h => absurd h.symm Bool.false_ne_true⟩; conv => whnf))
    refine ⟨⟨by omega, by rw [nums_len]; omega⟩, ?_⟩
    (conv => whnf); repeat (first | (refine w ?_; conv => whnf) | (refine ⟨fun h => absurd h Bool.false_ne_true, fun _ => ?_⟩; conv => whnf) | (refine ⟨fun _ => ?_, fun h => absurd h.symm Bool.false_ne_true⟩; conv => whnf))
    refine ⟨rfl, _, hq, ?_⟩
    (conv => whnf); repeat (first | (refine w ?_; conv => whnf) | (refine ⟨fun h => absurd h Bool.false_ne_true, fun _ => ?_⟩; conv => whnf) | (refine ⟨fun _ => ?_, fun h => absurd h.symm Bool.false_ne_true⟩; conv => whnf))
    exact ⟨(gt q j).toNat, ⟨by omega, by rw [← he]; exact (h.step j hj).symm⟩, by show (gt q j).toNat < j; omega, le_of [0] rfl rfl rfl ⟨rfl, by rw [Int.toNat_of_nonneg h1]; rfl, trivial⟩ ⟨rfl, trivial⟩⟩
  · have heq : gt q j = j := by simpa using heq
    (conv => whnf); repeat (first | (refine w ?_; conv => whnf) | (refine ⟨fun h => absurd h Bool.false_ne_true, fun _ => ?_⟩; conv => whnf) | (refine ⟨fun _ => ?_, fun h => absurd h.symm Bool.false_ne_true⟩; conv => whnf))
    rw [← he, h.fix j hj heq]
    exact le_of [0] rfl rfl rfl ⟨rfl, trivial⟩ ⟨rfl, trivial⟩
end Go.Av.Z

/- Partitions: the finest one in which pairs are equivalent. -/
set_option maxHeartbeats 4000000
namespace Go.Av.Z
open Go.Proofs

theorem if_max (a b : Int) : (if b > a then b else a) = max a b := by split <;> omega
theorem if_min (a b : Int) : (if b < a then b else a) = min a b := by split <;> omega
theorem c202 (q p : List Int) (h : Frs q p) (a b : Nat) (ha : a < q.length) (hb : b < q.length) : Con P 202 [.row 3 1 (nums q)] [.ref 0, .int .i64 a, .int .i64 b] (.tuple []) [.row 3 1 (nums (q.set (max (gt p a) (gt p b)).toNat (min (gt p a) (gt p b))))] := by
  have ka := h.all a ha
  have kb := h.all b hb
  refine go Tryz.func202 (by rfl) rfl rfl rfl fun hl => ?_
  (conv => whnf); repeat (first | (refine w ?_; conv => whnf) | (refine ⟨fun h => absurd h Bool.false_ne_true, fun _ => ?_⟩; conv => whnf) | (refine ⟨fun _ => ?_, fun h => absurd h.symm Bool.false_ne_true⟩; conv => whnf))
  refine ⟨_, _, c207 q p h a ha, ?_⟩
  (conv => whnf); repeat (first | (refine w ?_; conv => whnf) | (refine ⟨fun h => absurd h Bool.false_ne_true, fun _ => ?_⟩; conv => whnf) | (refine ⟨fun _ => ?_, fun h => absurd h.symm Bool.false_ne_true⟩; conv => whnf))
  refine ⟨_, _, c207 q p h b hb, ?_⟩
  (conv => whnf); repeat (first | (refine w ?_; conv => whnf) | (refine ⟨fun h => absurd h Bool.false_ne_true, fun _ => ?_⟩; conv => whnf) | (refine ⟨fun _ => ?_, fun h => absurd h.symm Bool.false_ne_true⟩; conv => whnf))
  rw [if_max]
  have hM : (max (gt p a) (gt p b)).toNat < q.length := by omega
  refine ⟨⟨by omega, by rw [nums_len]; omega⟩, ?_⟩
  (conv => whnf); repeat (first | (refine w ?_; conv => whnf) | (refine ⟨fun h => absurd h Bool.false_ne_true, fun _ => ?_⟩; conv => whnf) | (refine ⟨fun _ => ?_, fun h => absurd h.symm Bool.false_ne_true⟩; conv => whnf))
  refine ⟨_, nums_at (gt_some hM), ?_⟩
  (conv => whnf); repeat (first | (refine w ?_; conv => whnf) | (refine ⟨fun h => absurd h Bool.false_ne_true, fun _ => ?_⟩; conv => whnf) | (refine ⟨fun _ => ?_, fun h => absurd h.symm Bool.false_ne_true⟩; conv => whnf))
  rw [if_min]
  exact le_of [0] rfl rfl rfl ⟨rfl, trivial⟩ ⟨by show Blk.row 3 1 ((nums q).set _ [.int .i64 _]) = _; rw [nums_set]; rfl, trivial⟩
theorem c203 (q p : List Int) (h : Frs q p) (hn : q.length ≤ 1000000) : Con P 203 [.row 3 1 (nums q)] [.ref 0] (.ref 0) [.row 3 1 (nums p)] := by
  refine go Tryz.func203 (by rfl) rfl rfl rfl fun hl => ?_
  (conv => whnf); repeat (first | (refine w ?_; conv => whnf) | (refine ⟨fun h => absurd h Bool.false_ne_true, fun _ => ?_⟩; conv => whnf) | (refine ⟨fun _ => ?_, fun h => absurd h.symm Bool.false_ne_true⟩; conv => whnf))
  rw [nums_len]
  refine loop (fun x : Nat × List Int => mkSt [(6, .int .i64 x.1), (5, .int .i64 q.length), (0, .ref 0)] [.row 3 1 (nums x.2)]) (fun x => x.1 ≤ q.length ∧ x.2.length = q.length ∧ Frs x.2 p ∧ ∀ j, j < x.1 → gt x.2 j = gt p j) (fun x => q.length - x.1) (0, q) ⟨Nat.zero_le _, rfl, h, fun j hj => absurd hj (Nat.not_lt_zero _)⟩
    (le_of [0] rfl rfl rfl ⟨rfl, rfl, rfl, trivial⟩ ⟨rfl, trivial⟩) ?_
  rintro ⟨i, r⟩ ⟨hi, hr, hf, hd⟩
  have hi : i ≤ q.length := hi
  have hr : r.length = q.length := hr
  have hf : Frs r p := hf
  have hd : ∀ j, j < i → gt r j = gt p j := hd
  (conv => whnf); repeat (first | (refine w ?_; conv => whnf) | (refine ⟨fun h => absurd h Bool.false_ne_true, fun _ => ?_⟩; conv => whnf) | (refine ⟨fun _ => ?_, fun h => absurd h.symm Bool.false_ne_true⟩; conv => whnf))
  refine ⟨fun hlt => ?_, fun hge => ?_⟩
  · have hlt := of_lt hlt
    have ka := hf.all i (by omega)
    (conv => whnf); repeat (first | (refine w ?_; conv => whnf) | (refine ⟨fun h => absurd h Bool.false_ne_true, fun _ => ?_⟩; conv => whnf) | (refine ⟨fun _ => ?_, fun h => absurd h.symm Bool.false_ne_true⟩; conv => whnf))
    refine ⟨_, _, c207 r p hf i (by omega), ?_⟩
    (conv => whnf); repeat (first | (refine w ?_; conv => whnf) | (refine ⟨fun h => absurd h Bool.false_ne_true, fun _ => ?_⟩; conv => whnf) | (refine ⟨fun _ => ?_, fun h => absurd h.symm Bool.false_ne_true⟩; conv => whnf))
    refine ⟨⟨by omega, by rw [nums_len]; omega⟩, ?_⟩
    (conv => whnf); repeat (first | (refine w ?_; conv => whnf) | (refine ⟨fun h => absurd h Bool.false_ne_true, fun _ => ?_⟩; conv => whnf) | (refine ⟨fun _ => ?_, fun h => absurd h.symm Bool.false_ne_true⟩; conv => whnf))
    refine ⟨_, nums_at (show r[((i : Int)).toNat]? = some (gt r i) by rw [Int.toNat_natCast]; exact gt_some (by omega)), ?_⟩
    (conv => whnf); repeat (first | (refine w ?_; conv => whnf) | (refine ⟨fun h => absurd h Bool.false_ne_true, fun _ => ?_⟩; conv => whnf) | (refine ⟨fun _ => ?_, fun h => absurd h.symm Bool.false_ne_true⟩; conv => whnf))
    refine ⟨(i + 1, r.set i (gt p i)), ⟨hlt, by simp [hr], hf.flat (by omega), fun j hj => ?_⟩, by show q.length - (i + 1) < q.length - i; omega, le_of [0] rfl rfl rfl ⟨step_num hlt (by omega), rfl, rfl, trivial⟩ ⟨by show Blk.row 3 1 ((nums r).set ((i : Int)).toNat [.int .i64 _]) = _; rw [nums_set, Int.toNat_natCast]; rfl, trivial⟩⟩
    show gt (r.set i (gt p i)) j = gt p j
    have hj : j < i + 1 := hj
    rw [gt_set (by omega)]
    split
    · rename_i e; rw [e]
    · exact hd j (by omega)
  · have hge := of_ge hge
    have e : r = p := gt_ext (by rw [hr, ← h.len]) fun j hj => hd j (by omega)
    rw [e]
    (conv => whnf); repeat (first | (refine w ?_; conv => whnf) | (refine ⟨fun h => absurd h Bool.false_ne_true, fun _ => ?_⟩; conv => whnf) | (refine ⟨fun _ => ?_, fun h => absurd h.symm Bool.false_ne_true⟩; conv => whnf))
    exact le_of [0] rfl rfl rfl ⟨rfl, trivial⟩ ⟨rfl, trivial⟩
theorem rng_at {f n i : Nat} (h : i < n) : (rng f n)[i]? = some ((f + i : Nat) : Int) := by simp [rng, h]
theorem gt_rng {n i : Nat} (h : i < n) : gt (rng 0 n) i = i := by simp [gt, List.getD_eq_getElem?_getD, rng_at h]
theorem ptn_rng (n : Nat) : Ptn (rng 0 n) where
  low i hi := by rw [rng_len] at hi; rw [gt_rng hi]; omega
  up i hi := by rw [rng_len] at hi; rw [gt_rng hi]; omega
  idem i hi := by rw [rng_len] at hi; rw [gt_rng hi, Int.toNat_natCast, gt_rng hi]
theorem c201 (n : Nat) (hn : n ≤ 1000000) : Con P 201 [] [.int .i64 n] (.ref 0) [.row 3 1 (nums (rng 0 n))] := by
  refine go Tryz.func201 (by rfl) rfl rfl rfl fun hl => ?_
  (conv => whnf); repeat (first | (refine w ?_; conv => whnf) | (refine ⟨fun h => absurd h Bool.false_ne_true, fun _ => ?_⟩; conv => whnf) | (refine ⟨fun _ => ?_, fun h => absurd h.symm Bool.false_ne_true⟩; conv => whnf))
  refine ⟨⟨rfl, by omega, by show 8 * _ ≤ _; omega, by show _ ≤ maxLen; unfold maxLen; omega⟩, ?_⟩
  (conv => whnf); repeat (first | (refine w ?_; conv => whnf) | (refine ⟨fun h => absurd h Bool.false_ne_true, fun _ => ?_⟩; conv => whnf) | (refine ⟨fun _ => ?_, fun h => absurd h.symm Bool.false_ne_true⟩; conv => whnf))
  refine loop (fun i : Nat => mkSt [(9, .int .i64 i), (8, .int .i64 n), (3, .ref 0)] [.row 3 1 (nums ((rng 0 n).take i ++ List.replicate (n - i) 0))]) (fun i => i ≤ n) (fun i => n - i) 0 (Nat.zero_le _)
    (le_of [1] rfl rfl rfl ⟨rfl, by show AV.int .i64 ((chunk 1 (n : Int).toNat (repl (n : Int).toNat [.int .i64 0])).length : Nat) = _; rw [Int.toNat_natCast, nums_make, nums_len]; simp; rfl, rfl, trivial⟩ ⟨by show Blk.row 3 1 (chunk 1 (n : Int).toNat (repl (n : Int).toNat [.int .i64 0])) = _; rw [Int.toNat_natCast, nums_make]; rfl, trivial⟩) ?_
  intro i hi
  (conv => whnf); repeat (first | (refine w ?_; conv => whnf) | (refine ⟨fun h => absurd h Bool.false_ne_true, fun _ => ?_⟩; conv => whnf) | (refine ⟨fun _ => ?_, fun h => absurd h.symm Bool.false_ne_true⟩; conv => whnf))
  refine ⟨fun hlt => ?_, fun hge => ?_⟩
  · have hlt := of_lt hlt
    have hlen : (nums ((rng 0 n).take i ++ List.replicate (n - i) 0)).length = n := by rw [nums_len]; simp [rng_len]; omega
    (conv => whnf); repeat (first | (refine w ?_; conv => whnf) | (refine ⟨fun h => absurd h Bool.false_ne_true, fun _ => ?_⟩; conv => whnf) | (refine ⟨fun _ => ?_, fun h => absurd h.symm Bool.false_ne_true⟩; conv => whnf))
    refine ⟨⟨by omega, by rw [hlen]; omega⟩, ?_⟩
    (conv => whnf); repeat (first | (refine w ?_; conv => whnf) | (refine ⟨fun h => absurd h Bool.false_ne_true, fun _ => ?_⟩; conv => whnf) | (refine ⟨fun _ => ?_, fun h => absurd h.symm Bool.false_ne_true⟩; conv => whnf))
    refine ⟨_, nums_at (show ((rng 0 n).take i ++ List.replicate (n - i) 0)[((i : Int)).toNat]? = some 0 by rw [Int.toNat_natCast, List.getElem?_append_right (by simp [rng_len]; omega), List.getElem?_replicate, if_pos (by simp [rng_len]; omega)]), ?_⟩
    (conv => whnf); repeat (first | (refine w ?_; conv => whnf) | (refine ⟨fun h => absurd h Bool.false_ne_true, fun _ => ?_⟩; conv => whnf) | (refine ⟨fun _ => ?_, fun h => absurd h.symm Bool.false_ne_true⟩; conv => whnf))
    exact ⟨i + 1, hlt, by show n - (i + 1) < n - i; omega, le_of [0] rfl rfl rfl ⟨step_num hlt (by omega), rfl, rfl, trivial⟩ ⟨by
      show Blk.row 3 1 ((nums _).set ((i : Int)).toNat [.int .i64 _]) = _
      rw [nums_set, Int.toNat_natCast, fill_set (x := (i : Int)) (by rw [rng_at hlt, Nat.zero_add]) (rng_len 0 n)]; rfl, trivial⟩⟩
  · have hge := of_ge hge
    have : i = n := by omega
    subst this
    rw [take_of_all (by simp [rng_len]), Nat.sub_self, List.replicate_zero, List.append_nil]
    (conv => whnf); repeat (first | (refine w ?_; conv => whnf) | (refine ⟨fun h => absurd h Bool.false_ne_true, fun _ => ?_⟩; conv => whnf) | (refine ⟨fun _ => ?_, fun h => absurd h.symm Bool.false_ne_true⟩; conv => whnf))
    exact le_of [0] rfl rfl rfl ⟨rfl, trivial⟩ ⟨rfl, trivial⟩
/-- The finest partition of n elements in which pairs are equivalent. -/
def gen (n : Nat) (l : List (Int × Int)) : List Int := l.foldl (fun p x => mrg p x.1 x.2) (rng 0 n)
theorem gen_len (n : Nat) (l : List (Int × Int)) : (gen n l).length = n := by
  unfold gen
  have : ∀ (l : List (Int × Int)) (p : List Int), (l.foldl (fun p x => mrg p x.1 x.2) p).length = p.length := by
    intro l
    induction l with
    | nil => intro p; rfl
    | cons x r ih => intro p; rw [List.foldl_cons, ih, mrg_len]
  rw [this, rng_len]
theorem gen_take {n : Nat} {l : List (Int × Int)} {i : Nat} {x : Int × Int} (h : l[i]? = some x) : gen n (l.take (i + 1)) = mrg (gen n (l.take i)) x.1 x.2 := by
  unfold gen
  rw [List.take_add_one, h, Option.toList_some, List.foldl_append]; rfl
def inR (n : Nat) (l : List (Int × Int)) : Prop := ∀ x ∈ l, (0 ≤ x.1 ∧ x.1 < n) ∧ (0 ≤ x.2 ∧ x.2 < n)
theorem c187 (n : Nat) (l : List (Int × Int)) (hn : n ≤ 80) (hr : inR n l) (hl2 : l.length ≤ 1000000) : Con P 187 [] [.int .i64 n, .slice 2 (przs l)] (.tuple [.slice 1 (nums (gen n l)), .int .i64 0]) [] := by
  refine go Tryz.func187 (by rfl) rfl rfl rfl fun hl => ?_
  (conv => whnf); repeat (first | (refine w ?_; conv => whnf) | (refine ⟨fun h => absurd h Bool.false_ne_true, fun _ => ?_⟩; conv => whnf) | (refine ⟨fun _ => ?_, fun h => absurd h.symm Bool.false_ne_true⟩; conv => whnf))
  refine ⟨fun h => absurd h (by simp; omega), fun _ => ?_⟩
  (conv => whnf); repeat (first | (refine w ?_; conv => whnf) | (refine ⟨fun h => absurd h Bool.false_ne_true, fun _ => ?_⟩; conv => whnf) | (refine ⟨fun _ => ?_, fun h => absurd h.symm Bool.false_ne_true⟩; conv => whnf))
  refine ⟨_, _, c201 n (by omega), ?_⟩
  (conv => whnf); repeat (first | (refine w ?_; conv => whnf) | (refine ⟨fun h => absurd h Bool.false_ne_true, fun _ => ?_⟩; conv => whnf) | (refine ⟨fun _ => ?_, fun h => absurd h.symm Bool.false_ne_true⟩; conv => whnf))
  rw [przs_len]
  refine loop (fun x : Nat × List Int => mkSt [(17, .int .i64 x.1), (16, .int .i64 l.length), (15, .slice 2 (przs l)), (0, .int .i64 n), (6, .ref 0)] [.row 3 1 (nums x.2)]) (fun x => x.1 ≤ l.length ∧ x.2.length = n ∧ Frs x.2 (gen n (l.take x.1))) (fun x => l.length - x.1) (0, rng 0 n) ⟨Nat.zero_le _, rng_len 0 n, Frs.self (ptn_rng n)⟩
    (le_of [1] rfl rfl rfl ⟨rfl, rfl, rfl, rfl, rfl, trivial⟩ ⟨rfl, trivial⟩) ?_
  rintro ⟨i, q⟩ ⟨hi, hq, hf⟩
  have hi : i ≤ l.length := hi
  have hq : q.length = n := hq
  have hf : Frs q (gen n (l.take i)) := hf
  (conv => whnf); repeat (first | (refine w ?_; conv => whnf) | (refine ⟨fun h => absurd h Bool.false_ne_true, fun _ => ?_⟩; conv => whnf) | (refine ⟨fun _ => ?_, fun h => absurd h.symm Bool.false_ne_true⟩; conv => whnf))
  refine ⟨fun hlt => ?_, fun hge => ?_⟩
  · have hlt := of_lt hlt
    have hx : l[i]? = some l[i] := List.getElem?_eq_getElem hlt
    generalize l[i] = x at hx
    obtain ⟨x1, x2⟩ := hr x (List.mem_of_getElem? hx)
    obtain ⟨a, ha⟩ := Int.eq_ofNat_of_zero_le x1.1
    obtain ⟨b, hb⟩ := Int.eq_ofNat_of_zero_le x2.1
    have hm := hf.mrg (a := x.1) (b := x.2) (by omega) (by omega)
    rw [← gen_take hx] at hm
    rw [ha, hb] at hm
    (conv => whnf); repeat (first | (refine w ?_; conv => whnf) | (refine ⟨fun h => absurd h Bool.false_ne_true, fun _ => ?_⟩; conv => whnf) | (refine ⟨fun _ => ?_, fun h => absurd h.symm Bool.false_ne_true⟩; conv => whnf))
    refine ⟨by omega, _, przs_at hx, ?_⟩
    (conv => whnf); repeat (first | (refine w ?_; conv => whnf) | (refine ⟨fun h => absurd h Bool.false_ne_true, fun _ => ?_⟩; conv => whnf) | (refine ⟨fun _ => ?_, fun h => absurd h.symm Bool.false_ne_true⟩; conv => whnf))
    rw [ha, hb]
    refine ⟨fun h => absurd h (by simp <;> omega), fun _ => ?_⟩
    (conv => whnf); repeat (first | (refine w ?_; conv => whnf) | (refine ⟨fun h => absurd h Bool.false_ne_true, fun _ => ?_⟩; conv => whnf) | (refine ⟨fun _ => ?_, fun h => absurd h.symm Bool.false_ne_true⟩; conv => whnf))
    refine ⟨fun h => absurd h (by simp <;> omega), fun _ => ?_⟩
    (conv => whnf); repeat (first | (refine w ?_; conv => whnf) | (refine ⟨fun h => absurd h Bool.false_ne_true, fun _ => ?_⟩; conv => whnf) | (refine ⟨fun _ => ?_, fun h => absurd h.symm Bool.false_ne_true⟩; conv => whnf))
    refine ⟨fun h => absurd h (by simp <;> omega), fun _ => ?_⟩
    (conv => whnf); repeat (first | (refine w ?_; conv => whnf) | (refine ⟨fun h => absurd h Bool.false_ne_true, fun _ => ?_⟩; conv => whnf) | (refine ⟨fun _ => ?_, fun h => absurd h.symm Bool.false_ne_true⟩; conv => whnf))
    refine ⟨_, _, c202 q (gen n (l.take i)) hf a b (by omega) (by omega), ?_⟩
    (conv => whnf); repeat (first | (refine w ?_; conv => whnf) | (refine ⟨fun h => absurd h Bool.false_ne_true, fun _ => ?_⟩; conv => whnf) | (refine ⟨fun _ => ?_, fun h => absurd h.symm Bool.false_ne_true⟩; conv => whnf))
    exact ⟨(i + 1, q.set (max (gt (gen n (l.take i)) a) (gt (gen n (l.take i)) b)).toNat (min (gt (gen n (l.take i)) a) (gt (gen n (l.take i)) b))), ⟨hlt, by simp [hq], hm⟩, by show l.length - (i + 1) < l.length - i; omega, le_of [0] rfl rfl rfl ⟨step_num hlt (by omega), rfl, rfl, rfl, rfl, trivial⟩ ⟨rfl, trivial⟩⟩
  · have hge := of_ge hge
    rw [take_of_all hge] at hf
    (conv => whnf); repeat (first | (refine w ?_; conv => whnf) | (refine ⟨fun h => absurd h Bool.false_ne_true, fun _ => ?_⟩; conv => whnf) | (refine ⟨fun _ => ?_, fun h => absurd h.symm Bool.false_ne_true⟩; conv => whnf))
    refine ⟨_, _, c203 q (gen n l) hf (by omega), ?_⟩
    (conv => whnf); repeat (first | (refine w ?_; conv => whnf) | (refine ⟨fun h => absurd h Bool.false_ne_true, fun _ => ?_⟩; conv => whnf) | (refine ⟨fun _ => ?_, fun h => absurd h.symm Bool.false_ne_true⟩; conv => whnf))
    refine fin_frz TT ?_ rfl
    rfl
end Go.Av.Z
