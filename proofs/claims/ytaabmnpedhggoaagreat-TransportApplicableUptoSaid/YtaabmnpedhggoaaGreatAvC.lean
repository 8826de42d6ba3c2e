/- Part 3 of 5 of a proof: the logic Av, contracts of functions. -/
import Derived.Test.YtaabmnpedhggoaaGreatAvB
import Derived.Shelf.Small.Strs
import Derived.Shelf.Strings.Search1
import Derived.Shelf.Sort.Plain
import Derived.Shelf.Slices.Reverse
import Derived.Ground.Names2Prog
import Derived.Shelf.Slices.CompactI
import Derived.Shelf.Slices.In.SortNone
import Derived.Test.YtaabmnpedhggoaaGreatProg
import Derived.Sort.OwnSortedInts
import Derived.WalkKit
import Derived.Laws.AppendOwn
set_option linter.unusedVariables false
set_option maxRecDepth 100000
/- Complements: what is left. -/
namespace Go.Av.Z
open Go.Proofs

theorem c136 (l g : Graph) (keep m : Mor) (h1 : m.nodes.length ≤ 1000000) (h2 : m.edges.length ≤ 1000000) : Con P 136 [] [.agg (glu l g keep m)] (.tuple [.slice 2 (prss (prs m.nodes keep.nodes)), .slice 2 (prss (prs m.edges keep.edges))]) [] := by
  refine go Tryz.func136 (by rfl) rfl rfl rfl fun hl => ?_
  refine W0 ?_
  refine ⟨_, _, c192 m.nodes keep.nodes h1, ?_⟩
  refine W0 ?_
  refine ⟨_, _, c192 m.edges keep.edges h2, ?_⟩
  refine W0 ?_
  refine ⟨by kernel_rfl, ?_⟩
  refine W0 ?_
  exact fin_frz TT rfl rfl

/-- The numbers below n that are not in a list. -/
def restL (n : Nat) (gn : List Int) : List Int := ((List.range n).filter fun (i : Nat) => !gn.contains (i : Int)).map fun (i : Nat) => (i : Int)
theorem restL_yes {n : Nat} {gn : List Int} (h : (!gn.contains (n : Int)) = true) : restL (n + 1) gn = restL n gn ++ [(n : Int)] := by
  unfold restL
  rw [List.range_succ, List.filter_append, List.map_append, List.filter_cons, if_pos h]
  simp
theorem restL_no {n : Nat} {gn : List Int} (h : (!gn.contains (n : Int)) = false) : restL (n + 1) gn = restL n gn := by
  unfold restL
  rw [List.range_succ, List.filter_append, List.map_append, List.filter_cons, if_neg (by rw [h]; simp)]
  simp
theorem restL_len (n : Nat) (gn : List Int) : (restL n gn).length ≤ n := by
  unfold restL
  rw [List.length_map]
  exact Nat.le_trans (List.length_filter_le _ _) (by simp)
theorem c219 (n : Nat) (gn : List Int) (hn : n ≤ 1000000) : Con P 219 [] [.int .i64 n, .slice 1 (nums gn)] (.slice 1 (nums (restL n gn))) [] := by
  refine go Tryz.func219 (by rfl) rfl rfl rfl fun hl => ?_
  refine W0 ?_
  refine loop (fun i : Nat => mkSt [(6, .int .i64 i), (0, .int .i64 n), (1, .slice 1 (nums gn)), (5, .ref 0)] [.row 3 1 (nums (restL i gn))]) (fun i => i ≤ n) (fun i => n - i) 0 (Nat.zero_le _)
    (le_of [1] rfl rfl rfl ⟨rfl, rfl, rfl, rfl, trivial⟩ ⟨rfl, trivial⟩) ?_
  intro i hi
  refine W0 ?_
  refine ⟨fun hlt => ?_, fun hge => ?_⟩
  · have hlt := of_lt hlt
    have hlen := restL_len i gn
    refine W0 ?_
    refine ⟨_, _, c253 gn i, ?_⟩
    refine W0 ?_
    refine ⟨fun h1 => ?_, fun h1 => ?_⟩
    · refine W0 ?_
      refine ⟨by rw [nums_len]; show (_ + 1) * 8 ≤ _; omega, ?_⟩
      refine W0 ?_
      exact ⟨i + 1, hlt, by show n - (i + 1) < n - i; omega, le_of [3] rfl rfl rfl ⟨step_num hlt (by omega), rfl, rfl, rfl, trivial⟩ ⟨by rw [restL_yes h1, nums_app]; rfl, trivial⟩⟩
    · refine W0 ?_
      exact ⟨i + 1, hlt, by show n - (i + 1) < n - i; omega, le_of [0] rfl rfl rfl ⟨step_num hlt (by omega), rfl, rfl, rfl, trivial⟩ ⟨by rw [restL_no h1]; rfl, trivial⟩⟩
  · have hge := of_ge hge
    have : i = n := by omega
    subst this
    refine W0 ?_
    exact fin_frz TT rfl rfl

/-- A row of truths. -/
def bools (f : Nat → Bool) (n : Nat) : List (List AV) := (List.range n).map fun i => [.bool (f i)]
theorem bools_len (f : Nat → Bool) (n : Nat) : (bools f n).length = n := by simp [bools]
theorem bools_at {f : Nat → Bool} {n i : Nat} (h : i < n) : (bools f n)[i]? = some [.bool (f i)] := by simp [bools, h]
theorem bools_set {f f' : Nat → Bool} {n k : Nat} (h : ∀ j, j < n → f' j = if j = k then true else f j) : (bools f n).set k [.bool true] = bools f' n := by
  apply List.ext_getElem?
  intro j
  by_cases hj : j < n
  · rw [List.getElem?_set, bools_at hj, bools_at hj, bools_len, h j hj]
    by_cases hk : k = j
    · subst hk; simp [hj]
    · rw [if_neg hk, if_neg (fun e => hk e.symm)]
  · rw [List.getElem?_eq_none (by rw [List.length_set, bools_len]; omega), List.getElem?_eq_none (by rw [bools_len]; omega)]
theorem chunk_ones : ∀ (n : Nat) (b : AV), chunk 1 n (repl n [b]) = List.replicate n [b]
  | 0, b => rfl
  | n + 1, b => by
    have e : repl (n + 1) [b] = b :: repl n [b] := by simp [repl, List.replicate_succ]
    rw [e]
    simp [chunk, chunk_ones n b, List.replicate_succ]
theorem bools_make (n : Nat) : chunk 1 n (repl n [.bool false]) = bools (fun _ => false) n := by
  rw [chunk_ones]
  simp [bools, List.map_const']

theorem c137 (n : Nat) (images keep : List Int) (hn : n ≤ 1000000) (hl : images.length ≤ 1000000) (hin : ∀ k ∈ images, 0 ≤ k ∧ k < n) : Con P 137 [] [.int .i64 n, .slice 1 (nums images), .slice 1 (nums keep)] (.slice 1 (nums (restL n (gone images keep)))) [] := by
  refine go Tryz.func137 (by rfl) rfl rfl rfl fun hl => ?_
  refine W0 ?_
  refine ⟨⟨rfl, by omega, by show 1 * _ ≤ _; omega, by show _ ≤ maxLen; unfold maxLen; omega⟩, ?_⟩
  refine W0 ?_
  refine loop (fun i : Nat => mkSt [(17, .int .i64 i), (16, .int .i64 images.length), (15, .slice 1 (nums images)), (2, .slice 1 (nums keep)), (7, .ref 0)] [.row 4 1 (bools (fun j => (sel (goneF keep) 0 (images.take i)).contains (j : Int)) n)]) (fun i => i ≤ images.length) (fun i => images.length - i) 0 (Nat.zero_le _)
    (le_of [1] rfl rfl rfl ⟨rfl, by rw [nums_len]; rfl, rfl, rfl, rfl, trivial⟩ ⟨by show Blk.row 4 1 (chunk 1 (n : Int).toNat (repl (n : Int).toNat [.bool false])) = _; rw [Int.toNat_natCast, bools_make]; rfl, trivial⟩) ?_
  intro i hi
  refine W0 ?_
  refine ⟨fun hlt => ?_, fun hge => ?_⟩
  · have hlt := of_lt hlt
    have hx : images[i]? = some images[i] := List.getElem?_eq_getElem hlt
    generalize images[i] = k at hx
    have hk := hin k (List.mem_of_getElem? hx)
    refine W0 ?_
    refine ⟨by omega, _, nums_at hx, ?_⟩
    refine W0 ?_
    refine ⟨_, _, c43 keep i, ?_⟩
    refine W0 ?_
    refine ⟨fun h1 => ?_, fun h1 => ?_⟩
    · have hF : goneF keep i k = some k := by rw [goneF, if_neg (by simpa using h1)]
      refine W0 ?_
      refine ⟨⟨by omega, by rw [bools_len]; omega⟩, ?_⟩
      refine W0 ?_
      refine ⟨_, bools_at (by omega), ?_⟩
      refine W0 ?_
      refine ⟨i + 1, hlt, by show images.length - (i + 1) < images.length - i; omega, le_of [0] rfl rfl rfl ⟨step_num hlt (by omega), rfl, rfl, rfl, rfl, trivial⟩ ⟨?_, trivial⟩⟩
      show Blk.row 4 1 ((bools _ n).set k.toNat [.bool true]) = Blk.row 4 1 _
      rw [sel_some hx hF, bools_set (f' := fun j => (sel (goneF keep) 0 (images.take i) ++ [k]).contains (j : Int))]
      intro j hj
      by_cases hjk : j = k.toNat
      · rw [if_pos hjk]
        have : (j : Int) = k := by omega
        simp [this]
      · rw [if_neg hjk]
        have : ¬ (j : Int) = k := by omega
        simp [this]
    · have hF : goneF keep i k = none := by rw [goneF, if_pos (by simpa using h1)]
      refine W0 ?_
      exact ⟨i + 1, hlt, by show images.length - (i + 1) < images.length - i; omega, le_of [0] rfl rfl rfl ⟨step_num hlt (by omega), rfl, rfl, rfl, rfl, trivial⟩ ⟨by rw [sel_none hx hF]; rfl, trivial⟩⟩
  · have hge := of_ge hge
    rw [take_of_all hge]
    generalize hgn : sel (goneF keep) 0 images = gn
    have hgo : gone images keep = gn := hgn
    rw [hgo]
    refine W0 ?_
    rw [bools_len]
    refine loop (fun i : Nat => mkSt [(32, .int .i64 i), (31, .int .i64 n), (30, .ref 0), (10, .ref 1)] [.row 4 1 (bools (fun j => gn.contains (j : Int)) n), .row 3 1 (nums (restL i gn))]) (fun i => i ≤ n) (fun i => n - i) 0 (Nat.zero_le _)
      (le_of [0, 1] rfl rfl rfl ⟨rfl, rfl, rfl, rfl, trivial⟩ ⟨rfl, rfl, trivial⟩) ?_
    clear hi
    intro i hi
    refine W0 ?_
    refine ⟨fun hlt => ?_, fun hge => ?_⟩
    · have hlt := of_lt hlt
      have hlen := restL_len i gn
      refine W0 ?_
      refine ⟨⟨by omega, by rw [bools_len]; omega⟩, ?_⟩
      refine W0 ?_
      refine ⟨rfl, _, bools_at (by omega), ?_⟩
      refine W0 ?_
      rw [Int.toNat_natCast]
      refine ⟨fun h1 => ?_, fun h1 => ?_⟩
      · refine W0 ?_
        refine ⟨by rw [nums_len]; show (_ + 1) * 8 ≤ _; omega, ?_⟩
        refine W0 ?_
        exact ⟨i + 1, hlt, by show n - (i + 1) < n - i; omega, le_of [0, 3] rfl rfl rfl ⟨step_num hlt (by omega), rfl, rfl, rfl, trivial⟩ ⟨rfl, by rw [restL_yes h1, nums_app]; rfl, trivial⟩⟩
      · refine W0 ?_
        exact ⟨i + 1, hlt, by show n - (i + 1) < n - i; omega, le_of [0, 1] rfl rfl rfl ⟨step_num hlt (by omega), rfl, rfl, rfl, trivial⟩ ⟨rfl, by rw [restL_no h1]; rfl, trivial⟩⟩
    · have hge := of_ge hge
      have : i = n := by omega
      subst this
      refine W0 ?_
      exact fin_frz TT rfl rfl
end Go.Av.Z

/- The complement. -/
namespace Go.Av.Z
open Go.Proofs

theorem mval_ok {a b : Graph} {m : Mor} (h : mval a b m = 0) : gval a = 0 ∧ gval b = 0 ∧ m.nodes.length = a.nodes.length ∧ m.edges.length = a.edges.length ∧ errs (mnode a b) 0 m.nodes = 0 ∧ errs (medge a b m) 0 m.edges = 0 := by
  unfold mval at h
  split at h
  · exact absurd h ‹_›
  · split at h
    · exact absurd h ‹_›
    · split at h
      · cases h
      · split at h
        · exact absurd h ‹_›
        · exact ⟨by omega, by omega, by omega, by omega, by omega, h⟩
theorem mval_node {a b : Graph} {m : Mor} (h : mval a b m = 0) : ∀ k ∈ m.nodes, 0 ≤ k ∧ k < b.nodes.length := by
  intro k hk
  obtain ⟨i, hi⟩ := List.mem_iff_getElem?.1 hk
  have := errs_off (mval_ok h).2.2.2.2.1 i k hi
  rw [Nat.zero_add, mnode] at this
  split at this
  · cases this
  · omega
theorem mval_edge {a b : Graph} {m : Mor} (h : mval a b m = 0) : ∀ k ∈ m.edges, 0 ≤ k ∧ k < b.edges.length := by
  intro k hk
  obtain ⟨i, hi⟩ := List.mem_iff_getElem?.1 hk
  have := errs_off (mval_ok h).2.2.2.2.2 i k hi
  rw [Nat.zero_add, medge] at this
  split at this
  · cases this
  · omega
theorem cgiv_ok {l g : Graph} {keep m : Mor} (h : cgiv l g keep m = 0) : mval l g m = 0 ∧ pval l keep = 0 := by
  unfold cgiv at h
  split at h
  · exact absurd h ‹_›
  · exact ⟨by omega, h⟩
/-- The error of a complement. -/
def cerr (l g : Graph) (keep m : Mor) : Int :=
  if cgiv l g keep m ≠ 0 then cgiv l g keep m else if 0 < (prs m.nodes keep.nodes).length + (prs m.edges keep.edges).length then 15 else if 0 < (dang g keep m).length then 14 else 0
/-- The complement. -/
def cpart (l g : Graph) (keep m : Mor) : Mor :=
  if cerr l g keep m = 0 then ⟨restL g.nodes.length (gone m.nodes keep.nodes), restL g.edges.length (gone m.edges keep.edges)⟩ else ⟨[], []⟩
theorem prs_len (images keep : List Int) (h : images.length ≤ 1000000) : (prs images keep).length ≤ 1000000000000 := by
  have h1 := pOut_len images keep images.length images.length
  have h2 : images.length * images.length ≤ 1000000 * 1000000 := Nat.mul_le_mul h h
  unfold prs; omega
theorem gt_sum {a b : Nat} (ha : a ≤ 1000000000000) (hb : b ≤ 1000000000000) : decide ((0 : Int) < IntKind.i64.wrap ((a : Int) + b)) = decide (0 < a + b) := by
  rw [wrap_small (by omega) (by omega), decide_eq_decide]; omega

theorem c75 (l g : Graph) (keep m : Mor) : Con P 75 [] [l.av, g.av, keep.av, m.av] (.tuple [(cpart l g keep m).av, .int .i64 (cerr l g keep m)]) [] := by
  refine go Tryz.func75 (by rfl) rfl rfl rfl fun hl => ?_
  refine W0 ?_
  refine ⟨_, _, c83 l g keep m, ?_⟩
  refine W0 ?_
  refine ⟨fun h1 => ?_, fun h1 => ?_⟩
  · have h1 : cgiv l g keep m ≠ 0 := by simpa using h1
    refine W0 ?_
    refine fin_frz TT ?_ rfl
    have e : cerr l g keep m = cgiv l g keep m := by rw [cerr, if_pos h1]
    rw [cpart, e, if_neg h1]; rfl
  have h1 : cgiv l g keep m = 0 := by simpa using h1
  obtain ⟨hmv, hpv⟩ := cgiv_ok h1
  obtain ⟨hgl, hgg, e1, e2, _⟩ := mval_ok hmv
  have b1 := gval_len hgl
  have b2 := gval_len hgg
  have p1 := prs_len m.nodes keep.nodes (by omega)
  have p2 := prs_len m.edges keep.edges (by omega)
  refine W0 ?_
  refine ⟨_, _, c136 l g keep m (by omega) (by omega), ?_⟩
  refine W0 ?_
  rw [prss_len, prss_len, gt_sum p1 p2]
  refine ⟨fun h2 => ?_, fun h2 => ?_⟩
  · have h2 := of_decide_eq_true h2
    refine W0 ?_
    refine fin_frz TT ?_ rfl
    have e : cerr l g keep m = 15 := by rw [cerr, if_neg (by omega), if_pos h2]
    rw [cpart, e, if_neg (by decide)]; rfl
  have h2 := of_decide_eq_false h2
  refine W0 ?_
  refine ⟨_, _, c84 l g keep m (by omega) (by omega), ?_⟩
  refine W0 ?_
  rw [nums_len]
  refine ⟨fun h3 => ?_, fun h3 => ?_⟩
  · have h3 : 0 < (dang g keep m).length := by have := of_decide_eq_true h3; omega
    refine W0 ?_
    refine fin_frz TT ?_ rfl
    have e : cerr l g keep m = 14 := by rw [cerr, if_neg (by omega), if_neg h2, if_pos h3]
    rw [cpart, e, if_neg (by decide)]; rfl
  have h3 : ¬ 0 < (dang g keep m).length := by have := of_decide_eq_false h3; omega
  have e : cerr l g keep m = 0 := by rw [cerr, if_neg (by omega), if_neg h2, if_neg h3]
  refine W0 ?_
  rw [nums_len]
  refine ⟨_, _, c137 g.nodes.length m.nodes keep.nodes (by omega) (by omega) (mval_node hmv), ?_⟩
  refine W0 ?_
  rw [edgs_len]
  refine ⟨_, _, c137 g.edges.length m.edges keep.edges (by omega) (by omega) (mval_edge hmv), ?_⟩
  refine W0 ?_
  refine ⟨by kernel_rfl, ?_⟩
  refine W0 ?_
  refine fin_frz TT ?_ rfl
  rw [cpart, e, if_pos rfl]; rfl
theorem c174 (l g : Graph) (keep m : Mor) : Con P 174 [] [l.av, g.av, keep.av, m.av] (.tuple [(cpart l g keep m).av, .int .i64 (cerr l g keep m)]) [] := by
  refine go Tryz.func174 (by rfl) rfl rfl rfl fun hl => ?_
  refine W0 ?_
  refine ⟨_, _, c216 l g keep m, ?_⟩
  refine W0 ?_
  refine ⟨fun h1 => ?_, fun h1 => ?_⟩
  · have h1 : cgiv l g keep m ≠ 0 := by simpa using h1
    refine W0 ?_
    refine fin_frz TT ?_ rfl
    have e : cerr l g keep m = cgiv l g keep m := by rw [cerr, if_pos h1]
    rw [cpart, e, if_neg h1]; rfl
  have h1 : cgiv l g keep m = 0 := by simpa using h1
  obtain ⟨hmv, hpv⟩ := cgiv_ok h1
  obtain ⟨hgl, hgg, e1, e2, _⟩ := mval_ok hmv
  have b1 := gval_len hgl
  have b2 := gval_len hgg
  have p1 := prs_len m.nodes keep.nodes (by omega)
  have p2 := prs_len m.edges keep.edges (by omega)
  refine W0 ?_
  refine ⟨_, _, c217 m.nodes keep.nodes (by omega), ?_⟩
  refine W0 ?_
  refine ⟨_, _, c217 m.edges keep.edges (by omega), ?_⟩
  refine W0 ?_
  refine ⟨by kernel_rfl, ?_⟩
  refine W0 ?_
  rw [prss_len, prss_len, gt_sum p1 p2]
  refine ⟨fun h2 => ?_, fun h2 => ?_⟩
  · have h2 := of_decide_eq_true h2
    refine W0 ?_
    refine fin_frz TT ?_ rfl
    have e : cerr l g keep m = 15 := by rw [cerr, if_neg (by omega), if_pos h2]
    rw [cpart, e, if_neg (by decide)]; rfl
  have h2 := of_decide_eq_false h2
  refine W0 ?_
  refine ⟨_, _, c218 l g keep m (by omega) (by omega), ?_⟩
  refine W0 ?_
  rw [nums_len]
  refine ⟨fun h3 => ?_, fun h3 => ?_⟩
  · have h3 : 0 < (dang g keep m).length := by have := of_decide_eq_true h3; omega
    refine W0 ?_
    refine fin_frz TT ?_ rfl
    have e : cerr l g keep m = 14 := by rw [cerr, if_neg (by omega), if_neg h2, if_pos h3]
    rw [cpart, e, if_neg (by decide)]; rfl
  have h3 : ¬ 0 < (dang g keep m).length := by have := of_decide_eq_false h3; omega
  have e : cerr l g keep m = 0 := by rw [cerr, if_neg (by omega), if_neg h2, if_neg h3]
  refine W0 ?_
  refine ⟨_, _, c220 m.nodes keep.nodes (by omega), ?_⟩
  refine W0 ?_
  rw [nums_len]
  refine ⟨_, _, c219 g.nodes.length (gone m.nodes keep.nodes) (by omega), ?_⟩
  refine W0 ?_
  refine ⟨_, _, c220 m.edges keep.edges (by omega), ?_⟩
  refine W0 ?_
  rw [edgs_len]
  refine ⟨_, _, c219 g.edges.length (gone m.edges keep.edges) (by omega), ?_⟩
  refine W0 ?_
  refine ⟨by kernel_rfl, ?_⟩
  refine W0 ?_
  refine fin_frz TT ?_ rfl
  rw [cpart, e, if_pos rfl]; rfl
end Go.Av.Z

/- Small functions of the transport and of its reference. -/
namespace Go.Av.Z
open Go.Proofs

theorem c77 (l by_ : List Int) (hn : l.length ≤ 1000000) (h : ∀ k ∈ l, 0 ≤ k ∧ k < by_.length) : Con P 77 [] [.slice 1 (nums l), .slice 1 (nums by_)] (.slice 1 (nums (l.map (at0 by_)))) [] := by
  refine go Tryz.func77 (by rfl) rfl rfl rfl fun hl => ?_
  refine W0 ?_
  refine loop (fun i : Nat => mkSt [(6, .int .i64 i), (0, .slice 1 (nums l)), (1, .slice 1 (nums by_)), (5, .ref 0)] [.row 3 1 (nums ((l.take i).map (at0 by_)))]) (fun i => i ≤ l.length) (fun i => l.length - i) 0 (Nat.zero_le _)
    (le_of [1] rfl rfl rfl ⟨rfl, rfl, rfl, rfl, trivial⟩ ⟨rfl, trivial⟩) ?_
  intro i hi
  refine W0 ?_
  rw [nums_len]
  refine ⟨fun hlt => ?_, fun hge => ?_⟩
  · have hlt := of_lt hlt
    have hx : l[i]? = some l[i] := List.getElem?_eq_getElem hlt
    generalize l[i] = k at hx
    have hk := h k (List.mem_of_getElem? hx)
    refine W0 ?_
    refine ⟨by omega, _, nums_at hx, ?_⟩
    refine W0 ?_
    refine ⟨by omega, _, nums_at (at0_some (by omega)), ?_⟩
    refine W0 ?_
    refine ⟨by rw [nums_len, List.length_map, List.length_take]; show (min i l.length + 1) * 8 ≤ _; omega, ?_⟩
    refine W0 ?_
    exact ⟨i + 1, hlt, by show l.length - (i + 1) < l.length - i; omega, le_of [2] rfl rfl rfl ⟨step_num hlt (by omega), rfl, rfl, rfl, trivial⟩ ⟨by rw [take_map _ hx, nums_app]; rfl, trivial⟩⟩
  · have hge := of_ge hge
    rw [take_of_all hge]
    refine W0 ?_
    exact fin_frz TT rfl rfl
/-- Two morphisms, one after the other. -/
def mthen (m n : Mor) : Mor := ⟨m.nodes.map (at0 n.nodes), m.edges.map (at0 n.edges)⟩
theorem c76 (m n : Mor) (h1 : m.nodes.length ≤ 1000000) (h2 : m.edges.length ≤ 1000000) (h3 : ∀ k ∈ m.nodes, 0 ≤ k ∧ k < n.nodes.length) (h4 : ∀ k ∈ m.edges, 0 ≤ k ∧ k < n.edges.length) : Con P 76 [] [m.av, n.av] (mthen m n).av [] := by
  refine go Tryz.func76 (by rfl) rfl rfl rfl fun hl => ?_
  refine W0 ?_
  refine ⟨_, _, c77 m.nodes n.nodes h1 h3, ?_⟩
  refine W0 ?_
  refine ⟨_, _, c77 m.edges n.edges h2 h4, ?_⟩
  refine W0 ?_
  refine ⟨by kernel_rfl, ?_⟩
  refine W0 ?_
  exact fin_frz TT rfl rfl

def cyes : Cond := .mk 1 [] ⟨[], []⟩ ⟨⟨[], []⟩, [], 0, []⟩
def cno : Cond := .mk 2 [cyes] ⟨[], []⟩ ⟨⟨[], []⟩, [], 0, []⟩
theorem c47 : Con P 47 [] [] cyes.av [] := by
  refine go Tryz.func47 (by rfl) rfl rfl rfl fun hl => ?_
  refine W0 ?_
  exact fin_frz TT rfl rfl
theorem c55 : Con P 55 [] [] cyes.av [] := by
  refine go Tryz.func55 (by rfl) rfl rfl rfl fun hl => ?_
  refine W0 ?_
  exact fin_frz TT rfl rfl
theorem c127 : Con P 127 [] [] cno.av [] := by
  refine go Tryz.func127 (by rfl) rfl rfl rfl fun hl => ?_
  refine W0 ?_
  refine ⟨_, _, c47, ?_⟩
  refine W0 ?_
  exact fin_frz TT rfl rfl
theorem c130 : Con P 130 [] [] cno.av [] := by
  refine go Tryz.func130 (by rfl) rfl rfl rfl fun hl => ?_
  refine W0 ?_
  refine ⟨_, _, c55, ?_⟩
  refine W0 ?_
  exact fin_frz TT rfl rfl
/-- The span of a rule. -/
theorem c65 (r : Rule) : Con P 65 [] [r.av] (.agg (glu r.left.graph r.right.graph r.keep r.into)) [] := by
  refine go Tryz.func65 (by rfl) rfl rfl rfl fun hl => ?_
  refine W0 ?_
  exact fin_frz TT rfl rfl
end Go.Av.Z

/- Conditions by themselves. -/
namespace Go.Av.Z
open Go.Proofs

def plainB (p : Pat) : Bool := ((p.slots.length : Int) == 0) && ((p.vars == 0) && ((p.tests.length : Int) == 0))
theorem c206 (p : Pat) : Con P 206 [] [p.av] (.bool (plainB p)) [] := by
  refine go Tryz.func206 (by rfl) rfl rfl rfl fun hl => ?_
  refine W0 ?_
  rw [slts_len]
  refine ⟨fun h1 => ?_, fun h1 => ?_⟩
  · refine W0 ?_
    refine ⟨fun h2 => ?_, fun h2 => ?_⟩
    · refine W0 ?_
      rw [tsts_len]
      refine fin_frz TT ?_ rfl
      rw [plainB, h1, h2]; rfl
    · refine W0 ?_
      refine fin_frz TT ?_ rfl
      rw [plainB, h1, h2]; rfl
  · refine W0 ?_
    refine fin_frz TT ?_ rfl
    rw [plainB, h1]; rfl
def unusedB (c : Cond) : Bool := ((c.map.nodes.length : Int) == 0) && (((c.map.edges.length : Int) == 0) && (((c.pat.graph.nodes.length : Int) == 0) && (((c.pat.graph.edges.length : Int) == 0) && plainB c.pat)))
theorem c205 (c : Cond) : Con P 205 [] [c.av] (.bool (unusedB c)) [] := by
  refine go Tryz.func205 (by rfl) rfl rfl rfl fun hl => ?_
  refine W0 ?_
  rw [nums_len]
  refine ⟨fun h1 => ?_, fun h1 => ?_⟩
  · refine W0 ?_
    rw [nums_len]
    refine ⟨fun h2 => ?_, fun h2 => ?_⟩
    · refine W0 ?_
      rw [nums_len]
      refine ⟨fun h3 => ?_, fun h3 => ?_⟩
      · refine W0 ?_
        rw [edgs_len]
        refine ⟨fun h4 => ?_, fun h4 => ?_⟩
        · refine W0 ?_
          refine ⟨_, _, c206 c.pat, ?_⟩
          refine W0 ?_
          refine fin_frz TT ?_ rfl
          rw [unusedB, h1, h2, h3, h4]; rfl
        · refine W0 ?_
          refine fin_frz TT ?_ rfl
          rw [unusedB, h1, h2, h3, h4]; rfl
      · refine W0 ?_
        refine fin_frz TT ?_ rfl
        rw [unusedB, h1, h2, h3]; rfl
    · refine W0 ?_
      refine fin_frz TT ?_ rfl
      rw [unusedB, h1, h2]; rfl
  · refine W0 ?_
    refine fin_frz TT ?_ rfl
    rw [unusedB, h1]; rfl
end Go.Av.Z

/- Conditions by themselves, on. -/
namespace Go.Av.Z
open Go.Proofs

def shpOk (c : Cond) : Bool :=
  if (c.kind == 1) = true then ((c.kids.length : Int) == 0) && unusedB c else if (c.kind == 2) = true then ((c.kids.length : Int) == 1) && unusedB c
  else if (c.kind == 3) = true ∨ (c.kind == 4) = true then decide ((0 : Int) < c.kids.length) && unusedB c else if (c.kind == 5) = true then ((c.kids.length : Int) == 1) else false
/-- The error of a condition by itself. -/
def shp (c : Cond) : Int := if (!shpOk c) = true then 1 else if (!plainB c.pat) = true then 8 else 0
theorem shp_end (c : Cond) {b : Bool} (h : shpOk c = b) : shp c = if (!b) = true then 1 else if (!plainB c.pat) = true then 8 else 0 := by rw [shp, h]

theorem c159 (c : Cond) : Con P 159 [] [c.av] (.int .i64 (shp c)) [] := by
  refine go Tryz.func159 (by rfl) rfl rfl rfl fun hl => ?_
  refine W0 ?_
  refine ⟨fun k1 => ?_, fun k1 => ?_⟩
  · have e : shpOk c = (((c.kids.length : Int) == 0) && unusedB c) := by rw [shpOk, if_pos k1]
    refine W0 ?_
    rw [cnds_len]
    refine ⟨fun n1 => ?_, fun n1 => ?_⟩
    · rw [n1, Bool.true_and] at e
      refine W0 ?_
      refine ⟨_, _, c205 c, ?_⟩
      refine W0 ?_
      refine ⟨fun h => ?_, fun h => ?_⟩
      · refine W0 ?_
        refine fin_frz TT ?_ rfl
        rw [shp_end c e, if_pos h]; rfl
      · refine W0 ?_
        refine ⟨_, _, c206 c.pat, ?_⟩
        refine W0 ?_
        refine ⟨fun p => ?_, fun p => ?_⟩
        · refine W0 ?_
          refine fin_frz TT ?_ rfl
          rw [shp_end c e, if_neg (by simp [h]), if_pos p]; rfl
        · refine W0 ?_
          refine fin_frz TT ?_ rfl
          rw [shp_end c e, if_neg (by simp [h]), if_neg (by simp [p])]; rfl
    · rw [n1, Bool.false_and] at e
      refine W0 ?_
      refine fin_frz TT ?_ rfl
      rw [shp_end c e]; rfl
  refine W0 ?_
  refine ⟨fun k2 => ?_, fun k2 => ?_⟩
  · have e : shpOk c = (((c.kids.length : Int) == 1) && unusedB c) := by rw [shpOk, if_neg (by simp [k1]), if_pos k2]
    refine W0 ?_
    rw [cnds_len]
    refine ⟨fun n1 => ?_, fun n1 => ?_⟩
    · rw [n1, Bool.true_and] at e
      refine W0 ?_
      refine ⟨_, _, c205 c, ?_⟩
      refine W0 ?_
      refine ⟨fun h => ?_, fun h => ?_⟩
      · refine W0 ?_
        refine fin_frz TT ?_ rfl
        rw [shp_end c e, if_pos h]; rfl
      · refine W0 ?_
        refine ⟨_, _, c206 c.pat, ?_⟩
        refine W0 ?_
        refine ⟨fun p => ?_, fun p => ?_⟩
        · refine W0 ?_
          refine fin_frz TT ?_ rfl
          rw [shp_end c e, if_neg (by simp [h]), if_pos p]; rfl
        · refine W0 ?_
          refine fin_frz TT ?_ rfl
          rw [shp_end c e, if_neg (by simp [h]), if_neg (by simp [p])]; rfl
    · rw [n1, Bool.false_and] at e
      refine W0 ?_
      refine fin_frz TT ?_ rfl
      rw [shp_end c e]; rfl
  refine W0 ?_
  refine ⟨fun k3 => ?_, fun k3 => ?_⟩
  · have e : shpOk c = (decide ((0 : Int) < c.kids.length) && unusedB c) := by rw [shpOk, if_neg (by simp [k1]), if_neg (by simp [k2]), if_pos (.inl k3)]
    refine W0 ?_
    refine ⟨fun _ => ?_, fun h => absurd (k3.symm.trans h) (by decide)⟩
    refine W0 ?_
    rw [cnds_len]
    refine ⟨fun n1 => ?_, fun n1 => ?_⟩
    · rw [n1, Bool.true_and] at e
      refine W0 ?_
      refine ⟨_, _, c205 c, ?_⟩
      refine W0 ?_
      refine ⟨fun h => ?_, fun h => ?_⟩
      · refine W0 ?_
        refine fin_frz TT ?_ rfl
        rw [shp_end c e, if_pos h]; rfl
      · refine W0 ?_
        refine ⟨_, _, c206 c.pat, ?_⟩
        refine W0 ?_
        refine ⟨fun p => ?_, fun p => ?_⟩
        · refine W0 ?_
          refine fin_frz TT ?_ rfl
          rw [shp_end c e, if_neg (by simp [h]), if_pos p]; rfl
        · refine W0 ?_
          refine fin_frz TT ?_ rfl
          rw [shp_end c e, if_neg (by simp [h]), if_neg (by simp [p])]; rfl
    · rw [n1, Bool.false_and] at e
      refine W0 ?_
      refine fin_frz TT ?_ rfl
      rw [shp_end c e]; rfl
  refine W0 ?_
  refine ⟨fun k4 => ?_, fun k4 => ?_⟩
  · have e : shpOk c = (decide ((0 : Int) < c.kids.length) && unusedB c) := by rw [shpOk, if_neg (by simp [k1]), if_neg (by simp [k2]), if_pos (.inr k4)]
    refine W0 ?_
    rw [cnds_len]
    refine ⟨fun n1 => ?_, fun n1 => ?_⟩
    · rw [n1, Bool.true_and] at e
      refine W0 ?_
      refine ⟨_, _, c205 c, ?_⟩
      refine W0 ?_
      refine ⟨fun h => ?_, fun h => ?_⟩
      · refine W0 ?_
        refine fin_frz TT ?_ rfl
        rw [shp_end c e, if_pos h]; rfl
      · refine W0 ?_
        refine ⟨_, _, c206 c.pat, ?_⟩
        refine W0 ?_
        refine ⟨fun p => ?_, fun p => ?_⟩
        · refine W0 ?_
          refine fin_frz TT ?_ rfl
          rw [shp_end c e, if_neg (by simp [h]), if_pos p]; rfl
        · refine W0 ?_
          refine fin_frz TT ?_ rfl
          rw [shp_end c e, if_neg (by simp [h]), if_neg (by simp [p])]; rfl
    · rw [n1, Bool.false_and] at e
      refine W0 ?_
      refine fin_frz TT ?_ rfl
      rw [shp_end c e]; rfl
  refine W0 ?_
  refine ⟨fun k5 => ?_, fun k5 => ?_⟩
  · have e : shpOk c = ((c.kids.length : Int) == 1) := by rw [shpOk, if_neg (by simp [k1]), if_neg (by simp [k2]), if_neg (by simp [k3, k4]), if_pos k5]
    refine W0 ?_
    rw [cnds_len]
    refine ⟨fun h => ?_, fun h => ?_⟩
    · refine W0 ?_
      refine fin_frz TT ?_ rfl
      rw [shp_end c e, if_pos h]; rfl
    · refine W0 ?_
      refine ⟨_, _, c206 c.pat, ?_⟩
      refine W0 ?_
      refine ⟨fun p => ?_, fun p => ?_⟩
      · refine W0 ?_
        refine fin_frz TT ?_ rfl
        rw [shp_end c e, if_neg (by simp [h]), if_pos p]; rfl
      · refine W0 ?_
        refine fin_frz TT ?_ rfl
        rw [shp_end c e, if_neg (by simp [h]), if_neg (by simp [p])]; rfl
  · have e : shpOk c = false := by rw [shpOk, if_neg (by simp [k1]), if_neg (by simp [k2]), if_neg (by simp [k3, k4]), if_neg (by simp [k5])]
    refine W0 ?_
    refine fin_frz TT ?_ rfl
    rw [shp_end c e]; rfl
end Go.Av.Z

/- The reference: conditions by themselves. -/
namespace Go.Av.Z
open Go.Proofs

/-- The lists of a condition, without its kids', are no longer than memory lets them be. -/
def Cond.fine (c : Cond) : Prop := c.map.nodes.length ≤ 1099511627776 ∧ c.map.edges.length ≤ 1099511627776 ∧ c.pat.graph.nodes.length ≤ 1099511627776 ∧ c.pat.graph.edges.length ≤ 1099511627776 ∧ c.pat.slots.length ≤ 1099511627776 ∧ c.pat.tests.length ≤ 1099511627776
theorem bare_eq (a b c d e f : Nat) (v : Int) (h : a ≤ 1099511627776 ∧ b ≤ 1099511627776 ∧ c ≤ 1099511627776 ∧ d ≤ 1099511627776 ∧ e ≤ 1099511627776 ∧ f ≤ 1099511627776) :
    ((IntKind.i64.wrap (IntKind.i64.wrap (IntKind.i64.wrap (IntKind.i64.wrap (IntKind.i64.wrap (IntKind.i64.wrap ((a : Int) + b) + c) + d) + e) + v) + f) == 0) && (v == 0)) = (((a : Int) == 0) && (((b : Int) == 0) && (((c : Int) == 0) && (((d : Int) == 0) && (((e : Int) == 0) && ((v == 0) && ((f : Int) == 0))))))) := by
  by_cases hv : v = 0
  · subst hv
    rw [wrap_small (n := (a : Int) + b) (by omega) (by omega), wrap_small (n := (a : Int) + b + c) (by omega) (by omega), wrap_small (n := (a : Int) + b + c + d) (by omega) (by omega), wrap_small (n := (a : Int) + b + c + d + e) (by omega) (by omega), wrap_small (n := (a : Int) + b + c + d + e + 0) (by omega) (by omega), wrap_small (n := (a : Int) + b + c + d + e + 0 + f) (by omega) (by omega)]
    rw [Bool.eq_iff_iff]
    simp
    omega
  · have : (v == 0) = false := by simpa using hv
    rw [this]; simp
theorem c209 (c : Cond) (hc : c.fine) : Con P 209 [] [c.av] (.bool (unusedB c)) [] := by
  have key := bare_eq c.map.nodes.length c.map.edges.length c.pat.graph.nodes.length c.pat.graph.edges.length c.pat.slots.length c.pat.tests.length c.pat.vars hc
  refine go Tryz.func209 (by rfl) rfl rfl rfl fun hl => ?_
  refine W0 ?_
  rw [nums_len, nums_len, nums_len, edgs_len, slts_len, tsts_len]
  refine ⟨fun h1 => ?_, fun h1 => ?_⟩
  · refine W0 ?_
    refine fin_frz TT ?_ rfl
    rw [unusedB, plainB, ← key, h1]; rfl
  · refine W0 ?_
    refine fin_frz TT ?_ rfl
    rw [unusedB, plainB, ← key, h1]; rfl
end Go.Av.Z

/- The reference: conditions by themselves, on. -/
namespace Go.Av.Z
open Go.Proofs

theorem unused_plain {c : Cond} (h : unusedB c = true) : plainB c.pat = true := by
  unfold unusedB at h
  simp only [Bool.and_eq_true] at h
  exact h.2.2.2.2
theorem shp_bad {c : Cond} (h : shpOk c = false) : shp c = 1 := by rw [shp, h]; rfl
theorem shp_good {c : Cond} (h : shpOk c = true) (hp : plainB c.pat = true) : shp c = 0 := by rw [shp, h, hp]; rfl
theorem c169 (c : Cond) (hc : c.fine) : Con P 169 [] [c.av] (.int .i64 (shp c)) [] := by
  refine go Tryz.func169 (by rfl) rfl rfl rfl fun hl => ?_
  refine W0 ?_
  rw [cnds_len]
  refine ⟨fun k1 => ?_, fun k1 => ?_⟩
  · have e : shpOk c = (((c.kids.length : Int) == 0) && unusedB c) := by rw [shpOk, if_pos k1]
    refine W0 ?_
    refine ⟨fun n1 => ?_, fun n1 => ?_⟩
    · have n0 : ((c.kids.length : Int) == 0) = false := by have := of_decide_eq_true n1; rw [beq_eq_false_iff_ne]; omega
      rw [n0, Bool.false_and] at e
      refine W0 ?_
      refine fin_frz TT ?_ rfl
      rw [shp_bad e]; rfl
    · have n0 : ((c.kids.length : Int) == 0) = true := by have := of_decide_eq_false n1; rw [beq_iff_eq]; omega
      rw [n0, Bool.true_and] at e
      refine W0 ?_
      refine ⟨_, _, c209 c hc, ?_⟩
      refine W0 ?_
      refine ⟨fun h => ?_, fun h => ?_⟩
      · refine W0 ?_
        refine fin_frz TT ?_ rfl
        rw [shp_bad (e.trans (by simpa using h))]; rfl
      · refine W0 ?_
        refine fin_frz TT ?_ rfl
        have h : unusedB c = true := by simpa using h
        rw [shp_good (e.trans h) (unused_plain h)]; rfl
  refine W0 ?_
  refine ⟨fun k2 => ?_, fun k2 => ?_⟩
  · have e : shpOk c = (((c.kids.length : Int) == 1) && unusedB c) := by rw [shpOk, if_neg (by simp [k1]), if_pos k2]
    refine W0 ?_
    refine ⟨fun n1 => ?_, fun n1 => ?_⟩
    · have n0 : ((c.kids.length : Int) == 1) = false := by simpa using n1
      rw [n0, Bool.false_and] at e
      refine W0 ?_
      refine fin_frz TT ?_ rfl
      rw [shp_bad e]; rfl
    · have n0 : ((c.kids.length : Int) == 1) = true := by simpa using n1
      rw [n0, Bool.true_and] at e
      refine W0 ?_
      refine ⟨_, _, c209 c hc, ?_⟩
      refine W0 ?_
      refine ⟨fun h => ?_, fun h => ?_⟩
      · refine W0 ?_
        refine fin_frz TT ?_ rfl
        rw [shp_bad (e.trans (by simpa using h))]; rfl
      · refine W0 ?_
        refine fin_frz TT ?_ rfl
        have h : unusedB c = true := by simpa using h
        rw [shp_good (e.trans h) (unused_plain h)]; rfl
  refine W0 ?_
  refine ⟨fun k3 => ?_, fun k3 => ?_⟩
  · have e : shpOk c = (decide ((0 : Int) < c.kids.length) && unusedB c) := by rw [shpOk, if_neg (by simp [k1]), if_neg (by simp [k2]), if_pos (.inl k3)]
    refine W0 ?_
    refine ⟨fun _ => ?_, fun h => absurd (k3.symm.trans h) (by decide)⟩
    refine W0 ?_
    refine ⟨fun n1 => ?_, fun n1 => ?_⟩
    · have n0 : decide ((0 : Int) < c.kids.length) = false := by have : ((c.kids.length : Int) == 0) = true := n1; simp at this; simp [this]
      rw [n0, Bool.false_and] at e
      refine W0 ?_
      refine fin_frz TT ?_ rfl
      rw [shp_bad e]; rfl
    · have n0 : decide ((0 : Int) < c.kids.length) = true := by have : ((c.kids.length : Int) == 0) = false := n1; simp at this; simp; exact List.length_pos_iff.2 this
      rw [n0, Bool.true_and] at e
      refine W0 ?_
      refine ⟨_, _, c209 c hc, ?_⟩
      refine W0 ?_
      refine ⟨fun h => ?_, fun h => ?_⟩
      · refine W0 ?_
        refine fin_frz TT ?_ rfl
        rw [shp_bad (e.trans (by simpa using h))]; rfl
      · refine W0 ?_
        refine fin_frz TT ?_ rfl
        have h : unusedB c = true := by simpa using h
        rw [shp_good (e.trans h) (unused_plain h)]; rfl
  refine W0 ?_
  refine ⟨fun k4 => ?_, fun k4 => ?_⟩
  · have e : shpOk c = (decide ((0 : Int) < c.kids.length) && unusedB c) := by rw [shpOk, if_neg (by simp [k1]), if_neg (by simp [k2]), if_pos (.inr k4)]
    refine W0 ?_
    refine ⟨fun n1 => ?_, fun n1 => ?_⟩
    · have n0 : decide ((0 : Int) < c.kids.length) = false := by have : ((c.kids.length : Int) == 0) = true := n1; simp at this; simp [this]
      rw [n0, Bool.false_and] at e
      refine W0 ?_
      refine fin_frz TT ?_ rfl
      rw [shp_bad e]; rfl
    · have n0 : decide ((0 : Int) < c.kids.length) = true := by have : ((c.kids.length : Int) == 0) = false := n1; simp at this; simp; exact List.length_pos_iff.2 this
      rw [n0, Bool.true_and] at e
      refine W0 ?_
      refine ⟨_, _, c209 c hc, ?_⟩
      refine W0 ?_
      refine ⟨fun h => ?_, fun h => ?_⟩
      · refine W0 ?_
        refine fin_frz TT ?_ rfl
        rw [shp_bad (e.trans (by simpa using h))]; rfl
      · refine W0 ?_
        refine fin_frz TT ?_ rfl
        have h : unusedB c = true := by simpa using h
        rw [shp_good (e.trans h) (unused_plain h)]; rfl
  refine W0 ?_
  refine ⟨fun k5 => ?_, fun k5 => ?_⟩
  · have e : shpOk c = ((c.kids.length : Int) == 1) := by rw [shpOk, if_neg (by simp [k1]), if_neg (by simp [k2]), if_neg (by simp [k3, k4]), if_pos k5]
    refine W0 ?_
    refine ⟨fun h => ?_, fun h => ?_⟩
    · refine W0 ?_
      refine fin_frz TT ?_ rfl
      rw [shp_bad (e.trans (by simpa using h))]; rfl
    · have e : shpOk c = true := e.trans (by simpa using h)
      have es : shp c = if (!plainB c.pat) = true then 8 else 0 := by rw [shp, e]; rfl
      refine W0 ?_
      rw [slts_len]
      refine ⟨fun p1 => ?_, fun p1 => ?_⟩
      · have hp : plainB c.pat = false := by have := of_decide_eq_true p1; rw [plainB, beq_eq_false_iff_ne.2 (show (c.pat.slots.length : Int) ≠ 0 by omega)]; rfl
        refine W0 ?_
        refine fin_frz TT ?_ rfl
        rw [es, hp]; rfl
      · have q1 : ((c.pat.slots.length : Int) == 0) = true := by have := of_decide_eq_false p1; rw [beq_iff_eq]; omega
        refine W0 ?_
        refine ⟨fun p2 => ?_, fun p2 => ?_⟩
        · have hp : plainB c.pat = false := by have q2 : (c.pat.vars == 0) = false := by simpa using p2
                                               rw [plainB, q1, q2]; rfl
          refine W0 ?_
          refine fin_frz TT ?_ rfl
          rw [es, hp]; rfl
        · have q2 : (c.pat.vars == 0) = true := by simpa using p2
          refine W0 ?_
          rw [tsts_len]
          refine ⟨fun p3 => ?_, fun p3 => ?_⟩
          · have hp : plainB c.pat = false := by have := of_decide_eq_true p3; rw [plainB, q1, q2, beq_eq_false_iff_ne.2 (show (c.pat.tests.length : Int) ≠ 0 by omega)]; rfl
            refine W0 ?_
            refine fin_frz TT ?_ rfl
            rw [es, hp]; rfl
          · have hp : plainB c.pat = true := by have := of_decide_eq_false p3; rw [plainB, q1, q2, beq_iff_eq.2 (show (c.pat.tests.length : Int) = 0 by omega)]; rfl
            refine W0 ?_
            refine fin_frz TT ?_ rfl
            rw [es, hp]; rfl
  · have e : shpOk c = false := by rw [shpOk, if_neg (by simp [k1]), if_neg (by simp [k2]), if_neg (by simp [k3, k4]), if_neg (by simp [k5])]
    refine W0 ?_
    refine fin_frz TT ?_ rfl
    rw [shp_bad e]; rfl
end Go.Av.Z

/- The size and the depth of a condition. -/
namespace Go.Av.Z
open Go.Proofs

def mx (m n : Int) : Int := if n > m then n else m
mutual
/-- The size and the depth of a condition, as the program reckons them. -/
def csz : Cond → Int × Int
  | .mk k kids _ _ => ((cszs kids (1, 0)).1, if (k == 5) = true then IntKind.i64.wrap ((cszs kids (1, 0)).2 + 1) else (cszs kids (1, 0)).2)
def cszs : List Cond → Int × Int → Int × Int
  | [], p => p
  | c :: r, p => cszs r (IntKind.i64.wrap (p.1 + (csz c).1), mx p.2 (csz c).2)
end
theorem cszs_app : ∀ (a : List Cond) (x : Cond) (p : Int × Int), cszs (a ++ [x]) p = (IntKind.i64.wrap ((cszs a p).1 + (csz x).1), mx (cszs a p).2 (csz x).2)
  | [], x, p => by simp [cszs]
  | c :: r, x, p => by simp only [List.cons_append, cszs]; exact cszs_app r x _
theorem cszs_take {l : List Cond} {i : Nat} {x : Cond} (h : l[i]? = some x) : cszs (l.take (i + 1)) (1, 0) = (IntKind.i64.wrap ((cszs (l.take i) (1, 0)).1 + (csz x).1), mx (cszs (l.take i) (1, 0)).2 (csz x).2) := by
  rw [List.take_add_one, h]; exact cszs_app _ _ _

theorem m269 (c : Cond) (ih : ∀ x ∈ c.kids, Con P 160 [] [x.av] (.tuple [.int .i64 (csz x).1, .int .i64 (csz x).2]) []) : Con P 160 [] [c.av] (.tuple [.int .i64 (csz c).1, .int .i64 (csz c).2]) [] := by
  have hlen : c.kids.length ≤ 9223372036854775807 ∨ True := .inr trivial
  refine go Tryz.func160 (by rfl) rfl rfl rfl fun hl => ?_
  have hn : c.kids.length ≤ 9223372036854775807 := by
    have := hl (cnds c.kids).length (by simp [lensL, lens, Cond.av, Cond.cs])
    rwa [cnds_len] at this
  refine W0 ?_
  rw [cnds_len]
  refine loop (fun i : Nat => mkSt [(13, .int .i64 i), (12, .int .i64 c.kids.length), (11, .slice 9 (cnds c.kids)), (1, .bptr 0 0), (4, .int .i64 (cszs (c.kids.take i) (1, 0)).1), (5, .int .i64 (cszs (c.kids.take i) (1, 0)).2)] [.box 39 c.cs]) (fun i => i ≤ c.kids.length) (fun i => c.kids.length - i) 0 (Nat.zero_le _)
    (le_of [0] rfl rfl rfl ⟨rfl, rfl, rfl, rfl, by rw [List.take_zero, cszs]; rfl, by rw [List.take_zero, cszs]; rfl, trivial⟩ ⟨rfl, trivial⟩) ?_
  intro i hi
  refine W0 ?_
  refine ⟨fun hlt => ?_, fun hge => ?_⟩
  · have hlt := of_lt hlt
    have hx : c.kids[i]? = some c.kids[i] := List.getElem?_eq_getElem hlt
    generalize c.kids[i] = x at hx
    refine W0 ?_
    refine ⟨by omega, _, cnds_at hx, ?_⟩
    refine W0 ?_
    refine ⟨_, _, ih x (List.mem_of_getElem? hx), ?_⟩
    refine W0 ?_
    exact ⟨i + 1, hlt, by show c.kids.length - (i + 1) < c.kids.length - i; omega, le_of [0] rfl rfl rfl ⟨step_num hlt hn, rfl, rfl, rfl, by rw [cszs_take hx]; rfl, by rw [cszs_take hx]; rfl, trivial⟩ ⟨rfl, trivial⟩⟩
  · have hge := of_ge hge
    rw [take_of_all hge]
    have e : csz c = ((cszs c.kids (1, 0)).1, if (c.kind == 5) = true then IntKind.i64.wrap ((cszs c.kids (1, 0)).2 + 1) else (cszs c.kids (1, 0)).2) := by cases c; rw [csz]; rfl
    refine W0 ?_
    refine ⟨fun h => ?_, fun h => ?_⟩
    · refine W0 ?_
      refine fin_frz TT ?_ rfl
      rw [e, if_pos h]; rfl
    · refine W0 ?_
      refine fin_frz TT ?_ rfl
      rw [e, if_neg (by simp [h])]; rfl
theorem kid_lt {c x : Cond} (h : x ∈ c.kids) : SizeOf.sizeOf x < SizeOf.sizeOf c := by
  cases c with
  | mk k kids m p =>
    have := List.sizeOf_lt_of_mem (show x ∈ kids from h)
    simp only [Cond.mk.sizeOf_spec]; omega
theorem c160 (c : Cond) : Con P 160 [] [c.av] (.tuple [.int .i64 (csz c).1, .int .i64 (csz c).2]) [] := m269 c fun x hx => c160 x
  termination_by SizeOf.sizeOf c
  decreasing_by exact kid_lt hx
theorem m76 (c : Cond) (ih : ∀ x ∈ c.kids, Con P 59 [] [x.av] (.tuple [.int .i64 (csz x).1, .int .i64 (csz x).2]) []) : Con P 59 [] [c.av] (.tuple [.int .i64 (csz c).1, .int .i64 (csz c).2]) [] := by
  have hlen : c.kids.length ≤ 9223372036854775807 ∨ True := .inr trivial
  refine go Tryz.func59 (by rfl) rfl rfl rfl fun hl => ?_
  have hn : c.kids.length ≤ 9223372036854775807 := by
    have := hl (cnds c.kids).length (by simp [lensL, lens, Cond.av, Cond.cs])
    rwa [cnds_len] at this
  refine W0 ?_
  refine loop (fun i : Nat => mkSt [(6, .int .i64 i), (1, .bptr 0 0), (4, .int .i64 (cszs (c.kids.take i) (1, 0)).1), (5, .int .i64 (cszs (c.kids.take i) (1, 0)).2)] [.box 39 c.cs]) (fun i => i ≤ c.kids.length) (fun i => c.kids.length - i) 0 (Nat.zero_le _)
    (le_of [0] rfl rfl rfl ⟨rfl, rfl, by rw [List.take_zero, cszs]; rfl, by rw [List.take_zero, cszs]; rfl, trivial⟩ ⟨rfl, trivial⟩) ?_
  intro i hi
  refine W0 ?_
  rw [cnds_len]
  refine ⟨fun hlt => ?_, fun hge => ?_⟩
  · have hlt := of_lt hlt
    have hx : c.kids[i]? = some c.kids[i] := List.getElem?_eq_getElem hlt
    generalize c.kids[i] = x at hx
    refine W0 ?_
    refine ⟨by omega, _, cnds_at hx, ?_⟩
    refine W0 ?_
    refine ⟨_, _, ih x (List.mem_of_getElem? hx), ?_⟩
    refine W0 ?_
    exact ⟨i + 1, hlt, by show c.kids.length - (i + 1) < c.kids.length - i; omega, le_of [0] rfl rfl rfl ⟨step_num hlt hn, rfl, by rw [cszs_take hx]; rfl, by rw [cszs_take hx]; rfl, trivial⟩ ⟨rfl, trivial⟩⟩
  · have hge := of_ge hge
    rw [take_of_all hge]
    have e : csz c = ((cszs c.kids (1, 0)).1, if (c.kind == 5) = true then IntKind.i64.wrap ((cszs c.kids (1, 0)).2 + 1) else (cszs c.kids (1, 0)).2) := by cases c; rw [csz]; rfl
    refine W0 ?_
    refine ⟨fun h => ?_, fun h => ?_⟩
    · refine W0 ?_
      refine fin_frz TT ?_ rfl
      rw [e, if_pos h]; rfl
    · refine W0 ?_
      refine fin_frz TT ?_ rfl
      rw [e, if_neg (by simp [h])]; rfl
theorem c59 (c : Cond) : Con P 59 [] [c.av] (.tuple [.int .i64 (csz c).1, .int .i64 (csz c).2]) [] := m76 c fun x hx => c59 x
  termination_by SizeOf.sizeOf c
  decreasing_by exact kid_lt hx
end Go.Av.Z

/- Conditions that are too large. -/
namespace Go.Av.Z
open Go.Proofs

/-- The error of a size and a depth. -/
def lrg (c : Cond) : Int := if decide (2000 < (csz c).1) = true ∨ decide (3 < (csz c).2) = true then 3 else 0
theorem c106 (c : Cond) : Con P 106 [] [c.av] (.int .i64 (lrg c)) [] := by
  refine go Tryz.func106 (by rfl) rfl rfl rfl fun hl => ?_
  refine W0 ?_
  refine ⟨_, _, c160 c, ?_⟩
  refine W0 ?_
  refine ⟨fun h => ?_, fun h => ?_⟩
  · refine W0 ?_
    refine fin_frz TT ?_ rfl
    rw [lrg, if_pos (.inl h)]; rfl
  · refine W0 ?_
    refine ⟨fun h2 => ?_, fun h2 => ?_⟩
    · refine W0 ?_
      refine fin_frz TT ?_ rfl
      rw [lrg, if_pos (.inr h2)]; rfl
    · refine W0 ?_
      refine fin_frz TT ?_ rfl
      rw [lrg, if_neg (by rw [show decide (2000 < (csz c).1) = false from h, show decide (3 < (csz c).2) = false from h2]; simp)]; rfl
theorem c115 (c : Cond) : Con P 115 [] [c.av] (.int .i64 (lrg c)) [] := by
  refine go Tryz.func115 (by rfl) rfl rfl rfl fun hl => ?_
  refine W0 ?_
  refine ⟨_, _, c59 c, ?_⟩
  refine W0 ?_
  refine ⟨fun h => ?_, fun h => ?_⟩
  · refine W0 ?_
    refine fin_frz TT ?_ rfl
    rw [lrg, if_pos (.inl h)]; rfl
  · refine W0 ?_
    refine ⟨fun h2 => ?_, fun h2 => ?_⟩
    · refine W0 ?_
      refine fin_frz TT ?_ rfl
      rw [lrg, if_pos (.inr h2)]; rfl
    · refine W0 ?_
      refine fin_frz TT ?_ rfl
      rw [lrg, if_neg (by rw [show decide (2000 < (csz c).1) = false from h, show decide (3 < (csz c).2) = false from h2]; simp)]; rfl
end Go.Av.Z

/- The reference: lists without repeats. -/
namespace Go.Av.Z
open Go.Proofs

theorem nodup_of {l : List Int} (h : ∀ (i k : Nat) (x y : Int), k < i → l[i]? = some x → l[k]? = some y → x ≠ y) : l.Nodup := by
  rw [List.Nodup, List.pairwise_iff_getElem]
  intro i j hi hj hij e
  exact h j i l[j] l[i] hij (List.getElem?_eq_getElem hj) (List.getElem?_eq_getElem hi) e.symm
theorem c91 (l : List Int) : Con P 91 [] [.slice 1 (nums l)] (.bool (decide l.Nodup)) [] := by
  refine go Tryz.func91 (by rfl) rfl rfl rfl fun hl => ?_
  refine W0 ?_
  have hn : l.length ≤ 9223372036854775807 := len_nums (rest := []) (fun n h => hl n (by simpa [lensL, lens] using h))
  refine loop (fun i : Nat => mkSt [(3, .int .i64 i), (0, .slice 1 (nums l))] []) (fun i => i ≤ l.length ∧ ∀ (a k : Nat) (x y : Int), a < i → k < a → l[a]? = some x → l[k]? = some y → x ≠ y) (fun i => l.length - i) 0 ⟨Nat.zero_le _, fun a k x y h => by omega⟩
    (le_of [] rfl rfl rfl ⟨rfl, rfl, trivial⟩ trivial) ?_
  rintro i ⟨hi, hno⟩
  refine W0 ?_
  rw [nums_len]
  refine ⟨fun hlt => ?_, fun hge => ?_⟩
  · have hlt := of_lt hlt
    have hx : l[i]? = some l[i] := List.getElem?_eq_getElem hlt
    generalize l[i] = x at hx
    refine W0 ?_
    refine loop (fun k : Nat => mkSt [(4, .int .i64 k), (3, .int .i64 i), (0, .slice 1 (nums l))] []) (fun k => k ≤ i ∧ ∀ (j : Nat) (y : Int), j < k → l[j]? = some y → x ≠ y) (fun k => i - k) 0 ⟨Nat.zero_le _, fun j y h => by omega⟩
      (le_of [] rfl rfl rfl ⟨rfl, rfl, rfl, trivial⟩ trivial) ?_
    rintro k ⟨hk, hnk⟩
    refine W0 ?_
    refine ⟨fun hlt2 => ?_, fun hge2 => ?_⟩
    · have hlt2 := of_lt hlt2
      have hy : l[k]? = some l[k] := List.getElem?_eq_getElem (by omega)
      generalize l[k] = y at hy
      refine W0 ?_
      refine ⟨by omega, _, nums_at hx, ?_⟩
      refine W0 ?_
      refine ⟨by omega, _, nums_at hy, ?_⟩
      refine W0 ?_
      refine ⟨by kernel_rfl, ?_⟩
      refine W0 ?_
      refine ⟨fun h => ?_, fun h => ?_⟩
      · have h : x = y := by simpa using h
        have hd : ¬ l.Nodup := fun hd => by
          obtain ⟨ha, e1⟩ := List.getElem?_eq_some_iff.1 hx
          obtain ⟨hb, e2⟩ := List.getElem?_eq_some_iff.1 hy
          exact List.pairwise_iff_getElem.1 hd k i hb ha hlt2 (by rw [e1, e2, h])
        refine W0 ?_
        refine fin_frz TT ?_ rfl
        simp [hd]; rfl
      · have h : x ≠ y := by simpa using h
        refine W0 ?_
        exact ⟨k + 1, ⟨hlt2, fun j z hj hz => by
          rcases Nat.lt_or_ge j k with h' | h'
          · exact hnk j z h' hz
          · have : j = k := by omega
            subst this; rw [hy] at hz; cases hz; exact h⟩, by show i - (k + 1) < i - k; omega, le_of [] rfl rfl rfl ⟨step_num hlt2 (by omega), rfl, rfl, trivial⟩ trivial⟩
    · have hge2 := of_ge hge2
      refine W0 ?_
      exact ⟨i + 1, ⟨hlt, fun a k x' y ha hk' h1 h2 => by
        rcases Nat.lt_or_ge a i with h' | h'
        · exact hno a k x' y h' hk' h1 h2
        · have : a = i := by omega
          subst this; rw [hx] at h1; cases h1; exact hnk k y (by omega) h2⟩, by show l.length - (i + 1) < l.length - i; omega, le_of [] rfl rfl rfl ⟨step_num hlt hn, rfl, trivial⟩ trivial⟩
  · have hge := of_ge hge
    have hd : l.Nodup := nodup_of fun a k x y hk h1 h2 => hno a k x y (by have := (List.getElem?_eq_some_iff.1 h1).1; omega) hk h1 h2
    refine W0 ?_
    refine fin_frz TT ?_ rfl
    simp [hd]; rfl
end Go.Av.Z

/- The reference: injective morphisms. -/
namespace Go.Av.Z
open Go.Proofs

/-- An injective morphism. -/
def minj (a b : Graph) (m : Mor) : Bool := (mval a b m == 0) && (decide m.nodes.Nodup && decide m.edges.Nodup)
theorem c40 (a b : Graph) (m : Mor) : Con P 40 [] [a.av, b.av, m.av] (.bool (minj a b m)) [] := by
  refine go Tryz.func40 (by rfl) rfl rfl rfl fun hl => ?_
  refine W0 ?_
  refine ⟨_, _, c39 a b m, ?_⟩
  refine W0 ?_
  refine ⟨fun h1 => ?_, fun h1 => ?_⟩
  · refine W0 ?_
    refine ⟨_, _, c91 m.nodes, ?_⟩
    refine W0 ?_
    refine ⟨fun h2 => ?_, fun h2 => ?_⟩
    · refine W0 ?_
      refine ⟨_, _, c91 m.edges, ?_⟩
      refine W0 ?_
      refine fin_frz TT ?_ rfl
      rw [minj, h1, h2]; rfl
    · refine W0 ?_
      refine fin_frz TT ?_ rfl
      rw [minj, h1, h2]; rfl
  · refine W0 ?_
    refine fin_frz TT ?_ rfl
    rw [minj, h1]; rfl
end Go.Av.Z

namespace Go.Proofs
open Go.Shelf
def Tryz.lays137_ren : Go.Shelf.Ren := ⟨fun | 137 => 285 | 217 => 292 | 266 => 293 | n => n, fun | 9 => 9 | 5 => 5 | 3 => 3 | n => n, fun | n => n⟩
theorem Tryz.lays137 : Go.Proofs.Lays.n137 Tryz.prog Tryz.lays137_ren := {
  mixed := by kernel_rfl
  f137 := Tryz.func285.trans (congrArg some (by kernel_rfl))
  f217 := Tryz.func292.trans (congrArg some (by kernel_rfl))
  f266 := Tryz.func293.trans (congrArg some (by kernel_rfl))
  t3 := Tryz.underlying3
  a3 := Tryz.isAgg3
  z3 := Tryz.sizeOf3
  v3 := Tryz.zeroValue3
  t5 := Tryz.underlying5
  a5 := Tryz.isAgg5
  z5 := Tryz.sizeOf5
  v5 := Tryz.zeroValue5
  t9 := Tryz.underlying9
  a9 := Tryz.isAgg9
  z9 := Tryz.sizeOf9
  v9 := Tryz.zeroValue9 }
open Go.RowKit in

theorem Tryz.strings_IndexByte (s : ByteArray) (c : Int) (w : World) :
    Calls Tryz.prog 285 #[.string s, .int .u8 c] w fun e w' => e = .returned (.int .i64 (Lib.indexByte s.data.toList c.toNat.toUInt8)) ∧ w' = w := Any.strings_IndexByte Tryz.lays137 s c w
def Tryz.lays217_ren : Go.Shelf.Ren := ⟨fun | 217 => 292 | 266 => 293 | n => n, fun | 9 => 9 | 5 => 5 | 3 => 3 | n => n, fun | n => n⟩
theorem Tryz.lays217 : Go.Proofs.Lays.n217 Tryz.prog Tryz.lays217_ren := {
  mixed := by kernel_rfl
  f217 := Tryz.func292.trans (congrArg some (by kernel_rfl))
  f266 := Tryz.func293.trans (congrArg some (by kernel_rfl))
  t3 := Tryz.underlying3
  a3 := Tryz.isAgg3
  z3 := Tryz.sizeOf3
  v3 := Tryz.zeroValue3
  t5 := Tryz.underlying5
  a5 := Tryz.isAgg5
  z5 := Tryz.sizeOf5
  v5 := Tryz.zeroValue5
  t9 := Tryz.underlying9
  a9 := Tryz.isAgg9
  z9 := Tryz.sizeOf9
  v9 := Tryz.zeroValue9 }
open Go.RowKit Go.Lib in

theorem Tryz.stringslite_IndexByte (s : ByteArray) (c : Int) (w : World) :
    Calls Tryz.prog 292 #[.string s, .int .u8 c] w fun e w' => e = .returned (.int .i64 (Lib.indexByte s.data.toList c.toNat.toUInt8)) ∧ w' = w := Any.stringslite_IndexByte Tryz.lays217 s c w
def Tryz.lays189_ren : Go.Shelf.Ren := ⟨fun | 189 => 148 | 125 => 201 | 257 => 200 | 128 => 247 | 129 => 248 | 294 => 239 | 295 => 240 | 296 => 241 | 297 => 242 | 298 => 243 | 299 => 244 | 216 => 212 | 300 => 245 | 301 => 246 | 328 => 269 | 329 => 270 | 330 => 271 | 331 => 272 | 332 => 273 | 215 => 252 | 343 => 290 | n => n, fun | 28 => 26 | 3 => 3 | 46 => 219 | 0 => 0 | 51 => 256 | 53 => 60 | 4 => 4 | 183 => 250 | 182 => 249 | 131 => 203 | 5 => 5 | 9 => 9 | 218 => 271 | 222 => 275 | 228 => 286 | 229 => 120 | n => n, fun | n => n⟩
theorem Tryz.lays189 : Go.Proofs.Lays.n189 Tryz.prog Tryz.lays189_ren := {
  mixed := by kernel_rfl
  f125 := Tryz.func201.trans (congrArg some (by kernel_rfl))
  f128 := Tryz.func247.trans (congrArg some (by kernel_rfl))
  f129 := Tryz.func248.trans (congrArg some (by kernel_rfl))
  f189 := Tryz.func148.trans (congrArg some (by kernel_rfl))
  f215 := Tryz.func252.trans (congrArg some (by kernel_rfl))
  f216 := Tryz.func212.trans (congrArg some (by kernel_rfl))
  f257 := Tryz.func200.trans (congrArg some (by kernel_rfl))
  f294 := Tryz.func239.trans (congrArg some (by kernel_rfl))
  f295 := Tryz.func240.trans (congrArg some (by kernel_rfl))
  f296 := Tryz.func241.trans (congrArg some (by kernel_rfl))
  f297 := Tryz.func242.trans (congrArg some (by kernel_rfl))
  f298 := Tryz.func243.trans (congrArg some (by kernel_rfl))
  f299 := Tryz.func244.trans (congrArg some (by kernel_rfl))
  f300 := Tryz.func245.trans (congrArg some (by kernel_rfl))
  f301 := Tryz.func246.trans (congrArg some (by kernel_rfl))
  f328 := Tryz.func269.trans (congrArg some (by kernel_rfl))
  f329 := Tryz.func270.trans (congrArg some (by kernel_rfl))
  f330 := Tryz.func271.trans (congrArg some (by kernel_rfl))
  f331 := Tryz.func272.trans (congrArg some (by kernel_rfl))
  f332 := Tryz.func273.trans (congrArg some (by kernel_rfl))
  f343 := Tryz.func290.trans (congrArg some (by kernel_rfl))
  t0 := Tryz.underlying0
  a0 := Tryz.isAgg0
  z0 := Tryz.sizeOf0
  v0 := Tryz.zeroValue0
  t3 := Tryz.underlying3
  a3 := Tryz.isAgg3
  z3 := Tryz.sizeOf3
  v3 := Tryz.zeroValue3
  t4 := Tryz.underlying4
  a4 := Tryz.isAgg4
  z4 := Tryz.sizeOf4
  v4 := Tryz.zeroValue4
  t5 := Tryz.underlying5
  a5 := Tryz.isAgg5
  z5 := Tryz.sizeOf5
  v5 := Tryz.zeroValue5
  t9 := Tryz.underlying9
  a9 := Tryz.isAgg9
  z9 := Tryz.sizeOf9
  v9 := Tryz.zeroValue9
  t28 := Tryz.underlying26
  a28 := Tryz.isAgg26
  z28 := Tryz.sizeOf26
  v28 := Tryz.zeroValue26
  t46 := Tryz.underlying219
  a46 := Tryz.isAgg219
  z46 := Tryz.sizeOf219
  v46 := Tryz.zeroValue219
  t51 := Tryz.underlying256
  a51 := Tryz.isAgg256
  z51 := Tryz.sizeOf256
  v51 := Tryz.zeroValue256
  t53 := Tryz.underlying60
  a53 := Tryz.isAgg60
  z53 := Tryz.sizeOf60
  v53 := Tryz.zeroValue60
  t131 := Tryz.underlying203
  a131 := Tryz.isAgg203
  z131 := Tryz.sizeOf203
  v131 := Tryz.zeroValue203
  t182 := Tryz.underlying249
  a182 := Tryz.isAgg249
  z182 := Tryz.sizeOf249
  v182 := Tryz.zeroValue249
  t183 := Tryz.underlying250
  a183 := Tryz.isAgg250
  z183 := Tryz.sizeOf250
  v183 := Tryz.zeroValue250
  t218 := Tryz.underlying271
  a218 := Tryz.isAgg271
  z218 := Tryz.sizeOf271
  v218 := Tryz.zeroValue271
  t222 := Tryz.underlying275
  a222 := Tryz.isAgg275
  z222 := Tryz.sizeOf275
  v222 := Tryz.zeroValue275
  t228 := Tryz.underlying286
  a228 := Tryz.isAgg286
  z228 := Tryz.sizeOf286
  v228 := Tryz.zeroValue286
  t229 := Tryz.underlying120
  a229 := Tryz.isAgg120
  z229 := Tryz.sizeOf120
  v229 := Tryz.zeroValue120 }
open Go.Sort Go.RowKit in
theorem Tryz.slices_Sort_int (blk off cap : Nat) (zs : List Int) (w : World) (hH : Holds (Value.int .i64) w blk off zs.toArray) (hblk : blk < w.heap.size) (hsz : zs.length < 4611686018427387904) :
    Calls Tryz.prog 148 #[.slice (some ⟨blk, off, none⟩) zs.length cap] w fun e w' =>
      e = .returned (.tuple #[]) ∧ ∃ n os, w' = grow (putRow (Value.int .i64) (Sort.ahead w n) blk off (zs.mergeSort fun x y => decide (x ≤ y)).toArray) os := Any.slices_Sort_int Tryz.lays189 blk off cap zs w hH hblk hsz
def Tryz.lays112_ren : Go.Shelf.Ren := ⟨fun | 112 => 249 | n => n, fun | 28 => 26 | 3 => 3 | 4 => 4 | 0 => 0 | n => n, fun | n => n⟩
theorem Tryz.lays112 : Go.Proofs.Lays.n112 Tryz.prog Tryz.lays112_ren := {
  mixed := by kernel_rfl
  f112 := Tryz.func249.trans (congrArg some (by kernel_rfl))
  t0 := Tryz.underlying0
  a0 := Tryz.isAgg0
  z0 := Tryz.sizeOf0
  v0 := Tryz.zeroValue0
  t3 := Tryz.underlying3
  a3 := Tryz.isAgg3
  z3 := Tryz.sizeOf3
  v3 := Tryz.zeroValue3
  t4 := Tryz.underlying4
  a4 := Tryz.isAgg4
  z4 := Tryz.sizeOf4
  v4 := Tryz.zeroValue4
  t28 := Tryz.underlying26
  a28 := Tryz.isAgg26
  z28 := Tryz.sizeOf26
  v28 := Tryz.zeroValue26 }
open Go.RowKit Go.Lib Go.Sort in

theorem Tryz.slices_Reverse_int_arr (blk off cap : Nat) (d : Array Int) (w : World) (hH : Holds encI w blk off d) (hsz : d.size ≤ 9223372036854775807) :
    Calls Tryz.prog 249 #[.slice (some ⟨blk, off, none⟩) d.size cap] w fun e w' => e = .returned (.tuple #[]) ∧ ∃ n, w' = putRow encI (Sort.ahead w n) blk off d.reverse := Any.slices_Reverse_int_arr Tryz.lays112 blk off cap d w hH hsz
open Go.RowKit Go.Lib Go.Sort in

theorem Tryz.slices_Reverse_int (blk off cap : Nat) (zs : List Int) (w : World) (hH : Holds (Value.int .i64) w blk off zs.toArray) (hsz : zs.length ≤ 9223372036854775807) :
    Calls Tryz.prog 249 #[.slice (some ⟨blk, off, none⟩) zs.length cap] w fun e w' => e = .returned (.tuple #[]) ∧ ∃ n, w' = putRow (Value.int .i64) (Sort.ahead w n) blk off zs.reverse.toArray := Any.slices_Reverse_int Tryz.lays112 blk off cap zs w hH hsz
open Go.RowKit Go.Lib Go.Sort in

theorem Tryz.slices_Reverse_int_empty (a : Option Addr) (cap : Nat) (w : World) :
    Calls Tryz.prog 249 #[.slice a 0 cap] w fun e w' => e = .returned (.tuple #[]) ∧ w' = w := Any.slices_Reverse_int_empty Tryz.lays112 a cap w
def Tryz.laysNm220_ren : Go.Shelf.Ren := ⟨fun | 20 => 149 | n => n, fun | 22 => 26 | 3 => 3 | 4 => 4 | 0 => 0 | n => n, fun | n => n⟩
theorem Tryz.laysNm220 : Go.Proofs.Lays2.n20 Tryz.prog Tryz.laysNm220_ren := {
  mixed := by kernel_rfl
  f20 := Tryz.func149.trans (congrArg some (by kernel_rfl))
  t0 := Tryz.underlying0
  a0 := Tryz.isAgg0
  z0 := Tryz.sizeOf0
  v0 := Tryz.zeroValue0
  t3 := Tryz.underlying3
  a3 := Tryz.isAgg3
  z3 := Tryz.sizeOf3
  v3 := Tryz.zeroValue3
  t4 := Tryz.underlying4
  a4 := Tryz.isAgg4
  z4 := Tryz.sizeOf4
  v4 := Tryz.zeroValue4
  t22 := Tryz.underlying26
  a22 := Tryz.isAgg26
  z22 := Tryz.sizeOf26
  v22 := Tryz.zeroValue26
  i3 := by kernel_rfl }
open Go.RowKit Go.Lib Go.Sort in

theorem Tryz.slices_Compact_int_arr (blk off cap : Nat) (d : Array Int) (w : World) (hH : Holds encI w blk off d) (hsz : d.size ≤ 9223372036854775807) (hcap : d.size ≤ cap) :
    Calls Tryz.prog 149 #[.slice (some ⟨blk, off, none⟩) d.size cap] w fun e w' => e = .returned (.slice (some ⟨blk, off, none⟩) (compactUpTo d d.size).length cap) ∧ ∃ q, w' = putRow encI (Sort.ahead w q) blk off (compactUpTo d d.size ++ List.replicate (d.size - (compactUpTo d d.size).length) 0).toArray := Any.slices_Compact_int_arr Tryz.laysNm220 blk off cap d w hH hsz hcap
open Go.RowKit Go.Lib Go.Sort in

theorem Tryz.slices_Compact_int (blk off cap : Nat) (zs : List Int) (w : World) (hH : Holds (Value.int .i64) w blk off zs.toArray) (hsz : zs.length ≤ 9223372036854775807) (hcap : zs.length ≤ cap) :
    Calls Tryz.prog 149 #[.slice (some ⟨blk, off, none⟩) zs.length cap] w fun e w' => e = .returned (.slice (some ⟨blk, off, none⟩) (Lib.compact zs).length cap) ∧ ∃ q, w' = putRow (Value.int .i64) (Sort.ahead w q) blk off (Lib.compact zs ++ List.replicate (zs.length - (Lib.compact zs).length) 0).toArray := Any.slices_Compact_int Tryz.laysNm220 blk off cap zs w hH hsz hcap
open Go.RowKit Go.Lib Go.Sort in

theorem Tryz.slices_Compact_int_empty (a : Option Addr) (cap : Nat) (w : World) :
    Calls Tryz.prog 149 #[.slice a 0 cap] w fun e w' => e = .returned (.slice a 0 cap) ∧ w' = w := Any.slices_Compact_int_empty Tryz.laysNm220 a cap w
open Go.RowKit Go.Sort in

theorem Tryz.slices_Sort_int_none (p : Option Addr) (cap : Nat) (w : World) :
    Calls Tryz.prog 148 #[.slice p 0 cap] w fun e w' => e = .returned (.tuple #[]) ∧ w' = w := Any.slices_Sort_int_none Tryz.lays189 p cap w
end Go.Proofs

/- Sort and Compact of Go's library, as contracts. -/
namespace Go.Av

/-- An own row's elements turn, new blocks come, nothing else. -/
theorem SimX.turned {C : Ctx} {tm : TM} {hp : HP} {a : Act} {w w' : World} {σ : Sig} {F : Nat → Prop} (h : SimX C tm hp a w σ F) {id : Nat} {e sz : Nat} {xs ys : List (List AV)} {sv : Value} {g : Nat} (hb : hp id = some (.row e sz xs)) (hs : σ id = some sv) (hg : blkNo sv = some g)
    (hgb : w.grownBy w' (some g)) (hB : BlkOk w' F σ sv (.row e sz ys)) : SimX C tm (updH hp id (.row e sz ys)) a w' σ F := by
  refine h.next hgb.os hgb.tape hgb.output hgb.size (fun _ h => h) (fun _ h => .inl h) (fun _ _ h => h) (fun k hk => ?_) ?_
  · by_cases hkg : k = g
    · subst hkg; exact .inr ⟨id, _, sv, hb, rfl, hs, hg⟩
    · exact .inl (hgb.block k hk (fun e => hkg (Option.some.inj e)))
  · intro j b2 hb2
    by_cases hj : j = id
    · subst hj
      rw [updH_self] at hb2
      obtain rfl := Option.some.inj hb2
      refine .inr ⟨sv, hs, hB, fun _ g' hg' => ?_⟩
      have ho := h.own j _ sv g' hb rfl hs hg'
      refine ⟨ho.1, Nat.lt_of_lt_of_le ho.2.2 hgb.size, ho.2.1, fun id' b3 sv3 hne hb3 hl3 hs3 hg3 => ?_⟩
      rw [updH_ne hne] at hb3
      exact h.apart id' j b3 _ sv3 sv g' hb3 hb hl3 rfl hne hs3 hs hg3 hg'
    · rw [updH_ne hj] at hb2
      refine .inl ⟨hb2, fun hl2 sv0 g' hs0 hg' => ⟨hgb.block g' (h.own j b2 sv0 g' hb2 hl2 hs0 hg').2.2 (fun e => ?_), (h.own j b2 sv0 g' hb2 hl2 hs0 hg').1⟩⟩
      exact h.apart j id b2 _ sv0 sv g' hb2 hb hl2 rfl hj hs0 hs hg' (by rw [hg, ← Option.some.inj e])

theorem updH_hpOf (b b' : Blk) : updH (hpOf [b]) 0 b' = hpOf [b'] := by
  funext i
  cases i <;> simp [updH, hpOf]

end Go.Av
namespace Go.Av.Z
open Go.Proofs
/-- What a row of numbers is. -/
theorem row_nums {w : World} {F : Nat → Prop} {σ : Sig} {sv : Value} {l : List Int} (h : BlkOk w F σ sv (.row 3 1 (nums l))) :
    l.length ≤ maxLen ∧ ((sv = .slice none 0 0 ∧ l = []) ∨ ∃ g cap cur, sv = .slice (some ⟨g, 0, none⟩) l.length cap ∧ w.heap[g]? = some (.cells cur 3 (0, 0)) ∧ l.length ≤ cap ∧ cap ≤ maxLen ∧ cur.size = cap * 1 ∧ cur.toList.take l.length = l.map (Value.int .i64)) := by
  obtain ⟨vs, ho, hm, hsz, hv⟩ := h
  rw [nums_len] at hm ho
  refine ⟨hm, ?_⟩
  have hvs : vs = l.map (Value.int .i64) := by
    have h1 := ho.1
    rw [Nat.mul_one] at h1
    apply List.ext_getElem (by simpa using h1)
    intro j h2 h3
    have h4 : j < l.length := by simpa using h3
    have := hv j 0 (.int .i64 l[j]) (by rw [List.getD_eq_getElem?_getD, nums_at (List.getElem?_eq_getElem h4)]; rfl)
    have := this.unint
    rw [Nat.mul_one, Nat.add_zero, List.getD_eq_getElem?_getD, List.getElem?_eq_getElem h2] at this
    simpa using this
  subst hvs
  rcases ho.2 with ⟨h1, h2⟩ | ⟨g, cap, cur, h1, _, h2, h3, h4, h5, h6⟩
  · exact .inl ⟨h1, List.eq_nil_of_length_eq_zero h2⟩
  · exact .inr ⟨g, cap, cur, h1, h2, h3, h4, h5, by rwa [Nat.mul_one] at h6⟩

theorem nums_row {w : World} {F : Nat → Prop} {σ : Sig} {sv : Value} {l : List Int} (hm : l.length ≤ maxLen) (h : w.ownsRow 0 3 1 sv l.length (l.map (Value.int .i64))) : BlkOk w F σ sv (.row 3 1 (nums l)) := by
  refine ⟨_, by rw [nums_len]; exact h, by rwa [nums_len], ?_, ?_⟩
  · intro el hel
    simp only [nums, List.mem_map] at hel
    obtain ⟨n, _, rfl⟩ := hel
    exact ⟨rfl, by simp [AV.cell]⟩
  · intro j q x hx
    cases hj : l[j]? with
    | none =>
      have : (nums l)[j]? = none := List.getElem?_eq_none (by rw [nums_len]; exact List.getElem?_eq_none_iff.1 hj)
      rw [List.getD_eq_getElem?_getD, this] at hx; simp at hx
    | some n =>
      rw [List.getD_eq_getElem?_getD, nums_at hj] at hx
      cases q with
      | succ q => simp at hx
      | zero =>
        obtain rfl : AV.int .i64 n = x := by simpa using hx
        rw [Nat.mul_one, Nat.add_zero, List.getD_eq_getElem?_getD, List.getElem?_map, hj]
        exact .int ..

theorem _root_.Go.Av.Val.pre {w : World} {F : Nat → Prop} {σ : Sig} {sz : Nat} {xs : List (List AV)} {A : Option Addr} {n c : Nat} (h : Val w F σ (.slice sz xs) (.slice A n c)) {k : Nat} (hk : k ≤ xs.length) : Val w F σ (.slice sz (xs.take k)) (.slice A k c) := by
  have h' : ∀ v, v = Value.slice A n c → Val w F σ (.slice sz xs) v → Val w F σ (.slice sz (xs.take k)) (.slice A k c) := by
    intro v hv hval
    cases hval with
    | slice _ _ A' c' cs hc hm hs h0 hh =>
      simp only [Value.slice.injEq] at hv
      obtain ⟨rfl, rfl, rfl⟩ := hv
      have hlen : (xs.take k).length = k := by simp [hk]
      have hget : ∀ (j q : Nat) (x : AV), ((xs.take k).getD j [])[q]? = some x → (xs.getD j [])[q]? = some x := by
        intro j q x hx
        rw [List.getD_eq_getElem?_getD, List.getElem?_take] at hx
        rw [List.getD_eq_getElem?_getD]
        split at hx
        · exact hx
        · simp at hx
      have := Val.slice (w := w) (F := F) (σ := σ) sz (xs.take k) A' c' cs (by rw [hlen]; omega) (by rw [hlen]; omega) (fun el hel => hs el (List.mem_of_mem_take hel))
        (fun hne => by
          obtain ⟨ad, he, hcs⟩ := h0 (fun e => hne (by rw [e]; simp))
          exact ⟨ad, he, fun j q x hx => hcs j q x (hget j q x hx)⟩) (fun j q x hx => hh j q x (hget j q x hx))
      rwa [hlen] at this
  exact h' _ rfl h
/-- A list, sorted. -/
def srt (l : List Int) : List Int := l.mergeSort fun x y => decide (x ≤ y)
theorem srt_len (l : List Int) : (srt l).length = l.length := by simp [srt]

theorem max_small : maxLen < 4611686018427387904 * 4 := by decide

theorem lent_row {w : World} {F : Nat → Prop} {σ : Sig} {vs : Array Value} {l : List Int} (hX : SimX ⟨w, F, blocksOf σ [.row 3 1 (nums l)]⟩ noTM (hpOf [.row 3 1 (nums l)]) act0 w σ F) (hargs : AllVal w F σ [.ref 0] vs) :
    ∃ sv, vs = #[sv] ∧ σ 0 = some sv ∧ BlkOk w F σ sv (.row 3 1 (nums l)) := by
  obtain ⟨h1, h2⟩ := hargs
  have h3 := h2 0 (.ref 0) rfl
  obtain ⟨sv, hs, hB⟩ := hX.blk 0 _ rfl
  refine ⟨sv, ?_, hs, hB⟩
  generalize hv : vs.getD 0 undef = v at h3
  cases h3 with
  | ref _ _ h _ =>
    rw [hs] at h
    obtain rfl := Option.some.inj h
    apply Array.ext (by simpa using h1)
    intro i h4 h5
    have : i = 0 := by simp at h5; omega
    subst this
    rw [← hv]
    simp [Array.getD, h4]

/-- slices.Sort at []int: the lent row is sorted. -/
theorem c148 (l : List Int) (hn : l.length < 4611686018427387904) : Con P 148 [.row 3 1 (nums l)] [.ref 0] (.tuple []) [.row 3 1 (nums (srt l))] := by
  refine ⟨⟨_, Tryz.func148, rfl, rfl⟩, ?_, Nat.le_refl _⟩
  intro w F σ vs hX hfree hargs
  obtain ⟨sv, rfl, hs, hB⟩ := lent_row hX hargs
  obtain ⟨hm, ⟨rfl, rfl⟩ | ⟨g, cap, cur, rfl, hg, h1, h2, h3, h4⟩⟩ := row_nums hB
  · refine (Tryz.slices_Sort_int_none none 0 w).mono ?_
    rintro e w' ⟨rfl, rfl⟩
    exact ⟨_, σ, F, rfl, fun _ _ h => h, hfree, .tuple [] #[] rfl (by simp), by simpa [srt] using hX⟩
  · refine (Tryz.slices_Sort_int g 0 cap l w (holds_of_blockI hg h4) (Array.getElem?_eq_some_iff.1 hg).1 hn).mono ?_
    rintro e w' ⟨rfl, n, os, rfl⟩
    refine ⟨_, σ, F, rfl, fun _ _ h => h, hfree, .tuple [] #[] rfl (by simp), ?_⟩
    have := hX.turned (id := 0) (g := g) (ys := nums (srt l)) rfl hs rfl (grownBy_sortedI (n := n) (os := os) (srt l).toArray) (nums_row (by rw [srt_len]; exact hm) (by
      have := ownsRow_sortedI (n := n) (os := os) (base := 0) (ss := l) (ts := srt l) (srt_len l) (Nat.zero_le _) hg h1 h2 h3
      rw [← srt_len l] at this ⊢
      exact this))
    rw [updH_hpOf] at this
    exact this

/-- slices.Compact at []int: the lent row is gone. -/
theorem c149 (l : List Int) : Con P 149 [.row 3 1 (nums l)] [.ref 0] (.slice 1 (nums (Lib.compact l))) [.dead] := by
  refine ⟨⟨_, Tryz.func149, rfl, rfl⟩, ?_, Nat.le_refl _⟩
  intro w F σ vs hX hfree hargs
  obtain ⟨sv, rfl, hs, hB⟩ := lent_row hX hargs
  obtain ⟨hm, ⟨rfl, rfl⟩ | ⟨g, cap, cur, rfl, hg, h1, h2, h3, h4⟩⟩ := row_nums hB
  · refine (Tryz.slices_Compact_int_empty none 0 w).mono ?_
    rintro e w' ⟨rfl, rfl⟩
    refine ⟨_, σ, F, rfl, fun _ _ h => h, hfree, ?_, ?_⟩
    · exact .slice 1 [] none 0 (fun _ _ => undef) (Nat.le_refl _) (by simp) (by simp) (fun h => absurd rfl h) (by simp)
    · have := hX.kill 0 (by rw [hs]; rfl)
      rwa [updH_hpOf] at this
  · refine (Tryz.slices_Compact_int g 0 cap l w (holds_of_blockI hg h4) (by unfold maxLen at hm; omega) h1).mono ?_
    rintro e w' ⟨rfl, n, rfl⟩
    have hcl : (Lib.compact l).length ≤ l.length := by
      unfold Lib.compact Lib.compactUpTo
      rw [List.length_map]
      exact Nat.le_trans (List.length_filter_le _ _) (by simp)
    have hl2 : (Lib.compact l ++ List.replicate (l.length - (Lib.compact l).length) 0).length = l.length := by simp; omega
    have hgr : ∀ d : Array Int, Sort.putRow (Value.int .i64) (Sort.ahead w n) g 0 d = Sort.grow (Sort.putRow (Value.int .i64) (Sort.ahead w n) g 0 d) #[] := fun d => by rw [Sort.grow_empty]
    rw [hgr]
    have := hX.turned (id := 0) (g := g) (ys := nums (Lib.compact l ++ List.replicate (l.length - (Lib.compact l).length) 0)) rfl hs rfl (grownBy_sortedI (n := n) (os := #[]) _) (nums_row (by rw [hl2]; exact hm) (by
      have := ownsRow_sortedI (n := n) (os := #[]) (base := 0) (ss := l) hl2 (Nat.zero_le _) hg h1 h2 h3
      rw [hl2]
      exact this))
    rw [updH_hpOf] at this
    obtain ⟨F', hF⟩ := this.freezeRow (id := 0) rfl
    rw [updH_hpOf] at hF
    obtain ⟨sv2, hs2, hB2⟩ := hF.blk 0 _ rfl
    rw [hs] at hs2
    obtain rfl := Option.some.inj hs2
    have hk := hF.kill 0 (by rw [hs]; rfl)
    rw [updH_hpOf] at hk
    refine ⟨_, σ, F', rfl, fun _ _ h => h, hfree, ?_, hk⟩
    have hv : Val _ F' noSig (.slice 1 (nums (Lib.compact l ++ List.replicate (l.length - (Lib.compact l).length) 0))) (.slice (some ⟨g, 0, none⟩) l.length cap) := hB2
    have := (hv.ofNoSig (σ := σ)).pre (k := (Lib.compact l).length) (by rw [nums_len, hl2]; exact hcl)
    rwa [nums, ← List.map_take, List.take_left] at this
end Go.Av.Z

/- slices.Grow of nil. -/
namespace Go.Proofs
open Go.RowKit

theorem run_append_make_nil (t ty e u : TypeId) (i : TypeInfo) (z : Value) {P : Program} {w : World} (ht : P.underlying t = some (.slice e)) (hu : P.underlying u = some (.int .i64)) (hi : P.info? e = some i) (hz : i.zero = some z) (n : Nat)
    (h0 : 0 < n) (h63 : (n : Int) ≤ 1000000000000) (hs : 0 < i.size) (h48 : n * i.bytes ≤ 281474976710656) :
    (Builtin.append_ #[t, u] ty #[.slice none 0 0, .int .i64 n]).run P w =
      .ok (.slice (some ⟨w.heap.size, 0, none⟩) n (grownCap w n 0 e)) (w.drew.alloc (.cells (Builtin.zeroCells z.cells n ++ Builtin.zeroCells z.cells (grownCap w n 0 e - n)) e)) := by
  have hn : n ≠ 0 := by omega
  have h63' : ¬ (9223372036854775807 < (n : Int)) := by omega
  have h48' : ¬ (281474976710656 < Builtin.nextslicecap n 0 * i.bytes) := by rw [nextslicecap_zero h0]; omega
  have hw : IntKind.i64.wrap (n : Int) = (n : Int) := Go.Av.Z.wrap_small (by omega) (by omega)
  have hb : ¬ (281474976710656 < (n : Int) * (i.bytes : Int)) := by
    rw [← Int.natCast_mul]; omega
  have hns : n * i.size ≠ 0 := Nat.mul_ne_zero hn (by omega)
  have hneg : ¬ ((n : Int) < 0) := by omega
  simp [Builtin.append_, run_underlying ht, run_underlying hu, sizeOf, typeInfo, zeroValue, hi, hz, hn, h63', h48', Question.forced, run_firstCells_none, newRow, grownCap, hw, hb, hns, hneg, asInt, asIntOf]

theorem grow_zero (w : World) : Calls Tryz.prog 262 #[.slice none 0 0, .int .i64 0] w fun e w' => e = .returned (.slice none 0 0) ∧ w' = w := by
  go_enter Tryz.func262, Tryz.ntmps262
  go_wp2
  go_ret
  exact ⟨rfl, rfl⟩
set_option maxHeartbeats 4000000 in
theorem grow_pos (n : Nat) (h0 : 0 < n) (hn : n ≤ 1000000) (w : World) : Calls Tryz.prog 262 #[.slice none 0 0, .int .i64 n] w fun e w' =>
    ∃ cap cells, e = .returned (.slice (some ⟨w.heap.size, 0, none⟩) 0 cap) ∧ w' = w.drew.alloc (.cells cells 3) ∧ cells.size = cap ∧ cap ≤ maxLen := by
  have hge := fun W : World => grownCap_ge W n 0 3
  have hle := fun W : World => grownCap_le_maxLen W n 0 3 (by unfold maxLen; omega)
  go_enter Tryz.func262, Tryz.ntmps262
  go_wp2
  all_goals try (exfalso; have hb : Tryz.t3.bytes = 8 := rfl; have hz : Builtin.nextslicecap n 0 = n := nextslicecap_zero h0; simp only [hb, hz] at *; omega)
  go_ret
  refine ⟨_, rfl, _, rfl, ?_, hle w⟩
  have h1 := hge w
  unfold grownCap at h1
  simp only [Builtin.zeroCells, Array.size_append, Array.size_map, Array.size_range]
  simp
  omega
end Go.Proofs

namespace Go.Av.Z
open Go.Proofs
/-- Grow of nil: a row without elements. -/
theorem c262 (n : Nat) (hn : n ≤ 1000000) : Con P 262 [] [.nils 0, .int .i64 n] (.ref 0) [.row 3 1 []] := by
  refine ⟨⟨_, Tryz.func262, rfl, rfl⟩, ?_, Nat.zero_le _⟩
  intro w F σ vs hX hfree hargs
  have hvs : vs = #[.slice none 0 0, .int .i64 n] := by
    obtain ⟨h1, h2⟩ := hargs
    have h3 := h2 0 (.nils 0) rfl
    have h4 := (h2 1 (.int .i64 n) rfl).unint
    generalize hv : vs.getD 0 undef = v at h3
    cases h3
    apply Array.ext (by simpa using h1)
    intro i k1 k2
    simp at k2
    rcases (by omega : i = 0 ∨ i = 1) with rfl | rfl
    · simpa [Array.getD, k1] using hv
    · simpa [Array.getD, k1] using h4
  subst hvs
  have h0 : σ 0 = none := hfree 0 (Nat.zero_le _)
  have hup : ∀ b, updH (hpOf []) 0 b = hpOf [b] := by
    intro b; funext i
    cases i <;> simp [updH, hpOf]
  have hold : ∀ sv id, 1 ≤ id → updS σ 0 sv id = none := by
    intro sv id h
    rw [updS_ne (by omega)]
    exact hfree id (Nat.zero_le _)
  rcases Nat.eq_zero_or_pos n with rfl | hp
  · refine (grow_zero w).mono ?_
    rintro e w' ⟨rfl, rfl⟩
    refine ⟨_, updS σ 0 (.slice none 0 0), F, rfl, updS_le h0, hold _, .ref 0 _ (updS_self ..) rfl, ?_⟩
    have := hX.nilRow h0 3 1
    rwa [hup] at this
  · refine (grow_pos n hp hn w).mono ?_
    rintro e w' ⟨cap, cells, rfl, rfl, hc, hm⟩
    refine ⟨_, updS σ 0 (.slice (some ⟨w.heap.size, 0, none⟩) 0 cap), F, rfl, updS_le h0, hold _, .ref 0 _ (updS_self ..) rfl, ?_⟩
    have hd := hX.drew (w.drawn + 1)
    have hB : BlkOk (w.drew.alloc (.cells cells 3)) F (updS σ 0 (.slice (some ⟨w.heap.size, 0, none⟩) 0 cap)) (.slice (some ⟨w.heap.size, 0, none⟩) 0 cap) (.row 3 1 []) :=
      ⟨[], World.ownsRow_made w.drew cells cap (Nat.zero_le _) hm (by omega), by simp, by simp, by simp⟩
    have := SimX.alloc (w := w.drew) (C := ⟨w, F, blocksOf σ []⟩) hd h0 rfl hB
    rwa [hup] at this
end Go.Av.Z

/- Injective morphisms; sorted lists. -/
namespace Go.Av.Z
open Go.Proofs

theorem c119 (l : List Int) (hn : l.length ≤ 1099511627776) : Con P 119 [] [.slice 1 (nums l)] (.slice 1 (nums (srt l))) [] := by
  refine go Tryz.func119 (by rfl) rfl rfl rfl fun hl => ?_
  refine W0 ?_
  refine ⟨_, _, c46 l hn, ?_⟩
  refine W0 ?_
  refine ⟨_, _, c148 l (by omega), ?_⟩
  refine W0 ?_
  refine fin_frz TT ?_ rfl
  rfl
theorem c86 (l : List Int) (hn : l.length ≤ 1099511627776) : Con P 86 [] [.slice 1 (nums l)] (.int .i64 (Lib.compact (srt l)).length) [] := by
  refine go Tryz.func86 (by rfl) rfl rfl rfl fun hl => ?_
  refine W0 ?_
  refine ⟨_, _, c46 l hn, ?_⟩
  refine W0 ?_
  refine ⟨_, _, c148 l (by omega), ?_⟩
  refine W0 ?_
  refine ⟨_, _, c149 (srt l), ?_⟩
  refine W0 ?_
  refine fin_frz TT ?_ rfl
  rw [nums_len]; rfl
theorem keeps_get {s : List Int} {j : Nat} (hj : j + 1 < s.length) : Lib.keeps s.toArray (j + 1) = decide (s[j + 1] ≠ s[j]) := by
  unfold Lib.keeps
  have h1 : s.toArray[j + 1]! = s[j + 1] := by simp [hj]
  have h2 : s.toArray[j + 1 - 1]! = s[j] := by simp [show j < s.length by omega]
  rw [h1, h2]
  simp
theorem compact_len {s : List Int} (hs : s.Pairwise fun x y => x ≤ y) : (Lib.compact s).length = s.length ↔ s.Nodup := by
  unfold Lib.compact Lib.compactUpTo
  rw [List.length_map]
  constructor
  · intro h
    have hall : ∀ j ∈ List.range s.length, Lib.keeps s.toArray j = true := by
      have : (List.range s.length).filter (Lib.keeps s.toArray) = List.range s.length := (List.filter_sublist (l := List.range s.length)).eq_of_length (by simpa using h)
      exact List.filter_eq_self.1 this
    have hstep : ∀ j (hj : j + 1 < s.length), s[j] < s[j + 1] := by
      intro j hj
      have h1 := hall (j + 1) (by simpa using hj)
      rw [keeps_get hj] at h1
      have h1 : s[j + 1] ≠ s[j] := by simpa using h1
      have h2 := List.pairwise_iff_getElem.1 hs j (j + 1) (by omega) hj (by omega)
      omega
    have hlt : ∀ (d i : Nat) (h : i + 1 + d < s.length), s[i] < s[i + 1 + d] := by
      intro d
      induction d with
      | zero => intro i h; exact hstep i h
      | succ d ih =>
        intro i h
        have h1 := ih i (by omega)
        have h2 := hstep (i + 1 + d) (by omega)
        have e : i + 1 + (d + 1) = i + 1 + d + 1 := by omega
        simp only [e]
        omega
    rw [List.Nodup, List.pairwise_iff_getElem]
    intro i j hi hj hij e
    have := hlt (j - (i + 1)) i (by omega)
    have e2 : i + 1 + (j - (i + 1)) = j := by omega
    simp only [e2] at this
    omega
  · intro h
    rw [List.filter_eq_self.2, List.length_range]
    intro j hj
    cases j with
    | zero => simp [Lib.keeps]
    | succ j =>
      have hj : j + 1 < s.length := by simpa using hj
      rw [keeps_get hj]
      have := List.pairwise_iff_getElem.1 h j (j + 1) (by omega) hj (by omega)
      simpa using fun e : s[j + 1] = s[j] => this e.symm
theorem srt_sorted (l : List Int) : (srt l).Pairwise fun x y => x ≤ y := by
  have := List.pairwise_mergeSort (le := fun x y : Int => decide (x ≤ y)) (fun a b c h1 h2 => by simp at *; omega) (fun a b => by simp; omega) l
  exact this.imp fun h => by simpa using h
theorem srt_perm (l : List Int) : (srt l).Perm l := List.mergeSort_perm ..
theorem images_eq (l : List Int) : ((((Lib.compact (srt l)).length : Int)) == (l.length : Int)) = decide l.Nodup := by
  rw [Bool.eq_iff_iff]
  rw [beq_iff_eq, decide_eq_true_eq, ← (srt_perm l).nodup_iff, ← compact_len (srt_sorted l), srt_len]
  omega
theorem mval_len {a b : Graph} {m : Mor} (h : mval a b m = 0) : m.nodes.length = a.nodes.length ∧ m.edges.length = a.edges.length ∧ m.nodes.length ≤ 40 ∧ m.edges.length ≤ 80 := by
  unfold mval at h
  split at h
  · contradiction
  · rename_i h1
    have h1 := gval_len (Classical.not_not.1 h1)
    split at h
    · contradiction
    · split at h
      · cases h
      · rename_i h2
        omega
theorem c30 (a b : Graph) (m : Mor) : Con P 30 [] [a.av, b.av, m.av] (.bool (minj a b m)) [] := by
  refine go Tryz.func30 (by rfl) rfl rfl rfl fun hl => ?_
  refine W0 ?_
  refine ⟨_, _, c85 a b m, ?_⟩
  refine W0 ?_
  refine ⟨fun h1 => ?_, fun h1 => ?_⟩
  · have hm := mval_len (by simpa using h1 : mval a b m = 0)
    refine W0 ?_
    refine ⟨_, _, c86 m.nodes (by omega), ?_⟩
    refine W0 ?_
    rw [nums_len, images_eq]
    refine ⟨fun h2 => ?_, fun h2 => ?_⟩
    · refine W0 ?_
      refine ⟨_, _, c86 m.edges (by omega), ?_⟩
      refine W0 ?_
      refine ⟨by kernel_rfl, ?_⟩
      refine W0 ?_
      refine fin_frz TT ?_ rfl
      rw [minj, h1, h2, nums_len, images_eq]; rfl
    · refine W0 ?_
      refine ⟨by kernel_rfl, ?_⟩
      refine W0 ?_
      refine fin_frz TT ?_ rfl
      rw [minj, h1, h2]; rfl
  · refine W0 ?_
    refine ⟨by kernel_rfl, ?_⟩
    refine W0 ?_
    refine fin_frz TT ?_ rfl
    rw [minj, h1]; rfl
end Go.Av.Z

/- Conditions over a graph: what is valid. -/
namespace Go.Av.Z
open Go.Proofs

mutual
/-- The first error of a condition and its kids over a graph. -/
def ovr (a : Graph) : Cond → Int
  | .mk k kids m p => if shp (.mk k kids m p) ≠ 0 then shp (.mk k kids m p) else if (k == 5) = true then (if mval a p.graph m ≠ 0 then mval a p.graph m else if minj a p.graph m = false then 1 else ovrs p.graph kids) else ovrs a kids
def ovrs (a : Graph) : List Cond → Int
  | [] => 0
  | c :: r => if ovr a c ≠ 0 then ovr a c else ovrs a r
end
theorem ovr_eq (a : Graph) (c : Cond) : ovr a c = if shp c ≠ 0 then shp c else if (c.kind == 5) = true then (if mval a c.pat.graph c.map ≠ 0 then mval a c.pat.graph c.map else if minj a c.pat.graph c.map = false then 1 else ovrs c.pat.graph c.kids) else ovrs a c.kids := by
  cases c; rw [ovr]; rfl
theorem ovrs_errs (a : Graph) : ∀ (l : List Cond) (n : Nat), ovrs a l = errs (fun _ x => ovr a x) n l
  | [], n => by rw [ovrs]; rfl
  | c :: r, n => by
    rw [ovrs, errs]
    by_cases h : ovr a c = 0
    · rw [if_neg (by simp [h]), if_pos h]; exact ovrs_errs a r (n + 1)
    · rw [if_pos h, if_neg h]

/-- The kids of a condition, over a graph. -/
theorem m72 (a : Graph) (c : Cond) (ih : ∀ a' : Graph, ∀ x ∈ c.kids, Con P 105 [] [a'.av, x.av] (.int .i64 (ovr a' x)) []) : Con P 105 [] [a.av, c.av] (.int .i64 (ovr a c)) [] := by
  refine go Tryz.func105 (by rfl) rfl rfl rfl fun hl => ?_
  have hn : c.kids.length ≤ 9223372036854775807 := by
    have := hl (cnds c.kids).length (by simp [lensL, lens, Cond.av, Cond.cs])
    rwa [cnds_len] at this
  refine W0 ?_
  refine ⟨_, _, c159 c, ?_⟩
  refine W0 ?_
  refine ⟨fun h => ?_, fun h => ?_⟩
  · refine W0 ?_
    refine fin_frz TT ?_ rfl
    rw [ovr_eq a c, if_pos (by simpa using h)]; rfl
  · have h1 : shp c = 0 := by simpa using h
    refine W0 ?_
    refine ⟨fun k5 => ?_, fun k5 => ?_⟩
    · refine W0 ?_
      refine ⟨_, _, c85 a c.pat.graph c.map, ?_⟩
      refine W0 ?_
      refine ⟨fun h => ?_, fun h => ?_⟩
      · refine W0 ?_
        refine fin_frz TT ?_ rfl
        rw [ovr_eq a c, if_neg (by simp [h1]), if_pos k5, if_pos (by simpa using h)]; rfl
      · have h2 : mval a c.pat.graph c.map = 0 := by simpa using h
        refine W0 ?_
        refine ⟨_, _, c30 a c.pat.graph c.map, ?_⟩
        refine W0 ?_
        refine ⟨fun h => ?_, fun h => ?_⟩
        · refine W0 ?_
          refine fin_frz TT ?_ rfl
          rw [ovr_eq a c, if_neg (by simp [h1]), if_pos k5, if_neg (by simp [h2]), if_pos (by simpa using h)]; rfl
        · have h3 : minj a c.pat.graph c.map = true := by simpa using h
          refine W0 ?_
          rw [cnds_len]
          refine loop (fun i : Nat => mkSt [(40, .int .i64 i), (39, .int .i64 c.kids.length), (38, .slice 9 (cnds c.kids)), (6, .bptr 0 0)] [.box 29 c.pat.graph.cs]) (fun i => i ≤ c.kids.length ∧ ∀ j y, j < i → c.kids[j]? = some y → ovr c.pat.graph y = 0) (fun i => c.kids.length - i) 0 ⟨Nat.zero_le _, fun j y h => by omega⟩
            (le_of [3] rfl rfl rfl ⟨rfl, rfl, rfl, rfl, trivial⟩ ⟨rfl, trivial⟩) ?_
          rintro i ⟨hi, hno⟩
          refine W0 ?_
          refine ⟨fun hlt => ?_, fun hge => ?_⟩
          · have hlt := of_lt hlt
            have hx : c.kids[i]? = some c.kids[i] := List.getElem?_eq_getElem hlt
            generalize c.kids[i] = x at hx
            refine W0 ?_
            refine ⟨by omega, _, cnds_at hx, ?_⟩
            refine W0 ?_
            refine ⟨_, _, ih c.pat.graph x (List.mem_of_getElem? hx), ?_⟩
            refine W0 ?_
            refine ⟨fun h => ?_, fun h => ?_⟩
            · refine W0 ?_
              refine fin_frz TT ?_ rfl
              rw [ovr_eq a c, if_neg (by simp [h1]), if_pos k5, if_neg (by simp [h2]), if_neg (by simp [h3]), ovrs_errs _ _ 0, errs_first (f := fun _ x => ovr c.pat.graph x) hno hx (by simpa using h)]; rfl
            · refine W0 ?_
              exact ⟨i + 1, ⟨hlt, zero_upto (f := fun _ x => ovr c.pat.graph x) hno hx (by simpa using h)⟩, by show c.kids.length - (i + 1) < c.kids.length - i; omega, le_of [0] rfl rfl rfl ⟨step_num hlt hn, rfl, rfl, rfl, trivial⟩ ⟨rfl, trivial⟩⟩
          · have hge := of_ge hge
            refine W0 ?_
            refine fin_frz TT ?_ rfl
            rw [ovr_eq a c, if_neg (by simp [h1]), if_pos k5, if_neg (by simp [h2]), if_neg (by simp [h3]), ovrs_errs _ _ 0, errs_all (f := fun _ x => ovr c.pat.graph x) hno (by omega)]; rfl
    · refine W0 ?_
      rw [cnds_len]
      refine loop (fun i : Nat => mkSt [(40, .int .i64 i), (39, .int .i64 c.kids.length), (38, .slice 9 (cnds c.kids)), (6, .bptr 0 0)] [.box 29 a.cs]) (fun i => i ≤ c.kids.length ∧ ∀ j y, j < i → c.kids[j]? = some y → ovr a y = 0) (fun i => c.kids.length - i) 0 ⟨Nat.zero_le _, fun j y h => by omega⟩
        (le_of [3] rfl rfl rfl ⟨rfl, rfl, rfl, rfl, trivial⟩ ⟨rfl, trivial⟩) ?_
      rintro i ⟨hi, hno⟩
      refine W0 ?_
      refine ⟨fun hlt => ?_, fun hge => ?_⟩
      · have hlt := of_lt hlt
        have hx : c.kids[i]? = some c.kids[i] := List.getElem?_eq_getElem hlt
        generalize c.kids[i] = x at hx
        refine W0 ?_
        refine ⟨by omega, _, cnds_at hx, ?_⟩
        refine W0 ?_
        refine ⟨_, _, ih a x (List.mem_of_getElem? hx), ?_⟩
        refine W0 ?_
        refine ⟨fun h => ?_, fun h => ?_⟩
        · refine W0 ?_
          refine fin_frz TT ?_ rfl
          rw [ovr_eq a c, if_neg (by simp [h1]), if_neg (by simpa using k5), ovrs_errs _ _ 0, errs_first (f := fun _ x => ovr a x) hno hx (by simpa using h)]; rfl
        · refine W0 ?_
          exact ⟨i + 1, ⟨hlt, zero_upto (f := fun _ x => ovr a x) hno hx (by simpa using h)⟩, by show c.kids.length - (i + 1) < c.kids.length - i; omega, le_of [0] rfl rfl rfl ⟨step_num hlt hn, rfl, rfl, rfl, trivial⟩ ⟨rfl, trivial⟩⟩
      · have hge := of_ge hge
        refine W0 ?_
        refine fin_frz TT ?_ rfl
        rw [ovr_eq a c, if_neg (by simp [h1]), if_neg (by simpa using k5), ovrs_errs _ _ 0, errs_all (f := fun _ x => ovr a x) hno (by omega)]; rfl
theorem c105 (a : Graph) (c : Cond) : Con P 105 [] [a.av, c.av] (.int .i64 (ovr a c)) [] := m72 a c fun a' x hx => c105 a' x
  termination_by SizeOf.sizeOf c
  decreasing_by exact kid_lt hx
/-- The error of a condition over a graph. -/
def cval (a : Graph) (c : Cond) : Int := if gval a ≠ 0 then gval a else if ovr a c ≠ 0 then ovr a c else lrg c
theorem c48 (a : Graph) (c : Cond) : Con P 48 [] [a.av, c.av] (.int .i64 (cval a c)) [] := by
  refine go Tryz.func48 (by rfl) rfl rfl rfl fun hl => ?_
  refine W0 ?_
  refine ⟨_, _, c45 a, ?_⟩
  refine W0 ?_
  refine ⟨fun h => ?_, fun h => ?_⟩
  · refine W0 ?_
    refine fin_frz TT ?_ rfl
    rw [cval, if_pos (by simpa using h)]; rfl
  · refine W0 ?_
    refine ⟨_, _, c105 a c, ?_⟩
    refine W0 ?_
    refine ⟨fun h2 => ?_, fun h2 => ?_⟩
    · refine W0 ?_
      refine fin_frz TT ?_ rfl
      rw [cval, if_neg (by simpa using h), if_pos (by simpa using h2)]; rfl
    · refine W0 ?_
      refine ⟨_, _, c106 c, ?_⟩
      refine W0 ?_
      refine fin_frz TT ?_ rfl
      rw [cval, if_neg (by simpa using h), if_neg (by simpa using h2)]; rfl
end Go.Av.Z

/- The guards: what is few, what is light. -/
namespace Go.Av.Z
open Go.Proofs

def fewB (g : Graph) : Bool := decide ((g.nodes.length : Int) ≤ 45) && decide ((g.edges.length : Int) ≤ 90)
theorem c33 (g : Graph) : Con P 33 [] [g.av] (.bool (fewB g)) [] := by
  refine go Tryz.func33 (by rfl) rfl rfl rfl fun hl => ?_
  refine W0 ?_
  rw [nums_len]
  refine ⟨fun h => ?_, fun h => ?_⟩
  · refine W0 ?_
    refine fin_frz TT ?_ rfl
    rw [fewB, h, edgs_len]; rfl
  · refine W0 ?_
    refine fin_frz TT ?_ rfl
    rw [fewB, h]; rfl
def fewM (m : Mor) (n : Int) : Bool := decide (IntKind.i64.wrap ((m.nodes.length : Int) + (m.edges.length : Int)) ≤ n)
theorem c34 (m : Mor) (n : Int) : Con P 34 [] [m.av, .int .i64 n] (.bool (fewM m n)) [] := by
  refine go Tryz.func34 (by rfl) rfl rfl rfl fun hl => ?_
  refine W0 ?_
  refine fin_frz TT ?_ rfl
  rw [nums_len, nums_len]; rfl
theorem c35 (m : Mor) (n : Int) : Con P 35 [] [m.av, .int .i64 n] (.bool (fewM m n)) [] := by
  refine go Tryz.func35 (by rfl) rfl rfl rfl fun hl => ?_
  refine W0 ?_
  refine fin_frz TT ?_ rfl
  rw [nums_len, nums_len]; rfl
def fewR (r : Rule) : Bool := fewB r.left.graph && (fewB r.right.graph && (fewM r.keep 140 && fewM r.into 140))
theorem c12 (r : Rule) : Con P 12 [] [r.av] (.bool (fewR r)) [] := by
  refine go Tryz.func12 (by rfl) rfl rfl rfl fun hl => ?_
  refine W0 ?_
  refine ⟨_, _, c33 r.left.graph, ?_⟩
  refine W0 ?_
  refine ⟨fun h1 => ?_, fun h1 => ?_⟩
  · refine W0 ?_
    refine ⟨_, _, c33 r.right.graph, ?_⟩
    refine W0 ?_
    refine ⟨fun h2 => ?_, fun h2 => ?_⟩
    · refine W0 ?_
      refine ⟨_, _, c34 r.keep 140, ?_⟩
      refine W0 ?_
      refine ⟨fun h3 => ?_, fun h3 => ?_⟩
      · refine W0 ?_
        refine ⟨_, _, c35 r.into 140, ?_⟩
        refine W0 ?_
        refine fin_frz TT ?_ rfl
        rw [fewR, h1, h2, h3]; rfl
      · refine W0 ?_
        refine fin_frz TT ?_ rfl
        rw [fewR, h1, h2, h3]; rfl
    · refine W0 ?_
      refine fin_frz TT ?_ rfl
      rw [fewR, h1, h2]; rfl
  · refine W0 ?_
    refine fin_frz TT ?_ rfl
    rw [fewR, h1]; rfl
/-- The lists of a condition, without its kids', are short. -/
def fitOne (n e : Int) (c : Cond) : Bool := !(decide (n < (c.pat.graph.nodes.length : Int)) || (decide (e < (c.pat.graph.edges.length : Int)) || (decide ((100 : Int) < c.map.nodes.length) || (decide ((100 : Int) < c.map.edges.length) || (decide ((20 : Int) < c.pat.slots.length) || decide ((20 : Int) < c.pat.tests.length))))))
mutual
def fitB (n e : Int) : Cond → Bool
  | .mk k kids m p => fitOne n e (.mk k kids m p) && fitBs n e kids
def fitBs (n e : Int) : List Cond → Bool
  | [] => true
  | c :: r => fitB n e c && fitBs n e r
end
theorem fitB_eq (n e : Int) (c : Cond) : fitB n e c = (fitOne n e c && fitBs n e c.kids) := by cases c; rw [fitB]; rfl
theorem fitBs_all (n e : Int) : ∀ l : List Cond, fitBs n e l = l.all (fitB n e)
  | [] => by rw [fitBs]; rfl
  | c :: r => by rw [fitBs, fitBs_all n e r]; rfl
theorem m17 (n e : Int) (c : Cond) (ih : ∀ x ∈ c.kids, Con P 60 [] [x.av, .int .i64 n, .int .i64 e] (.bool (fitB n e x)) []) : Con P 60 [] [c.av, .int .i64 n, .int .i64 e] (.bool (fitB n e c)) [] := by
  refine go Tryz.func60 (by rfl) rfl rfl rfl fun hl => ?_
  have hn : c.kids.length ≤ 9223372036854775807 := by
    have := hl (cnds c.kids).length (by simp [lensL, lens, Cond.av, Cond.cs])
    rwa [cnds_len] at this
  refine W0 ?_
  rw [nums_len]
  refine ⟨fun h1 => ?_, fun h1 => ?_⟩
  · refine W0 ?_
    refine fin_frz TT ?_ rfl
    rw [fitB_eq n e c, fitOne, h1]; rfl
  refine W0 ?_
  rw [edgs_len]
  refine ⟨fun h2 => ?_, fun h2 => ?_⟩
  · refine W0 ?_
    refine fin_frz TT ?_ rfl
    rw [fitB_eq n e c, fitOne, h1, h2]; rfl
  refine W0 ?_
  rw [nums_len]
  refine ⟨fun h3 => ?_, fun h3 => ?_⟩
  · refine W0 ?_
    refine fin_frz TT ?_ rfl
    rw [fitB_eq n e c, fitOne, h1, h2, h3]; rfl
  refine W0 ?_
  rw [nums_len]
  refine ⟨fun h4 => ?_, fun h4 => ?_⟩
  · refine W0 ?_
    refine fin_frz TT ?_ rfl
    rw [fitB_eq n e c, fitOne, h1, h2, h3, h4]; rfl
  refine W0 ?_
  rw [slts_len]
  refine ⟨fun h5 => ?_, fun h5 => ?_⟩
  · refine W0 ?_
    refine fin_frz TT ?_ rfl
    rw [fitB_eq n e c, fitOne, h1, h2, h3, h4, h5]; rfl
  refine W0 ?_
  rw [tsts_len]
  refine ⟨fun h6 => ?_, fun h6 => ?_⟩
  · refine W0 ?_
    refine fin_frz TT ?_ rfl
    rw [fitB_eq n e c, fitOne, h1, h2, h3, h4, h5, h6]; rfl
  have hone : fitOne n e c = true := by rw [fitOne, h1, h2, h3, h4, h5, h6]; rfl
  refine W0 ?_
  refine loop (fun i : Nat => mkSt [(7, .int .i64 i), (3, .bptr 0 0), (1, .int .i64 n), (2, .int .i64 e)] [.box 39 c.cs]) (fun i => i ≤ c.kids.length ∧ ∀ j y, j < i → c.kids[j]? = some y → fitB n e y = true) (fun i => c.kids.length - i) 0 ⟨Nat.zero_le _, fun j y h => by omega⟩
    (le_of [0] rfl rfl rfl ⟨rfl, rfl, rfl, rfl, trivial⟩ ⟨rfl, trivial⟩) ?_
  rintro i ⟨hi, hno⟩
  refine W0 ?_
  rw [cnds_len]
  refine ⟨fun hlt => ?_, fun hge => ?_⟩
  · have hlt := of_lt hlt
    have hx : c.kids[i]? = some c.kids[i] := List.getElem?_eq_getElem hlt
    generalize c.kids[i] = x at hx
    refine W0 ?_
    refine ⟨by omega, _, cnds_at hx, ?_⟩
    refine W0 ?_
    refine ⟨_, _, ih x (List.mem_of_getElem? hx), ?_⟩
    refine W0 ?_
    refine ⟨fun h => ?_, fun h => ?_⟩
    · have h : fitB n e x = false := by simpa using h
      refine W0 ?_
      refine fin_frz TT ?_ rfl
      rw [fitB_eq n e c, fitBs_all, hone, Bool.true_and, List.all_eq_false.2 ⟨x, List.mem_of_getElem? hx, by simp [h]⟩]; rfl
    · have h : fitB n e x = true := by simpa using h
      refine W0 ?_
      exact ⟨i + 1, ⟨hlt, fun j y hj hy => by
        rcases Nat.lt_or_ge j i with h' | h'
        · exact hno j y h' hy
        · have : j = i := by omega
          subst this; rw [hx] at hy; cases hy; exact h⟩, by show c.kids.length - (i + 1) < c.kids.length - i; omega, le_of [0] rfl rfl rfl ⟨step_num hlt hn, rfl, rfl, rfl, trivial⟩ ⟨rfl, trivial⟩⟩
  · have hge := of_ge hge
    refine W0 ?_
    refine fin_frz TT ?_ rfl
    rw [fitB_eq n e c, fitBs_all, hone, Bool.true_and, List.all_eq_true.2 fun y hy => by
      obtain ⟨j, hj, rfl⟩ := List.mem_iff_getElem.1 hy
      exact hno j _ (by omega) (List.getElem?_eq_getElem hj)]; rfl
theorem c60 (n e : Int) (c : Cond) : Con P 60 [] [c.av, .int .i64 n, .int .i64 e] (.bool (fitB n e c)) [] := m17 n e c fun x hx => c60 n e x
  termination_by SizeOf.sizeOf c
  decreasing_by exact kid_lt hx
end Go.Av.Z

/- The reference: conditions over a graph; light conditions. -/
namespace Go.Av.Z
open Go.Proofs

/-- All lists of a condition and its kids' are no longer than memory lets them be. -/
def fineA (c : Cond) : Prop := c.fine ∧ ∀ x, ∀ _ : x ∈ c.kids, fineA x
  termination_by SizeOf.sizeOf c
  decreasing_by exact kid_lt (by assumption)
theorem fineA_iff (c : Cond) : fineA c ↔ c.fine ∧ ∀ x ∈ c.kids, fineA x := by rw [fineA]
theorem fit_fine {n e : Int} (hn : n ≤ 1000) (he : e ≤ 1000) (c : Cond) (h : fitB n e c = true) : fineA c := by
  rw [fitB_eq, fitBs_all, Bool.and_eq_true] at h
  rw [fineA_iff]
  refine ⟨?_, fun x hx => fit_fine hn he x (List.all_eq_true.1 h.2 x hx)⟩
  have h1 := h.1
  simp [fitOne] at h1
  unfold Cond.fine
  omega
  termination_by SizeOf.sizeOf c
  decreasing_by exact kid_lt hx
theorem shp_five {c : Cond} (h : shp c = 0) (h5 : (c.kind == 5) = true) : ∃ x, c.kids = [x] := by
  have hk : c.kind = 5 := by simpa using h5
  unfold shp at h
  split at h
  · cases h
  · rename_i h1
    have h1 : shpOk c = true := by simpa using h1
    unfold shpOk at h1
    rw [hk] at h1
    have : ((c.kids.length : Int) == 1) = true := by simpa using h1
    have : c.kids.length = 1 := by simp at this; omega
    exact List.length_eq_one_iff.1 this
theorem m36 (a : Graph) (c : Cond) (hf : fineA c) (ih : ∀ a' : Graph, ∀ x ∈ c.kids, fineA x → Con P 114 [] [a'.av, x.av] (.int .i64 (ovr a' x)) []) : Con P 114 [] [a.av, c.av] (.int .i64 (ovr a c)) [] := by
  have hff := (fineA_iff c).1 hf
  refine go Tryz.func114 (by rfl) rfl rfl rfl fun hl => ?_
  have hn : c.kids.length ≤ 9223372036854775807 := by
    have := hl (cnds c.kids).length (by simp [lensL, lens, Cond.av, Cond.cs])
    rwa [cnds_len] at this
  refine W0 ?_
  refine ⟨_, _, c169 c hff.1, ?_⟩
  refine W0 ?_
  refine ⟨fun h => ?_, fun h => ?_⟩
  · refine W0 ?_
    refine fin_frz TT ?_ rfl
    rw [ovr_eq a c, if_pos (by simpa using h)]; rfl
  · have h1 : shp c = 0 := by simpa using h
    refine W0 ?_
    refine ⟨fun k5 => ?_, fun k5 => ?_⟩
    · obtain ⟨x, hx⟩ := shp_five h1 k5
      have hx0 : c.kids[0]? = some x := by rw [hx]; rfl
      refine W0 ?_
      refine ⟨_, _, c39 a c.pat.graph c.map, ?_⟩
      refine W0 ?_
      refine ⟨fun h => ?_, fun h => ?_⟩
      · refine W0 ?_
        refine fin_frz TT ?_ rfl
        rw [ovr_eq a c, if_neg (by simp [h1]), if_pos k5, if_pos (by simpa using h)]; rfl
      · have h2 : mval a c.pat.graph c.map = 0 := by simpa using h
        refine W0 ?_
        refine ⟨_, _, c40 a c.pat.graph c.map, ?_⟩
        refine W0 ?_
        refine ⟨fun h => ?_, fun h => ?_⟩
        · refine W0 ?_
          refine fin_frz TT ?_ rfl
          rw [ovr_eq a c, if_neg (by simp [h1]), if_pos k5, if_neg (by simp [h2]), if_pos (by simpa using h)]; rfl
        · have h3 : minj a c.pat.graph c.map = true := by simpa using h
          have hm := List.mem_of_getElem? hx0
          refine W0 ?_
          refine ⟨by omega, _, cnds_at hx0, ?_⟩
          refine W0 ?_
          refine ⟨_, _, ih c.pat.graph x hm (hff.2 x hm), ?_⟩
          refine W0 ?_
          refine ⟨by kernel_rfl, ?_⟩
          refine W0 ?_
          refine fin_frz TT ?_ rfl
          have e : ovr c.pat.graph x = ovrs c.pat.graph [x] := by rw [ovrs, ovrs]; split <;> simp_all
          rw [ovr_eq a c, if_neg (by simp [h1]), if_pos k5, if_neg (by simp [h2]), if_neg (by simp [h3]), hx, ← e]; rfl
    · refine W0 ?_
      refine loop (fun i : Nat => mkSt [(7, .int .i64 i), (2, .bptr 0 0), (3, .bptr 1 0)] [.box 29 a.cs, .box 39 c.cs]) (fun i => i ≤ c.kids.length ∧ ∀ j y, j < i → c.kids[j]? = some y → ovr a y = 0) (fun i => c.kids.length - i) 0 ⟨Nat.zero_le _, fun j y h => by omega⟩
        (le_of [0, 1] rfl rfl rfl ⟨rfl, rfl, rfl, trivial⟩ ⟨rfl, rfl, trivial⟩) ?_
      rintro i ⟨hi, hno⟩
      refine W0 ?_
      rw [cnds_len]
      refine ⟨fun hlt => ?_, fun hge => ?_⟩
      · have hlt := of_lt hlt
        have hx : c.kids[i]? = some c.kids[i] := List.getElem?_eq_getElem hlt
        generalize c.kids[i] = x at hx
        have hm := List.mem_of_getElem? hx
        refine W0 ?_
        refine ⟨by omega, _, cnds_at hx, ?_⟩
        refine W0 ?_
        refine ⟨_, _, ih a x hm (hff.2 x hm), ?_⟩
        refine W0 ?_
        refine ⟨by kernel_rfl, ?_⟩
        refine W0 ?_
        refine ⟨fun h => ?_, fun h => ?_⟩
        · refine W0 ?_
          refine fin_frz TT ?_ rfl
          rw [ovr_eq a c, if_neg (by simp [h1]), if_neg (by simpa using k5), ovrs_errs _ _ 0, errs_first (f := fun _ x => ovr a x) hno hx (by simpa using h)]; rfl
        · refine W0 ?_
          exact ⟨i + 1, ⟨hlt, zero_upto (f := fun _ x => ovr a x) hno hx (by simpa using h)⟩, by show c.kids.length - (i + 1) < c.kids.length - i; omega, le_of [0, 1] rfl rfl rfl ⟨step_num hlt hn, rfl, rfl, trivial⟩ ⟨rfl, rfl, trivial⟩⟩
      · have hge := of_ge hge
        refine W0 ?_
        refine fin_frz TT ?_ rfl
        rw [ovr_eq a c, if_neg (by simp [h1]), if_neg (by simpa using k5), ovrs_errs _ _ 0, errs_all (f := fun _ x => ovr a x) hno (by omega)]; rfl
theorem c114 (a : Graph) (c : Cond) (hf : fineA c) : Con P 114 [] [a.av, c.av] (.int .i64 (ovr a c)) [] := m36 a c hf fun a' x hx h => c114 a' x h
  termination_by SizeOf.sizeOf c
  decreasing_by exact kid_lt hx
theorem c61 (a : Graph) (c : Cond) (hf : fineA c) : Con P 61 [] [a.av, c.av] (.int .i64 (cval a c)) [] := by
  refine go Tryz.func61 (by rfl) rfl rfl rfl fun hl => ?_
  refine W0 ?_
  refine ⟨_, _, c36 a, ?_⟩
  refine W0 ?_
  refine ⟨fun h => ?_, fun h => ?_⟩
  · refine W0 ?_
    refine fin_frz TT ?_ rfl
    rw [cval, if_pos (by simpa using h)]; rfl
  · refine W0 ?_
    refine ⟨_, _, c114 a c hf, ?_⟩
    refine W0 ?_
    refine ⟨fun h2 => ?_, fun h2 => ?_⟩
    · refine W0 ?_
      refine fin_frz TT ?_ rfl
      rw [cval, if_neg (by simpa using h), if_pos (by simpa using h2)]; rfl
    · refine W0 ?_
      refine ⟨_, _, c115 c, ?_⟩
      refine W0 ?_
      refine fin_frz TT ?_ rfl
      rw [cval, if_neg (by simpa using h), if_neg (by simpa using h2)]; rfl
end Go.Av.Z

/- Light conditions; the size that is asked. -/
namespace Go.Av.Z
open Go.Proofs

def lightB (a : Graph) (c : Cond) : Bool :=
  if (decide ((60 : Int) < (csz c).1) || (!fitB 45 90 c || !fewB a)) = true then false else
    (cval a c != 0) || (decide ((csz c).1 ≤ 8) && ((decide ((csz c).2 ≤ 1) && fitB 4 3 c) || (decide ((csz c).2 ≤ 2) && fitB 2 2 c)))
theorem c17 (a : Graph) (c : Cond) : Con P 17 [] [a.av, c.av] (.bool (lightB a c)) [] := by
  refine go Tryz.func17 (by rfl) rfl rfl rfl fun hl => ?_
  refine W0 ?_
  refine ⟨_, _, c59 c, ?_⟩
  refine W0 ?_
  refine ⟨fun h1 => ?_, fun h1 => ?_⟩
  · refine W0 ?_
    refine fin_frz TT ?_ rfl
    rw [lightB, h1]; rfl
  refine W0 ?_
  refine ⟨_, _, c60 45 90 c, ?_⟩
  refine W0 ?_
  refine ⟨fun h2 => ?_, fun h2 => ?_⟩
  · refine W0 ?_
    refine fin_frz TT ?_ rfl
    rw [lightB, h1, h2]; rfl
  refine W0 ?_
  refine ⟨_, _, c33 a, ?_⟩
  refine W0 ?_
  refine ⟨fun h3 => ?_, fun h3 => ?_⟩
  · refine W0 ?_
    refine fin_frz TT ?_ rfl
    rw [lightB, h1, h2, h3]; rfl
  refine W0 ?_
  have hf : fitB 45 90 c = true := by simpa using h2
  have e : lightB a c = ((cval a c != 0) || (decide ((csz c).1 ≤ 8) && ((decide ((csz c).2 ≤ 1) && fitB 4 3 c) || (decide ((csz c).2 ≤ 2) && fitB 2 2 c)))) := by rw [lightB, h1, h2, h3]; rfl
  refine ⟨_, _, c61 a c (fit_fine (by omega) (by omega) c hf), ?_⟩
  refine W0 ?_
  refine ⟨fun h4 => ?_, fun h4 => ?_⟩
  · refine W0 ?_
    refine fin_frz TT ?_ rfl
    rw [e, h4]; rfl
  refine W0 ?_
  refine ⟨fun h5 => ?_, fun h5 => ?_⟩
  · refine W0 ?_
    refine ⟨fun h6 => ?_, fun h6 => ?_⟩
    · refine W0 ?_
      refine ⟨_, _, c60 4 3 c, ?_⟩
      refine W0 ?_
      refine ⟨fun h7 => ?_, fun h7 => ?_⟩
      · refine W0 ?_
        refine fin_frz TT ?_ rfl
        rw [e, h4, h5, h6, h7]; rfl
      · refine W0 ?_
        refine ⟨fun h8 => ?_, fun h8 => ?_⟩
        · refine W0 ?_
          refine ⟨_, _, c60 2 2 c, ?_⟩
          refine W0 ?_
          refine fin_frz TT ?_ rfl
          rw [e, h4, h5, h6, h7, h8]; rfl
        · refine W0 ?_
          refine fin_frz TT ?_ rfl
          rw [e, h4, h5, h6, h7, h8]; rfl
    · refine W0 ?_
      refine ⟨fun h8 => ?_, fun h8 => ?_⟩
      · refine W0 ?_
        refine ⟨_, _, c60 2 2 c, ?_⟩
        refine W0 ?_
        refine fin_frz TT ?_ rfl
        rw [e, h4, h5, h6, h8]; rfl
      · refine W0 ?_
        refine fin_frz TT ?_ rfl
        rw [e, h4, h5, h6, h8]; rfl
  · refine W0 ?_
    refine fin_frz TT ?_ rfl
    rw [e, h4, h5]; rfl
theorem light_ok {a : Graph} {c : Cond} (h : lightB a c = true) : fitB 45 90 c = true ∧ fewB a = true := by
  unfold lightB at h
  split at h
  · cases h
  · rename_i h1
    simp at h1
    exact h1.2
end Go.Av.Z

/- The reference: the size that is asked. -/
namespace Go.Av.Z
open Go.Proofs

mutual
/-- The first error of a condition and its kids by themselves. -/
def shps : Cond → Int
  | .mk k kids m p => if shp (.mk k kids m p) ≠ 0 then shp (.mk k kids m p) else shpss kids
def shpss : List Cond → Int
  | [] => 0
  | c :: r => if shps c ≠ 0 then shps c else shpss r
end
theorem shps_eq (c : Cond) : shps c = if shp c ≠ 0 then shp c else shpss c.kids := by cases c; rw [shps]; rfl
theorem shpss_errs : ∀ (l : List Cond) (n : Nat), shpss l = errs (fun _ x => shps x) n l
  | [], n => by rw [shpss]; rfl
  | c :: r, n => by
    rw [shpss, errs]
    by_cases h : shps c = 0
    · rw [if_neg (by simp [h]), if_pos h]; exact shpss_errs r (n + 1)
    · rw [if_pos h, if_neg h]
theorem m95 (c : Cond) (hf : fineA c) (ih : ∀ x ∈ c.kids, fineA x → Con P 168 [] [x.av] (.int .i64 (shps x)) []) : Con P 168 [] [c.av] (.int .i64 (shps c)) [] := by
  have hff := (fineA_iff c).1 hf
  refine go Tryz.func168 (by rfl) rfl rfl rfl fun hl => ?_
  have hn : c.kids.length ≤ 9223372036854775807 := by
    have := hl (cnds c.kids).length (by simp [lensL, lens, Cond.av, Cond.cs])
    rwa [cnds_len] at this
  refine W0 ?_
  refine ⟨_, _, c169 c hff.1, ?_⟩
  refine W0 ?_
  refine ⟨fun h => ?_, fun h => ?_⟩
  · refine W0 ?_
    refine fin_frz TT ?_ rfl
    rw [shps_eq c, if_pos (by simpa using h)]; rfl
  · have h1 : shp c = 0 := by simpa using h
    refine W0 ?_
    refine loop (fun i : Nat => mkSt [(4, .int .i64 i), (1, .bptr 0 0)] [.box 39 c.cs]) (fun i => i ≤ c.kids.length ∧ ∀ j y, j < i → c.kids[j]? = some y → shps y = 0) (fun i => c.kids.length - i) 0 ⟨Nat.zero_le _, fun j y h => by omega⟩
      (le_of [0] rfl rfl rfl ⟨rfl, rfl, trivial⟩ ⟨rfl, trivial⟩) ?_
    rintro i ⟨hi, hno⟩
    refine W0 ?_
    rw [cnds_len]
    refine ⟨fun hlt => ?_, fun hge => ?_⟩
    · have hlt := of_lt hlt
      have hx : c.kids[i]? = some c.kids[i] := List.getElem?_eq_getElem hlt
      generalize c.kids[i] = x at hx
      have hm := List.mem_of_getElem? hx
      refine W0 ?_
      refine ⟨by omega, _, cnds_at hx, ?_⟩
      refine W0 ?_
      refine ⟨_, _, ih x hm (hff.2 x hm), ?_⟩
      refine W0 ?_
      refine ⟨fun h => ?_, fun h => ?_⟩
      · refine W0 ?_
        refine fin_frz TT ?_ rfl
        rw [shps_eq c, if_neg (by simp [h1]), shpss_errs _ 0, errs_first (f := fun _ x => shps x) hno hx (by simpa using h)]; rfl
      · refine W0 ?_
        exact ⟨i + 1, ⟨hlt, zero_upto (f := fun _ x => shps x) hno hx (by simpa using h)⟩, by show c.kids.length - (i + 1) < c.kids.length - i; omega, le_of [0] rfl rfl rfl ⟨step_num hlt hn, rfl, trivial⟩ ⟨rfl, trivial⟩⟩
    · have hge := of_ge hge
      refine W0 ?_
      refine fin_frz TT ?_ rfl
      rw [shps_eq c, if_neg (by simp [h1]), shpss_errs _ 0, errs_all (f := fun _ x => shps x) hno (by omega)]; rfl
theorem c168 (c : Cond) (hf : fineA c) : Con P 168 [] [c.av] (.int .i64 (shps c)) [] := m95 c hf fun x hx h => c168 x h
  termination_by SizeOf.sizeOf c
  decreasing_by exact kid_lt hx
def szErr (c : Cond) : Int := if shps c ≠ 0 then shps c else lrg c
def szN (c : Cond) : Int × Int := if szErr c = 0 then csz c else (0, 0)
theorem c111 (c : Cond) (hf : fineA c) : Con P 111 [] [c.av] (.tuple [.int .i64 (szN c).1, .int .i64 (szN c).2, .int .i64 (szErr c)]) [] := by
  refine go Tryz.func111 (by rfl) rfl rfl rfl fun hl => ?_
  refine W0 ?_
  refine ⟨_, _, c168 c hf, ?_⟩
  refine W0 ?_
  refine ⟨fun h => ?_, fun h => ?_⟩
  · have e : szErr c = shps c := by rw [szErr, if_pos (by simpa using h)]
    have e2 : szN c = (0, 0) := by rw [szN, if_neg (by rw [e]; simpa using h)]
    refine W0 ?_
    refine fin_frz TT ?_ rfl
    rw [e, e2]; rfl
  · have e : szErr c = lrg c := by rw [szErr, if_neg (by simpa using h)]
    refine W0 ?_
    refine ⟨_, _, c115 c, ?_⟩
    refine W0 ?_
    refine ⟨fun h2 => ?_, fun h2 => ?_⟩
    · have e2 : szN c = (0, 0) := by rw [szN, if_neg (by rw [e]; simpa using h2)]
      refine W0 ?_
      refine fin_frz TT ?_ rfl
      rw [e, e2]; rfl
    · have e2 : szN c = csz c := by rw [szN, if_pos (by rw [e]; simpa using h2)]
      refine W0 ?_
      refine ⟨_, _, c59 c, ?_⟩
      refine W0 ?_
      refine fin_frz TT ?_ rfl
      rw [e, e2, show lrg c = 0 by simpa using h2]; rfl
def Cond.zero : Cond := .mk 0 [] ⟨[], []⟩ ⟨⟨[], []⟩, [], 0, []⟩
def smallC (c : Cond) : Cond := if szErr c = 0 then c else .zero
theorem c56 (c : Cond) (hf : fineA c) : Con P 56 [] [c.av] (.tuple [(smallC c).av, .int .i64 (szErr c)]) [] := by
  refine go Tryz.func56 (by rfl) rfl rfl rfl fun hl => ?_
  refine W0 ?_
  refine ⟨_, _, c111 c hf, ?_⟩
  refine W0 ?_
  refine ⟨fun h => ?_, fun h => ?_⟩
  · have e2 : smallC c = .zero := by rw [smallC, if_neg (by simpa using h)]
    refine W0 ?_
    refine fin_frz TT ?_ rfl
    rw [e2]; rfl
  · have e2 : smallC c = c := by rw [smallC, if_pos (by simpa using h)]
    refine W0 ?_
    refine fin_frz TT ?_ rfl
    rw [e2, show szErr c = 0 by simpa using h]; rfl
end Go.Av.Z

/- The reference: what is the same is found the same. -/
namespace Go.Av.Z
open Go.Proofs

theorem c112 (l : List Int) : Con P 112 [] [.slice 1 (nums l), .slice 1 (nums l)] (.bool true) [] := by
  refine go Tryz.func112 (by rfl) rfl rfl rfl fun hl => ?_
  refine W0 ?_
  have hn : l.length ≤ 9223372036854775807 := by
    have := hl (nums l).length (by simp [lensL, lens])
    rwa [nums_len] at this
  refine ⟨fun h => absurd h (by simp), fun _ => ?_⟩
  refine W0 ?_
  refine loop (fun i : Nat => mkSt [(5, .int .i64 i), (0, .slice 1 (nums l)), (1, .slice 1 (nums l))] []) (fun i => i ≤ l.length) (fun i => l.length - i) 0 (Nat.zero_le _)
    (le_of [] rfl rfl rfl ⟨rfl, rfl, rfl, trivial⟩ trivial) ?_
  intro i hi
  refine W0 ?_
  rw [nums_len]
  refine ⟨fun hlt => ?_, fun hge => ?_⟩
  · have hlt := of_lt hlt
    have hx : l[i]? = some l[i] := List.getElem?_eq_getElem hlt
    generalize l[i] = x at hx
    refine W0 ?_
    refine ⟨by omega, _, nums_at hx, ?_⟩
    refine W0 ?_
    refine ⟨by omega, _, nums_at hx, ?_⟩
    refine W0 ?_
    refine ⟨by kernel_rfl, ?_⟩
    refine W0 ?_
    refine ⟨fun h => absurd h (by simp), fun _ => ?_⟩
    refine W0 ?_
    exact ⟨i + 1, hlt, by show l.length - (i + 1) < l.length - i; omega, le_of [] rfl rfl rfl ⟨step_num hlt hn, rfl, rfl, trivial⟩ trivial⟩
  · refine W0 ?_
    refine fin_frz TT ?_ rfl
    rfl
theorem c113 (l : List Int) : Con P 113 [] [.slice 1 (nums l), .slice 1 (nums l)] (.bool true) [] := by
  refine go Tryz.func113 (by rfl) rfl rfl rfl fun hl => ?_
  refine W0 ?_
  have hn : l.length ≤ 9223372036854775807 := by
    have := hl (nums l).length (by simp [lensL, lens])
    rwa [nums_len] at this
  refine ⟨fun h => absurd h (by simp), fun _ => ?_⟩
  refine W0 ?_
  refine loop (fun i : Nat => mkSt [(5, .int .i64 i), (0, .slice 1 (nums l)), (1, .slice 1 (nums l))] []) (fun i => i ≤ l.length) (fun i => l.length - i) 0 (Nat.zero_le _)
    (le_of [] rfl rfl rfl ⟨rfl, rfl, rfl, trivial⟩ trivial) ?_
  intro i hi
  refine W0 ?_
  rw [nums_len]
  refine ⟨fun hlt => ?_, fun hge => ?_⟩
  · have hlt := of_lt hlt
    have hx : l[i]? = some l[i] := List.getElem?_eq_getElem hlt
    generalize l[i] = x at hx
    refine W0 ?_
    refine ⟨by omega, _, nums_at hx, ?_⟩
    refine W0 ?_
    refine ⟨by omega, _, nums_at hx, ?_⟩
    refine W0 ?_
    refine ⟨by kernel_rfl, ?_⟩
    refine W0 ?_
    refine ⟨fun h => absurd h (by simp), fun _ => ?_⟩
    refine W0 ?_
    exact ⟨i + 1, hlt, by show l.length - (i + 1) < l.length - i; omega, le_of [] rfl rfl rfl ⟨step_num hlt hn, rfl, rfl, trivial⟩ trivial⟩
  · refine W0 ?_
    refine fin_frz TT ?_ rfl
    rfl
theorem c57 (m : Mor) : Con P 57 [] [m.av, m.av] (.bool true) [] := by
  refine go Tryz.func57 (by rfl) rfl rfl rfl fun hl => ?_
  refine W0 ?_
  refine ⟨_, _, c112 m.nodes, ?_⟩
  refine W0 ?_
  refine ⟨_, _, c112 m.edges, ?_⟩
  refine W0 ?_
  refine fin_frz TT ?_ rfl
  rfl
theorem c58 (g : Graph) : Con P 58 [] [g.av, g.av] (.bool true) [] := by
  refine go Tryz.func58 (by rfl) rfl rfl rfl fun hl => ?_
  refine W0 ?_
  have hn : g.edges.length ≤ 9223372036854775807 := by
    have := hl (edgs g.edges).length (by simp [lensL, lens, Graph.av, Graph.cs])
    rwa [edgs_len] at this
  refine ⟨_, _, c113 g.nodes, ?_⟩
  refine W0 ?_
  refine ⟨fun h => absurd h (by simp), fun _ => ?_⟩
  refine W0 ?_
  refine loop (fun i : Nat => mkSt [(5, .int .i64 i), (2, .bptr 0 0), (3, .bptr 1 0)] [.box 29 g.cs, .box 29 g.cs]) (fun i => i ≤ g.edges.length) (fun i => g.edges.length - i) 0 (Nat.zero_le _)
    (le_of [0, 1] rfl rfl rfl ⟨rfl, rfl, rfl, trivial⟩ ⟨rfl, rfl, trivial⟩) ?_
  intro i hi
  refine W0 ?_
  rw [edgs_len]
  refine ⟨fun hlt => ?_, fun hge => ?_⟩
  · have hlt := of_lt hlt
    have hx : g.edges[i]? = some g.edges[i] := List.getElem?_eq_getElem hlt
    generalize g.edges[i] = x at hx
    refine W0 ?_
    refine ⟨by omega, _, edgs_at hx, ?_⟩
    refine W0 ?_
    refine ⟨by omega, _, edgs_at hx, ?_⟩
    refine W0 ?_
    refine ⟨eq109, rfl, ?_⟩
    refine W0 ?_
    refine ⟨by kernel_rfl, ?_⟩
    refine W0 ?_
    refine ⟨fun h => absurd h (by simp), fun _ => ?_⟩
    refine W0 ?_
    exact ⟨i + 1, hlt, by show g.edges.length - (i + 1) < g.edges.length - i; omega, le_of [0, 1] rfl rfl rfl ⟨step_num hlt hn, rfl, rfl, trivial⟩ ⟨rfl, rfl, trivial⟩⟩
  · refine W0 ?_
    refine fin_frz TT ?_ rfl
    rfl
end Go.Av.Z

/- The reference: conditions that are the same. -/
namespace Go.Av.Z
open Go.Proofs

/-- No condition inside has slots or tests. -/
def noSl (c : Cond) : Prop := (c.pat.slots = [] ∧ c.pat.tests = []) ∧ ∀ x, ∀ _ : x ∈ c.kids, noSl x
  termination_by SizeOf.sizeOf c
  decreasing_by exact kid_lt (by assumption)
theorem noSl_iff (c : Cond) : noSl c ↔ (c.pat.slots = [] ∧ c.pat.tests = []) ∧ ∀ x ∈ c.kids, noSl x := by rw [noSl]
theorem m9 (c : Cond) (hc : noSl c) (ih : ∀ x ∈ c.kids, noSl x → Con P 16 [] [x.av, x.av] (.bool true) []) : Con P 16 [] [c.av, c.av] (.bool true) [] := by
  obtain ⟨⟨hs, ht⟩, hk⟩ := (noSl_iff c).1 hc
  refine go Tryz.func16 (by rfl) rfl rfl rfl fun hl => ?_
  have hn : c.kids.length ≤ 9223372036854775807 := by
    have := hl (cnds c.kids).length (by simp [lensL, lens, Cond.av, Cond.cs])
    rwa [cnds_len] at this
  refine W0 ?_
  refine ⟨fun h => absurd h (by simp), fun _ => ?_⟩
  refine W0 ?_
  refine ⟨fun h => absurd h (by simp), fun _ => ?_⟩
  refine W0 ?_
  refine ⟨_, _, c57 c.map, ?_⟩
  refine W0 ?_
  refine ⟨_, _, c58 c.pat.graph, ?_⟩
  refine W0 ?_
  refine ⟨fun h => absurd h (by simp), fun _ => ?_⟩
  refine W0 ?_
  refine ⟨fun h => absurd h (by simp), fun _ => ?_⟩
  refine W0 ?_
  refine ⟨fun h => absurd h (by simp), fun _ => ?_⟩
  refine W0 ?_
  refine loop (fun i : Nat => mkSt [(5, .int .i64 i), (2, .bptr 0 0), (3, .bptr 1 0)] [.box 39 c.cs, .box 39 c.cs]) (fun i => i = 0) (fun i => 0) 0 rfl
    (le_of [0, 1] rfl rfl rfl ⟨rfl, rfl, rfl, trivial⟩ ⟨rfl, rfl, trivial⟩) ?_
  rintro i rfl
  refine W0 ?_
  rw [hs]
  refine ⟨fun h => absurd h (by simp [slts]), fun _ => ?_⟩
  refine W0 ?_
  refine loop (fun i : Nat => mkSt [(6, .int .i64 i), (2, .bptr 0 0), (3, .bptr 1 0)] [.box 39 c.cs, .box 39 c.cs]) (fun i => i = 0) (fun i => 0) 0 rfl
    (le_of [0, 1] rfl rfl rfl ⟨rfl, rfl, rfl, trivial⟩ ⟨rfl, rfl, trivial⟩) ?_
  rintro i rfl
  refine W0 ?_
  rw [ht]
  refine ⟨fun h => absurd h (by simp [tsts]), fun _ => ?_⟩
  refine W0 ?_
  refine loop (fun i : Nat => mkSt [(7, .int .i64 i), (2, .bptr 0 0), (3, .bptr 1 0)] [.box 39 c.cs, .box 39 c.cs]) (fun i => i ≤ c.kids.length) (fun i => c.kids.length - i) 0 (Nat.zero_le _)
    (le_of [0, 1] rfl rfl rfl ⟨rfl, rfl, rfl, trivial⟩ ⟨rfl, rfl, trivial⟩) ?_
  intro i hi
  refine W0 ?_
  rw [cnds_len]
  refine ⟨fun hlt => ?_, fun hge => ?_⟩
  · have hlt := of_lt hlt
    have hx : c.kids[i]? = some c.kids[i] := List.getElem?_eq_getElem hlt
    generalize c.kids[i] = x at hx
    have hm := List.mem_of_getElem? hx
    refine W0 ?_
    refine ⟨by omega, _, cnds_at hx, ?_⟩
    refine W0 ?_
    refine ⟨by omega, _, cnds_at hx, ?_⟩
    refine W0 ?_
    refine ⟨_, _, ih x hm (hk x hm), ?_⟩
    refine W0 ?_
    refine ⟨by kernel_rfl, ?_⟩
    refine W0 ?_
    exact ⟨i + 1, hlt, by show c.kids.length - (i + 1) < c.kids.length - i; omega, le_of [0, 1] rfl rfl rfl ⟨step_num hlt hn, rfl, rfl, trivial⟩ ⟨rfl, rfl, trivial⟩⟩
  · refine W0 ?_
    refine fin_frz TT ?_ rfl
    rfl
theorem c16 (c : Cond) (hc : noSl c) : Con P 16 [] [c.av, c.av] (.bool true) [] := m9 c hc fun x hx h => c16 x h
  termination_by SizeOf.sizeOf c
  decreasing_by exact kid_lt hx
end Go.Av.Z

/- Structural rules. -/
namespace Go.Av.Z
open Go.Proofs

/-- The graph that a rule keeps. -/
def kep (r : Rule) : Graph := ext r.left.graph r.keep
/-- The error of a structural rule. -/
def strc (r : Rule) : Int :=
  if gval r.left.graph ≠ 0 then gval r.left.graph else if gval r.right.graph ≠ 0 then gval r.right.graph else if pval r.left.graph r.keep ≠ 0 then pval r.left.graph r.keep else
  if mval (kep r) r.right.graph r.into ≠ 0 then mval (kep r) r.right.graph r.into else if minj (kep r) r.right.graph r.into = false then 11 else
  if (plainB r.left && plainB r.right) = false then 8 else if r.inj = false then 8 else 0
def Rule.fine (r : Rule) : Prop := r.left.slots.length ≤ 1099511627776 ∧ r.left.tests.length ≤ 1099511627776 ∧ r.right.slots.length ≤ 1099511627776 ∧ r.right.tests.length ≤ 1099511627776
theorem plain_sum {p : Pat} (h1 : p.slots.length ≤ 1099511627776) (h2 : p.tests.length ≤ 1099511627776) : decide ((0 : Int) < IntKind.i64.wrap ((p.slots.length : Int) + (p.tests.length : Int))) = !(((p.slots.length : Int) == 0) && ((p.tests.length : Int) == 0)) := by
  rw [wrap_small (by omega) (by omega)]
  cases h : (((p.slots.length : Int) == 0) && ((p.tests.length : Int) == 0)) with
  | true => simp at h; simp [h.1, h.2]
  | false =>
    have : 0 < (p.slots.length : Int) + (p.tests.length : Int) := by
      rcases Nat.eq_zero_or_pos p.slots.length with h1 | h1
      · rcases Nat.eq_zero_or_pos p.tests.length with h2 | h2
        · rw [h1, h2] at h; cases h
        · omega
      · omega
    simp [this]

theorem c62 (r : Rule) (hf : r.fine) : Con P 62 [] [r.av] (.int .i64 (strc r)) [] := by
  obtain ⟨hf1, hf2, hf3, hf4⟩ := hf
  refine go Tryz.func62 (by rfl) rfl rfl rfl fun hl => ?_
  refine W0 ?_
  refine ⟨_, _, c45 r.left.graph, ?_⟩
  refine W0 ?_
  refine ⟨fun h => ?_, fun h => ?_⟩
  · refine W0 ?_
    refine fin_frz TT ?_ rfl
    rw [strc, if_pos (by simpa using h)]; rfl
  have h1 : gval r.left.graph = 0 := by simpa using h
  refine W0 ?_
  refine ⟨_, _, c45 r.right.graph, ?_⟩
  refine W0 ?_
  refine ⟨fun h => ?_, fun h => ?_⟩
  · refine W0 ?_
    refine fin_frz TT ?_ rfl
    rw [strc, if_neg (by simp [h1]), if_pos (by simpa using h)]; rfl
  have h2 : gval r.right.graph = 0 := by simpa using h
  refine W0 ?_
  refine ⟨_, _, c116 r.left.graph r.keep, ?_⟩
  refine W0 ?_
  refine ⟨fun h => ?_, fun h => ?_⟩
  · refine W0 ?_
    refine fin_frz TT ?_ rfl
    rw [strc, if_neg (by simp [h1]), if_neg (by simp [h2]), if_pos (by simpa using h)]; rfl
  have h3 : pval r.left.graph r.keep = 0 := by simpa using h
  refine W0 ?_
  refine ⟨_, _, c117 r.left.graph r.keep h3, ?_⟩
  refine W0 ?_
  refine ⟨_, _, c85 (kep r) r.right.graph r.into, ?_⟩
  refine W0 ?_
  refine ⟨fun h => ?_, fun h => ?_⟩
  · refine W0 ?_
    refine fin_frz TT ?_ rfl
    rw [strc, if_neg (by simp [h1]), if_neg (by simp [h2]), if_neg (by simp [h3]), if_pos (by simpa using h)]; rfl
  have h4 : mval (kep r) r.right.graph r.into = 0 := by simpa using h
  refine W0 ?_
  refine ⟨_, _, c30 (kep r) r.right.graph r.into, ?_⟩
  refine W0 ?_
  refine ⟨fun h => ?_, fun h => ?_⟩
  · refine W0 ?_
    refine fin_frz TT ?_ rfl
    rw [strc, if_neg (by simp [h1]), if_neg (by simp [h2]), if_neg (by simp [h3]), if_neg (by simp [h4]), if_pos (by simpa using h)]; rfl
  have h5 : minj (kep r) r.right.graph r.into = true := by simpa using h
  have e : strc r = if (plainB r.left && plainB r.right) = false then 8 else if r.inj = false then 8 else 0 := by rw [strc, if_neg (by simp [h1]), if_neg (by simp [h2]), if_neg (by simp [h3]), if_neg (by simp [h4]), if_neg (by simp [h5])]
  refine W0 ?_
  refine loop (fun i : Nat => mkSt [(72, .int .i64 i), (71, .int .i64 2), (70, .ref 1), (1, .bptr 0 0)] [.box 41 r.cs, .row 33 5 [r.left.cs, r.right.cs]]) (fun i => i ≤ 2 ∧ (1 ≤ i → plainB r.left = true) ∧ (2 ≤ i → plainB r.right = true)) (fun i => 2 - i) 0 ⟨by omega, by omega, by omega⟩
    (le_of [0, 13] rfl rfl rfl ⟨rfl, rfl, rfl, rfl, trivial⟩ ⟨rfl, rfl, trivial⟩) ?_
  rintro i ⟨hi, hl1, hl2⟩
  refine W0 ?_
  refine ⟨fun hlt => ?_, fun hge => ?_⟩
  · have hlt : i < 2 := by simp at hlt; omega
    rcases (by omega : i = 0 ∨ i = 1) with rfl | rfl
    · refine W0 ?_
      refine ⟨⟨by omega, by simp⟩, ?_⟩
      refine W0 ?_
      refine ⟨rfl, _, rfl, ?_⟩
      refine W0 ?_
      rw [slts_len, tsts_len, plain_sum hf1 hf2]
      refine ⟨fun h => ?_, fun h => ?_⟩
      · have hp : plainB r.left = false := by rw [plainB]; revert h; cases ((r.left.slots.length : Int) == 0) <;> cases ((r.left.tests.length : Int) == 0) <;> cases (r.left.vars == 0) <;> simp
        refine W0 ?_
        refine fin_frz TT ?_ rfl
        rw [e, if_pos (by rw [hp]; rfl)]; rfl
      · refine W0 ?_
        refine ⟨fun h' => ?_, fun h' => ?_⟩
        · have hp : plainB r.left = false := by rw [plainB]; revert h'; cases hv : (r.left.vars == 0) <;> simp [bne, hv]
          refine W0 ?_
          refine fin_frz TT ?_ rfl
          rw [e, if_pos (by rw [hp]; rfl)]; rfl
        · have hp : plainB r.left = true := by rw [plainB]; revert h h'; cases ((r.left.slots.length : Int) == 0) <;> cases ((r.left.tests.length : Int) == 0) <;> cases hv : (r.left.vars == 0) <;> simp [bne, hv]
          refine W0 ?_
          exact ⟨1, ⟨by omega, fun _ => hp, by omega⟩, by decide, le_of [0, 1] rfl rfl rfl ⟨rfl, rfl, rfl, rfl, trivial⟩ ⟨rfl, rfl, trivial⟩⟩
    · have hpl := hl1 (by omega)
      refine W0 ?_
      refine ⟨⟨by omega, by simp⟩, ?_⟩
      refine W0 ?_
      refine ⟨rfl, _, rfl, ?_⟩
      refine W0 ?_
      rw [slts_len, tsts_len, plain_sum hf3 hf4]
      refine ⟨fun h => ?_, fun h => ?_⟩
      · have hp : plainB r.right = false := by rw [plainB]; revert h; cases ((r.right.slots.length : Int) == 0) <;> cases ((r.right.tests.length : Int) == 0) <;> cases (r.right.vars == 0) <;> simp
        refine W0 ?_
        refine fin_frz TT ?_ rfl
        rw [e, if_pos (by rw [hp, hpl]; rfl)]; rfl
      · refine W0 ?_
        refine ⟨fun h' => ?_, fun h' => ?_⟩
        · have hp : plainB r.right = false := by rw [plainB]; revert h'; cases hv : (r.right.vars == 0) <;> simp [bne, hv]
          refine W0 ?_
          refine fin_frz TT ?_ rfl
          rw [e, if_pos (by rw [hp, hpl]; rfl)]; rfl
        · have hp : plainB r.right = true := by rw [plainB]; revert h h'; cases ((r.right.slots.length : Int) == 0) <;> cases ((r.right.tests.length : Int) == 0) <;> cases hv : (r.right.vars == 0) <;> simp [bne, hv]
          refine W0 ?_
          exact ⟨2, ⟨by omega, fun _ => hpl, fun _ => hp⟩, by decide, le_of [0, 1] rfl rfl rfl ⟨rfl, rfl, rfl, rfl, trivial⟩ ⟨rfl, rfl, trivial⟩⟩
  · have hge : ¬ i < 2 := by simp at hge; omega
    have hpl := hl1 (by omega)
    have hpr := hl2 (by omega)
    refine W0 ?_
    refine ⟨fun h => ?_, fun h => ?_⟩
    · refine W0 ?_
      refine fin_frz TT ?_ rfl
      rw [e, hpl, hpr, if_neg (by simp), if_pos (by simpa using h)]; rfl
    · refine W0 ?_
      refine fin_frz TT ?_ rfl
      rw [e, hpl, hpr, if_neg (by simp), if_neg (by simpa using h)]; rfl
end Go.Av.Z

/- The reference: structural rules. -/
namespace Go.Av.Z
open Go.Proofs

theorem four_sum {a b c d : Nat} (ha : a ≤ 1099511627776) (hb : b ≤ 1099511627776) (hc : c ≤ 1099511627776) (hd : d ≤ 1099511627776) :
    (IntKind.i64.wrap (IntKind.i64.wrap (IntKind.i64.wrap ((a : Int) + (b : Int)) + (c : Int)) + (d : Int)) == 0) = ((((a : Int) == 0) && ((b : Int) == 0)) && (((c : Int) == 0) && ((d : Int) == 0))) := by
  rw [wrap_small (n := (a : Int) + b) (by omega) (by omega), wrap_small (n := (a : Int) + b + c) (by omega) (by omega), wrap_small (n := (a : Int) + b + c + d) (by omega) (by omega), Bool.eq_iff_iff]
  simp
  omega
theorem plain_split (p q : Pat) : (plainB p && plainB q) = (((((p.slots.length : Int) == 0) && ((p.tests.length : Int) == 0)) && (((q.slots.length : Int) == 0) && ((q.tests.length : Int) == 0))) && ((p.vars == 0) && (q.vars == 0))) := by
  rw [plainB, plainB]
  cases ((p.slots.length : Int) == 0) <;> cases ((p.tests.length : Int) == 0) <;> cases ((q.slots.length : Int) == 0) <;> cases ((q.tests.length : Int) == 0) <;> cases (p.vars == 0) <;> cases (q.vars == 0) <;> rfl

theorem c13 (r : Rule) (hf : r.fine) : Con P 13 [] [r.av] (.int .i64 (strc r)) [] := by
  obtain ⟨hf1, hf2, hf3, hf4⟩ := hf
  refine go Tryz.func13 (by rfl) rfl rfl rfl fun hl => ?_
  refine W0 ?_
  refine ⟨_, _, c36 r.left.graph, ?_⟩
  refine W0 ?_
  refine ⟨fun h => ?_, fun h => ?_⟩
  · refine W0 ?_
    refine fin_frz TT ?_ rfl
    rw [strc, if_pos (by simpa using h)]; rfl
  have h1 : gval r.left.graph = 0 := by simpa using h
  refine W0 ?_
  refine ⟨_, _, c36 r.right.graph, ?_⟩
  refine W0 ?_
  refine ⟨fun h => ?_, fun h => ?_⟩
  · refine W0 ?_
    refine fin_frz TT ?_ rfl
    rw [strc, if_neg (by simp [h1]), if_pos (by simpa using h)]; rfl
  have h2 : gval r.right.graph = 0 := by simpa using h
  refine W0 ?_
  refine ⟨_, _, c37 r.left.graph r.keep, ?_⟩
  refine W0 ?_
  refine ⟨fun h => ?_, fun h => ?_⟩
  · refine W0 ?_
    refine fin_frz TT ?_ rfl
    rw [strc, if_neg (by simp [h1]), if_neg (by simp [h2]), if_pos (by simpa using h)]; rfl
  have h3 : pval r.left.graph r.keep = 0 := by simpa using h
  refine W0 ?_
  refine ⟨_, _, c38 r.left.graph r.keep h3, ?_⟩
  refine W0 ?_
  refine ⟨_, _, c39 (kep r) r.right.graph r.into, ?_⟩
  refine W0 ?_
  refine ⟨fun h => ?_, fun h => ?_⟩
  · refine W0 ?_
    refine fin_frz TT ?_ rfl
    rw [strc, if_neg (by simp [h1]), if_neg (by simp [h2]), if_neg (by simp [h3]), if_pos (by simpa using h)]; rfl
  have h4 : mval (kep r) r.right.graph r.into = 0 := by simpa using h
  refine W0 ?_
  refine ⟨_, _, c40 (kep r) r.right.graph r.into, ?_⟩
  refine W0 ?_
  refine ⟨fun h => ?_, fun h => ?_⟩
  · refine W0 ?_
    refine fin_frz TT ?_ rfl
    rw [strc, if_neg (by simp [h1]), if_neg (by simp [h2]), if_neg (by simp [h3]), if_neg (by simp [h4]), if_pos (by simpa using h)]; rfl
  have h5 : minj (kep r) r.right.graph r.into = true := by simpa using h
  have e : strc r = if (plainB r.left && plainB r.right) = false then 8 else if r.inj = false then 8 else 0 := by rw [strc, if_neg (by simp [h1]), if_neg (by simp [h2]), if_neg (by simp [h3]), if_neg (by simp [h4]), if_neg (by simp [h5])]
  rw [plain_split] at e
  refine W0 ?_
  rw [slts_len, tsts_len, slts_len, tsts_len, four_sum hf1 hf2 hf3 hf4]
  refine ⟨fun k1 => ?_, fun k1 => ?_⟩
  · rw [k1, Bool.true_and] at e
    refine W0 ?_
    refine ⟨fun k2 => ?_, fun k2 => ?_⟩
    · rw [k2, Bool.true_and] at e
      refine W0 ?_
      refine ⟨fun k3 => ?_, fun k3 => ?_⟩
      · have k3 : (r.right.vars == 0) = false := by simpa using k3
        rw [k3] at e
        refine W0 ?_
        refine fin_frz TT ?_ rfl
        rw [e]; rfl
      · rw [if_neg (by simp at k3; simp [k3])] at e
        refine W0 ?_
        refine ⟨fun k4 => ?_, fun k4 => ?_⟩
        · refine W0 ?_
          refine fin_frz TT ?_ rfl
          rw [e, if_pos (by simpa using k4)]; rfl
        · refine W0 ?_
          refine fin_frz TT ?_ rfl
          rw [e, if_neg (by simpa using k4)]; rfl
    · rw [k2] at e
      refine W0 ?_
      refine fin_frz TT ?_ rfl
      rw [e]; rfl
  · rw [k1] at e
    refine W0 ?_
    refine fin_frz TT ?_ rfl
    rw [e]; rfl
end Go.Av.Z

/- slices.Concat; numbers in order. -/
namespace Go.Av.Z
open Go.Proofs

def lsts (l : List (List Int)) : List (List AV) := l.map fun x => [.slice 1 (nums x)]
theorem lsts_len (l : List (List Int)) : (lsts l).length = l.length := by simp [lsts]
theorem lsts_at {l : List (List Int)} {i : Nat} {x : List Int} (h : l[i]? = some x) : (lsts l)[i]? = some [.slice 1 (nums x)] := by simp [lsts, h]
theorem flat_take {l : List (List Int)} {i : Nat} {x : List Int} (h : l[i]? = some x) : (l.take (i + 1)).flatten = (l.take i).flatten ++ x := by
  rw [List.take_add_one, h]; simp
theorem flat_le {l : List (List Int)} (i : Nat) : (l.take i).flatten.length ≤ l.flatten.length := by
  have := congrArg (fun z => z.flatten.length) (List.take_append_drop i l)
  simp only [List.flatten_append, List.length_append] at this
  omega
theorem nums_apps (a b : List Int) : nums (a ++ b) = nums a ++ nums b := by simp [nums]
theorem c233 (l : List (List Int)) (hl1 : l.length ≤ 1000) (hl2 : l.flatten.length ≤ 1000000) : Con P 233 [] [.slice 1 (lsts l)] (.slice 1 (nums l.flatten)) [] := by
  refine go Tryz.func233 (by rfl) rfl rfl rfl fun hl => ?_
  refine W0 ?_
  rw [lsts_len]
  refine loop (fun i : Nat => mkSt [(11, .int .i64 i), (10, .int .i64 l.length), (9, .slice 1 (lsts l)), (0, .slice 1 (lsts l)), (3, .int .i64 (l.take i).flatten.length)] []) (fun i => i ≤ l.length) (fun i => l.length - i) 0 (Nat.zero_le _)
    (le_of [] rfl rfl rfl ⟨rfl, rfl, rfl, rfl, rfl, trivial⟩ trivial) ?_
  intro i hi
  refine W0 ?_
  refine ⟨fun hlt => ?_, fun hge => ?_⟩
  · have hlt := of_lt hlt
    have hx : l[i]? = some l[i] := List.getElem?_eq_getElem hlt
    generalize l[i] = x at hx
    have hf := flat_take hx
    have hle := flat_le (l := l) (i + 1)
    rw [hf, List.length_append] at hle
    refine W0 ?_
    refine ⟨by omega, _, lsts_at hx, ?_⟩
    refine W0 ?_
    rw [nums_len, wrap_small (by omega) (by omega)]
    refine ⟨fun h => ?_, fun h => ?_⟩
    · exfalso; simp at h; omega
    · refine W0 ?_
      exact ⟨i + 1, hlt, by show l.length - (i + 1) < l.length - i; omega, le_of [] rfl rfl rfl ⟨step_num hlt (by omega), rfl, rfl, rfl, by rw [hf, List.length_append, Int.natCast_add]; rfl, trivial⟩ trivial⟩
  · have hge := of_ge hge
    rw [take_of_all hge]
    refine W0 ?_
    refine ⟨_, _, c262 l.flatten.length hl2, ?_⟩
    refine W0 ?_
    refine loop (fun i : Nat => mkSt [(27, .int .i64 i), (26, .int .i64 l.length), (25, .slice 1 (lsts l)), (6, .ref 0)] [.row 3 1 (nums (l.take i).flatten)]) (fun i => i ≤ l.length) (fun i => l.length - i) 0 (Nat.zero_le _)
      (le_of [0] rfl rfl rfl ⟨rfl, by rw [lsts_len]; rfl, rfl, rfl, trivial⟩ ⟨rfl, trivial⟩) ?_
    clear hi
    intro i hi
    refine W0 ?_
    refine ⟨fun hlt => ?_, fun hge => ?_⟩
    · have hlt := of_lt hlt
      have hx : l[i]? = some l[i] := List.getElem?_eq_getElem hlt
      generalize l[i] = x at hx
      have hf := flat_take hx
      have hle := flat_le (l := l) (i + 1)
      rw [hf, List.length_append] at hle
      refine W0 ?_
      refine ⟨by omega, _, lsts_at hx, ?_⟩
      refine W0 ?_
      refine ⟨by rw [nums_len, nums_len]; show (_ + _) * 8 ≤ _; omega, ?_⟩
      refine W0 ?_
      exact ⟨i + 1, hlt, by show l.length - (i + 1) < l.length - i; omega, le_of [1] rfl rfl rfl ⟨step_num hlt (by omega), rfl, rfl, rfl, trivial⟩ ⟨by rw [hf, nums_apps]; rfl, trivial⟩⟩
    · have hge := of_ge hge
      rw [take_of_all hge]
      refine W0 ?_
      refine fin_frz TT ?_ rfl
      rfl

/-- n numbers from f on. -/
def rng (f n : Nat) : List Int := (List.range n).map fun i => ((f + i : Nat) : Int)
theorem rng_len (f n : Nat) : (rng f n).length = n := by simp [rng]
theorem rng_succ (f n : Nat) : rng f (n + 1) = rng f n ++ [((f + n : Nat) : Int)] := by simp [rng, List.range_succ]
theorem c234 (f n : Nat) (hf : f ≤ 1000000) (hn : n ≤ 1000000) : Con P 234 [] [.int .i64 f, .int .i64 n] (.slice 1 (nums (rng f n))) [] := by
  refine go Tryz.func234 (by rfl) rfl rfl rfl fun hl => ?_
  refine W0 ?_
  refine loop (fun i : Nat => mkSt [(8, .int .i64 i), (7, .int .i64 n), (0, .int .i64 f), (5, .ref 0)] [.row 3 1 (nums (rng f i))]) (fun i => i ≤ n) (fun i => n - i) 0 (Nat.zero_le _)
    (le_of [1] rfl rfl rfl ⟨rfl, rfl, rfl, rfl, trivial⟩ ⟨rfl, trivial⟩) ?_
  intro i hi
  refine W0 ?_
  refine ⟨fun hlt => ?_, fun hge => ?_⟩
  · have hlt := of_lt hlt
    refine W0 ?_
    rw [wrap_small (n := (f : Int) + i) (by omega) (by omega)]
    refine ⟨by rw [nums_len, rng_len]; show (_ + 1) * 8 ≤ _; omega, ?_⟩
    refine W0 ?_
    exact ⟨i + 1, hlt, by show n - (i + 1) < n - i; omega, le_of [2] rfl rfl rfl ⟨step_num hlt (by omega), rfl, rfl, rfl, trivial⟩ ⟨by rw [rng_succ, nums_app, Int.natCast_add]; rfl, trivial⟩⟩
  · have hge := of_ge hge
    have : i = n := by omega
    subst this
    refine W0 ?_
    refine fin_frz TT ?_ rfl
    rfl
theorem c254 (f n : Nat) (hf : f ≤ 1000000) (hn : n ≤ 1000000) : Con P 254 [] [.int .i64 f, .int .i64 n] (.slice 1 (nums (rng f n))) [] := by
  refine go Tryz.func254 (by rfl) rfl rfl rfl fun hl => ?_
  refine W0 ?_
  refine loop (fun i : Nat => mkSt [(6, .int .i64 i), (1, .int .i64 n), (0, .int .i64 f), (5, .ref 0)] [.row 3 1 (nums (rng f i))]) (fun i => i ≤ n) (fun i => n - i) 0 (Nat.zero_le _)
    (le_of [1] rfl rfl rfl ⟨rfl, rfl, rfl, rfl, trivial⟩ ⟨rfl, trivial⟩) ?_
  intro i hi
  refine W0 ?_
  refine ⟨fun hlt => ?_, fun hge => ?_⟩
  · have hlt := of_lt hlt
    refine W0 ?_
    rw [wrap_small (n := (f : Int) + i) (by omega) (by omega)]
    refine ⟨by rw [nums_len, rng_len]; show (_ + 1) * 8 ≤ _; omega, ?_⟩
    refine W0 ?_
    exact ⟨i + 1, hlt, by show n - (i + 1) < n - i; omega, le_of [2] rfl rfl rfl ⟨step_num hlt (by omega), rfl, rfl, rfl, trivial⟩ ⟨by rw [rng_succ, nums_app, Int.natCast_add]; rfl, trivial⟩⟩
  · have hge := of_ge hge
    have : i = n := by omega
    subst this
    refine W0 ?_
    refine fin_frz TT ?_ rfl
    rfl
theorem c74 (g : Graph) (h1 : g.nodes.length ≤ 1000000) (h2 : g.edges.length ≤ 1000000) : Con P 74 [] [g.av] (.agg [.ref 0, .ref 1]) [.row 3 1 (nums g.nodes), .row 133 3 (edgs g.edges)] := by
  refine go Tryz.func74 (by rfl) rfl rfl rfl fun hl => ?_
  refine W0 ?_
  rw [nums_len]
  refine ⟨by show (0 + _) * 8 ≤ _; omega, ?_⟩
  refine W0 ?_
  rw [edgs_len]
  refine ⟨by show (0 + _) * 24 ≤ _; omega, ?_⟩
  refine W0 ?_
  refine ⟨by kernel_rfl, ?_⟩
  refine W0 ?_
  exact le_of [5, 7] rfl rfl rfl ⟨rfl, trivial⟩ ⟨rfl, rfl, trivial⟩
end Go.Av.Z

/- The disjoint union. -/
set_option maxHeartbeats 4000000
namespace Go.Av.Z
open Go.Proofs

/-- An edge, its ends moved on. -/
def shE (n : Nat) (e : Edge) : Edge := ⟨e.type, e.src + n, e.dst + n⟩
/-- The disjoint union. -/
def unG (a b : Graph) : Graph := ⟨a.nodes ++ b.nodes, a.edges ++ b.edges.map (shE a.nodes.length)⟩
/-- The error of a disjoint union. -/
def uerr (a b : Graph) : Int := if gval a ≠ 0 then gval a else if gval b ≠ 0 then gval b else if 40 < a.nodes.length + b.nodes.length ∨ 80 < a.edges.length + b.edges.length then 3 else 0
def un1 (a b : Graph) : Mor := ⟨rng 0 a.nodes.length, rng 0 a.edges.length⟩
def un2 (a b : Graph) : Mor := ⟨rng a.nodes.length b.nodes.length, rng a.edges.length b.edges.length⟩
def Graph.zero : Graph := ⟨[], []⟩
def Mor.zero : Mor := ⟨[], []⟩
/-- What the union hands back. -/
def unR (a b : Graph) : List AV := if uerr a b = 0 then [(unG a b).av, (un1 a b).av, (un2 a b).av, .int .i64 0] else [Graph.zero.av, Mor.zero.av, Mor.zero.av, .int .i64 (uerr a b)]

theorem unR_err {a b : Graph} {e : Int} (h : uerr a b = e) (he : e ≠ 0) : unR a b = [Graph.zero.av, Mor.zero.av, Mor.zero.av, .int .i64 e] := by
  rw [unR, h, if_neg he]
theorem unR_ok {a b : Graph} (h : uerr a b = 0) : unR a b = [(unG a b).av, (un1 a b).av, (un2 a b).av, .int .i64 0] := by
  rw [unR, h, if_pos rfl]
theorem lens_le {m n : Nat} (hm : m ≤ 80) (hn : n ≤ 80) (k : Nat) : decide ((k : Int) < IntKind.i64.wrap ((m : Int) + (n : Int))) = decide (k < m + n) := by
  rw [wrap_small (by omega) (by omega)]
  rw [Bool.eq_iff_iff]; simp; omega
theorem c193 (a b : Graph) : Con P 193 [] [a.av, b.av] (.tuple (unR a b)) [] := by
  refine go Tryz.func193 (by rfl) rfl rfl rfl fun hl => ?_
  refine W0 ?_
  refine loop (fun i : Nat => mkSt [(22, .int .i64 i), (21, .int .i64 2), (20, .ref 11), (2, .bptr 0 0), (3, .bptr 1 0), (4, .bptr 2 0), (5, .bptr 5 0), (6, .bptr 8 0)] [.box 29 a.cs, .box 29 b.cs, .box 29 [.ref 3, .ref 4], .row 3 1 [], .row 133 3 [], .box 36 [.ref 6, .ref 7], .row 3 1 [], .row 3 1 [], .box 36 [.ref 9, .ref 10], .row 3 1 [], .row 3 1 [], .row 29 2 [a.cs, b.cs]]) (fun i => i ≤ 2 ∧ (1 ≤ i → gval a = 0) ∧ (2 ≤ i → gval b = 0)) (fun i => 2 - i) 0 ⟨by omega, by omega, by omega⟩
    (le_of [0, 1, 2, 3, 4, 5, 6, 7, 8, 9, 10, 11] rfl rfl rfl ⟨rfl, rfl, rfl, rfl, rfl, rfl, rfl, rfl, trivial⟩ ⟨rfl, rfl, rfl, rfl, rfl, rfl, rfl, rfl, rfl, rfl, rfl, rfl, trivial⟩) ?_
  rintro i ⟨hi, hl1, hl2⟩
  refine W0 ?_
  refine ⟨fun hlt => ?_, fun hge => ?_⟩
  · have hlt : i < 2 := by simp at hlt; omega
    --(
    rcases (by omega : i = 0 ∨ i = 1) with rfl | rfl
    · refine W0 ?_
      refine ⟨⟨by omega, by simp⟩, ?_⟩
      refine W0 ?_
      refine ⟨rfl, _, rfl, ?_⟩
      refine W0 ?_
      refine ⟨_, _, c45 a, ?_⟩
      refine W0 ?_
      refine ⟨fun h => ?_, fun h => ?_⟩
      · have h : gval a ≠ 0 := by simpa using h
        rw [unR_err (e := gval a) (by rw [uerr, if_pos h]) h]
        refine W0 ?_
        refine fin_frz TT ?_ rfl
        rfl
      · refine W0 ?_
        exact ⟨1, ⟨by omega, fun _ => by simpa using h, by omega⟩, by decide, le_of [0, 1, 2, 3, 4, 5, 6, 7, 8, 9, 10, 11] rfl rfl rfl ⟨rfl, rfl, rfl, rfl, rfl, rfl, rfl, rfl, trivial⟩ ⟨rfl, rfl, rfl, rfl, rfl, rfl, rfl, rfl, rfl, rfl, rfl, rfl, trivial⟩⟩
    · have h1 := hl1 (by omega)
      refine W0 ?_
      refine ⟨⟨by omega, by simp⟩, ?_⟩
      refine W0 ?_
      refine ⟨rfl, _, rfl, ?_⟩
      refine W0 ?_
      refine ⟨_, _, c45 b, ?_⟩
      refine W0 ?_
      refine ⟨fun h => ?_, fun h => ?_⟩
      · have h : gval b ≠ 0 := by simpa using h
        rw [unR_err (e := gval b) (by rw [uerr, if_neg (by simp [h1]), if_pos h]) h]
        refine W0 ?_
        refine fin_frz TT ?_ rfl
        rfl
      · refine W0 ?_
        exact ⟨2, ⟨by omega, fun _ => h1, fun _ => by simpa using h⟩, by decide, le_of [0, 1, 2, 3, 4, 5, 6, 7, 8, 9, 10, 11] rfl rfl rfl ⟨rfl, rfl, rfl, rfl, rfl, rfl, rfl, rfl, trivial⟩ ⟨rfl, rfl, rfl, rfl, rfl, rfl, rfl, rfl, rfl, rfl, rfl, rfl, trivial⟩⟩
    --)
  · have hge : ¬ i < 2 := by simp at hge; omega
    have h1 := hl1 (by omega)
    have h2 := hl2 (by omega)
    have g1 := gval_len h1
    have g2 := gval_len h2
    have e : uerr a b = if 40 < a.nodes.length + b.nodes.length ∨ 80 < a.edges.length + b.edges.length then 3 else 0 := by rw [uerr, if_neg (by simp [h1]), if_neg (by simp [h2])]
    refine W0 ?_
    refine ⟨by kernel_rfl, ?_⟩
    refine W0 ?_
    rw [nums_len, nums_len]
    refine ⟨fun h => ?_, fun h => ?_⟩
    · have h := (lens_le (by omega) (by omega) 40).symm.trans h
      --(
      rw [unR_err (e := 3) (by rw [e, if_pos (.inl (by simpa using h))]) (by decide)]
      refine W0 ?_
      refine fin_frz TT ?_ rfl
      rfl
      --)
    refine W0 ?_
    rw [edgs_len, edgs_len]
    refine ⟨fun h' => ?_, fun h' => ?_⟩
    · have h' := (lens_le (by omega) (by omega) 80).symm.trans h'
      --(
      rw [unR_err (e := 3) (by rw [e, if_pos (.inr (by simpa using h'))]) (by decide)]
      refine W0 ?_
      refine fin_frz TT ?_ rfl
      rfl
      --)
    have h := (lens_le (by omega) (by omega) 40).symm.trans h
    have h' := (lens_le (by omega) (by omega) 80).symm.trans h'
    simp at h h'
    rw [unR_ok (by rw [e, if_neg (by omega)])]
    refine W0 ?_
    refine ⟨_, _, con_frz rfl rfl rfl (c233 [a.nodes, b.nodes] (by simp) (by simp; omega)), ?_⟩
    refine W0 ?_
    refine ⟨_, _, c98 a.edges (by omega), ?_⟩
    refine W0 ?_
    refine ⟨by kernel_rfl, ?_⟩
    refine W0 ?_
    refine loop (fun i : Nat => mkSt [(71, .int .i64 i), (70, .int .i64 b.edges.length), (69, .slice 3 (edgs b.edges)), (13, .bptr 11 0), (12, .int .i64 a.edges.length), (11, .int .i64 a.nodes.length), (2, .bptr 0 0), (3, .bptr 1 0), (4, .bptr 2 0), (5, .bptr 5 0), (6, .bptr 8 0)]
        [.box 29 a.cs, .box 29 b.cs, .box 29 [.ref 3, .ref 4], .row 3 1 [], .row 133 3 [], .box 36 [.ref 6, .ref 7], .row 3 1 [], .row 3 1 [], .box 36 [.ref 9, .ref 10], .row 3 1 [], .row 3 1 [], .box 29 [.slice 1 (nums (a.nodes ++ b.nodes)), .ref 12], .row 133 3 (edgs (a.edges ++ (b.edges.take i).map (shE a.nodes.length)))]) (fun i => i ≤ b.edges.length) (fun i => b.edges.length - i) 0 (Nat.zero_le _)
      (le_of [0, 1, 2, 3, 4, 5, 6, 7, 8, 9, 10, 16, 14] rfl rfl rfl ⟨rfl, by rw [edgs_len]; rfl, rfl, rfl, rfl, rfl, rfl, rfl, rfl, rfl, rfl, trivial⟩ ⟨rfl, rfl, rfl, rfl, rfl, rfl, rfl, rfl, rfl, rfl, rfl, by show Blk.box 29 [.slice 1 (nums [a.nodes, b.nodes].flatten), _] = _; simp; rfl, by simp; rfl, trivial⟩) ?_
    clear hi
    intro i hi
    refine W0 ?_
    refine ⟨fun hlt => ?_, fun hge => ?_⟩
    · have hlt := of_lt hlt
      have hx : b.edges[i]? = some b.edges[i] := List.getElem?_eq_getElem hlt
      generalize b.edges[i] = x at hx
      have hb := gval_edge h2 hx
      refine W0 ?_
      refine ⟨by omega, _, edgs_at hx, ?_⟩
      refine W0 ?_
      rw [wrap_small (n := x.src + a.nodes.length) (by omega) (by omega)]
      refine W0 ?_
      rw [wrap_small (n := x.dst + a.nodes.length) (by omega) (by omega)]
      refine W0 ?_
      refine ⟨by rw [edgs_len]; simp; show _ * 24 ≤ _; omega, ?_⟩
      refine W0 ?_
      exact ⟨i + 1, hlt, by show b.edges.length - (i + 1) < b.edges.length - i; omega, le_of [0, 1, 2, 3, 4, 5, 6, 7, 8, 9, 10, 11, 15] rfl rfl rfl ⟨step_num hlt (by omega), rfl, rfl, rfl, rfl, rfl, rfl, rfl, rfl, rfl, rfl, trivial⟩ ⟨rfl, rfl, rfl, rfl, rfl, rfl, rfl, rfl, rfl, rfl, rfl, rfl, by rw [take_map _ hx, ← List.append_assoc, edgs_app]; rfl, trivial⟩⟩
    · have hge := of_ge hge
      rw [take_of_all hge]
      refine W0 ?_
      refine ⟨_, _, c234 0 a.nodes.length (by omega) (by omega), ?_⟩
      refine W0 ?_
      refine ⟨_, _, c234 0 a.edges.length (by omega) (by omega), ?_⟩
      refine W0 ?_
      rw [nums_len]
      refine ⟨_, _, c234 a.nodes.length b.nodes.length (by omega) (by omega), ?_⟩
      refine W0 ?_
      rw [edgs_len]
      refine ⟨_, _, c234 a.edges.length b.edges.length (by omega) (by omega), ?_⟩
      refine W0 ?_
      refine ⟨by kernel_rfl, ?_⟩
      refine W0 ?_
      refine ⟨by kernel_rfl, ?_⟩
      refine W0 ?_
      refine fin_frz TT ?_ rfl
      rfl
end Go.Av.Z

/- The reference: the disjoint union. -/
set_option maxHeartbeats 4000000
namespace Go.Av.Z
open Go.Proofs

theorem c222 (a b : Graph) : Con P 222 [] [a.av, b.av] (.tuple (unR a b)) [] := by
  refine go Tryz.func222 (by rfl) rfl rfl rfl fun hl => ?_
  refine W0 ?_
  refine ⟨_, _, c36 a, ?_⟩
  refine W0 ?_
  refine ⟨fun h => ?_, fun h => ?_⟩
  · have h : gval a ≠ 0 := by simpa using h
    --(
    rw [unR_err (e := gval a) (by rw [uerr, if_pos h]) h]
    refine W0 ?_
    refine fin_frz TT ?_ rfl
    rfl
    --)
  have h1 : gval a = 0 := by simpa using h
  refine W0 ?_
  refine ⟨_, _, c36 b, ?_⟩
  refine W0 ?_
  refine ⟨fun h => ?_, fun h => ?_⟩
  · have h : gval b ≠ 0 := by simpa using h
    --(
    rw [unR_err (e := gval b) (by rw [uerr, if_neg (by simp [h1]), if_pos h]) h]
    refine W0 ?_
    refine fin_frz TT ?_ rfl
    rfl
    --)
  have h2 : gval b = 0 := by simpa using h
  have g1 := gval_len h1
  have g2 := gval_len h2
  have e : uerr a b = if 40 < a.nodes.length + b.nodes.length ∨ 80 < a.edges.length + b.edges.length then 3 else 0 := by rw [uerr, if_neg (by simp [h1]), if_neg (by simp [h2])]
  refine W0 ?_
  refine ⟨by kernel_rfl, ?_⟩
  refine W0 ?_
  rw [nums_len, nums_len]
  refine ⟨fun h => ?_, fun h => ?_⟩
  · have h := (lens_le (by omega) (by omega) 40).symm.trans h
    --(
    rw [unR_err (e := 3) (by rw [e, if_pos (.inl (by simpa using h))]) (by decide)]
    refine W0 ?_
    refine fin_frz TT ?_ rfl
    rfl
    --)
  refine W0 ?_
  rw [edgs_len, edgs_len]
  refine ⟨fun h' => ?_, fun h' => ?_⟩
  · have h' := (lens_le (by omega) (by omega) 80).symm.trans h'
    --(
    rw [unR_err (e := 3) (by rw [e, if_pos (.inr (by simpa using h'))]) (by decide)]
    refine W0 ?_
    refine fin_frz TT ?_ rfl
    rfl
    --)
  have h := (lens_le (by omega) (by omega) 40).symm.trans h
  have h' := (lens_le (by omega) (by omega) 80).symm.trans h'
  simp at h h'
  rw [unR_ok (by rw [e, if_neg (by omega)])]
  refine W0 ?_
  refine ⟨_, _, c74 a (by omega) (by omega), ?_⟩
  refine W0 ?_
  refine ⟨by rw [nums_len, nums_len]; show _ * 8 ≤ _; omega, ?_⟩
  refine W0 ?_
  refine loop (fun i : Nat => mkSt [(13, .int .i64 i), (12, .bptr 11 0), (11, .int .i64 a.edges.length), (10, .int .i64 a.nodes.length), (2, .bptr 0 0), (3, .bptr 1 0), (4, .bptr 2 0), (5, .bptr 5 0), (6, .bptr 8 0)]
      [.box 29 a.cs, .box 29 b.cs, .box 29 [.ref 3, .ref 4], .row 3 1 [], .row 133 3 [], .box 36 [.ref 6, .ref 7], .row 3 1 [], .row 3 1 [], .box 36 [.ref 9, .ref 10], .row 3 1 [], .row 3 1 [], .box 29 [.ref 12, .ref 13], .row 3 1 (nums (a.nodes ++ b.nodes)), .row 133 3 (edgs (a.edges ++ (b.edges.take i).map (shE a.nodes.length)))]) (fun i => i ≤ b.edges.length) (fun i => b.edges.length - i) 0 (Nat.zero_le _)
    (le_of [0, 1, 2, 3, 4, 5, 6, 7, 8, 9, 10, 16, 19, 14] rfl rfl rfl ⟨rfl, rfl, rfl, rfl, rfl, rfl, rfl, rfl, rfl, trivial⟩ ⟨rfl, rfl, rfl, rfl, rfl, rfl, rfl, rfl, rfl, rfl, rfl, rfl, by rw [nums_apps]; rfl, by simp; rfl, trivial⟩) ?_
  intro i hi
  refine W0 ?_
  rw [edgs_len]
  refine ⟨fun hlt => ?_, fun hge => ?_⟩
  · have hlt := of_lt hlt
    have hx : b.edges[i]? = some b.edges[i] := List.getElem?_eq_getElem hlt
    generalize b.edges[i] = x at hx
    have hb := gval_edge h2 hx
    refine W0 ?_
    refine ⟨by omega, _, edgs_at hx, ?_⟩
    refine W0 ?_
    rw [wrap_small (n := x.src + a.nodes.length) (by omega) (by omega)]
    refine W0 ?_
    rw [wrap_small (n := x.dst + a.nodes.length) (by omega) (by omega)]
    refine W0 ?_
    refine ⟨by rw [edgs_len]; simp; show _ * 24 ≤ _; omega, ?_⟩
    refine W0 ?_
    exact ⟨i + 1, hlt, by show b.edges.length - (i + 1) < b.edges.length - i; omega, le_of [0, 1, 2, 3, 4, 5, 6, 7, 8, 9, 10, 11, 12, 16] rfl rfl rfl ⟨step_num hlt (by omega), rfl, rfl, rfl, rfl, rfl, rfl, rfl, rfl, trivial⟩ ⟨rfl, rfl, rfl, rfl, rfl, rfl, rfl, rfl, rfl, rfl, rfl, rfl, rfl, by rw [take_map _ hx, ← List.append_assoc, edgs_app]; rfl, trivial⟩⟩
  · have hge := of_ge hge
    rw [take_of_all hge]
    refine W0 ?_
    refine ⟨_, _, c254 0 a.nodes.length (by omega) (by omega), ?_⟩
    refine W0 ?_
    refine ⟨_, _, c254 0 a.edges.length (by omega) (by omega), ?_⟩
    refine W0 ?_
    rw [nums_len]
    refine ⟨_, _, c254 a.nodes.length b.nodes.length (by omega) (by omega), ?_⟩
    refine W0 ?_
    rw [edgs_len]
    refine ⟨_, _, c254 a.edges.length b.edges.length (by omega) (by omega), ?_⟩
    refine W0 ?_
    refine ⟨by kernel_rfl, ?_⟩
    refine W0 ?_
    refine fin_frz TT ?_ rfl
    rfl
end Go.Av.Z

/- Spans; pairs of images; images of images. -/
set_option maxHeartbeats 4000000
namespace Go.Av.Z
open Go.Proofs

structure Span where
  a : Graph
  b : Graph
  c : Graph
  f : Mor
  g : Mor
def Span.cs (s : Span) : List AV := [.slice 1 (nums s.a.nodes), .slice 3 (edgs s.a.edges), .slice 1 (nums s.b.nodes), .slice 3 (edgs s.b.edges), .slice 1 (nums s.c.nodes), .slice 3 (edgs s.c.edges), .slice 1 (nums s.f.nodes), .slice 1 (nums s.f.edges), .slice 1 (nums s.g.nodes), .slice 1 (nums s.g.edges)]
def Span.av (s : Span) : AV := .agg s.cs
/-- The error of a span. -/
def spn (s : Span) : Int := if mval s.a s.b s.f ≠ 0 then mval s.a s.b s.f else mval s.a s.c s.g
theorem c138 (s : Span) : Con P 138 [] [s.av] (.int .i64 (spn s)) [] := by
  refine go Tryz.func138 (by rfl) rfl rfl rfl fun hl => ?_
  refine W0 ?_
  refine ⟨_, _, c85 s.a s.b s.f, ?_⟩
  refine W0 ?_
  refine ⟨fun h => ?_, fun h => ?_⟩
  · refine W0 ?_
    refine fin_frz TT ?_ rfl
    rw [spn, if_pos (by simpa using h)]; rfl
  · refine W0 ?_
    refine ⟨_, _, c85 s.a s.c s.g, ?_⟩
    refine W0 ?_
    refine fin_frz TT ?_ rfl
    rw [spn, if_neg (by simpa using h)]; rfl
theorem c221 (s : Span) : Con P 221 [] [s.av] (.int .i64 (spn s)) [] := by
  refine go Tryz.func221 (by rfl) rfl rfl rfl fun hl => ?_
  refine W0 ?_
  refine ⟨_, _, c39 s.a s.b s.f, ?_⟩
  refine W0 ?_
  refine ⟨fun h => ?_, fun h => ?_⟩
  · refine W0 ?_
    refine fin_frz TT ?_ rfl
    rw [spn, if_pos (by simpa using h)]; rfl
  · refine W0 ?_
    refine ⟨_, _, c39 s.a s.c s.g, ?_⟩
    refine W0 ?_
    refine fin_frz TT ?_ rfl
    rw [spn, if_neg (by simpa using h)]; rfl
def przs (l : List (Int × Int)) : List (List AV) := l.map fun p => [.int .i64 p.1, .int .i64 p.2]
theorem przs_len (l : List (Int × Int)) : (przs l).length = l.length := by simp [przs]
theorem przs_at {l : List (Int × Int)} {i : Nat} {p : Int × Int} (h : l[i]? = some p) : (przs l)[i]? = some [.int .i64 p.1, .int .i64 p.2] := by simp [przs, h]
theorem przs_app (l : List (Int × Int)) (p : Int × Int) : przs (l ++ [p]) = przs l ++ [[.int .i64 p.1, .int .i64 p.2]] := by simp [przs]
/-- Pairs of what stands at the same places. -/
def prz (f g : List Int) : List (Int × Int) := f.zip g
theorem zip_take {α β : Type} {f : List α} {g : List β} {i : Nat} {x : α} {y : β} (h1 : f[i]? = some x) (h2 : g[i]? = some y) : (f.take (i + 1)).zip (g.take (i + 1)) = (f.take i).zip (g.take i) ++ [(x, y)] := by
  rw [List.take_add_one, List.take_add_one, h1, h2]
  have e : (f.take i).length = (g.take i).length := by
    have := (List.getElem?_eq_some_iff.1 h1).1
    have := (List.getElem?_eq_some_iff.1 h2).1
    simp; omega
  rw [List.zip_append e]; rfl
theorem prz_take {f g : List Int} {i : Nat} {x y : Int} (h1 : f[i]? = some x) (h2 : g[i]? = some y) : prz (f.take (i + 1)) (g.take (i + 1)) = prz (f.take i) (g.take i) ++ [(x, y)] := zip_take h1 h2
theorem c256 (f g : List Int) (hl : f.length = g.length) (hn : f.length ≤ 1000000) : Con P 256 [] [.slice 1 (nums f), .slice 1 (nums g)] (.slice 2 (przs (prz f g))) [] := by
  refine go Tryz.func256 (by rfl) rfl rfl rfl fun hl => ?_
  refine W0 ?_
  refine loop (fun i : Nat => mkSt [(6, .int .i64 i), (0, .slice 1 (nums f)), (1, .slice 1 (nums g)), (5, .ref 0)] [.row 242 2 (przs (prz (f.take i) (g.take i)))]) (fun i => i ≤ f.length) (fun i => f.length - i) 0 (Nat.zero_le _)
    (le_of [1] rfl rfl rfl ⟨rfl, rfl, rfl, rfl, trivial⟩ ⟨rfl, trivial⟩) ?_
  intro i hi
  refine W0 ?_
  rw [nums_len]
  refine ⟨fun hlt => ?_, fun hge => ?_⟩
  · have hlt := of_lt hlt
    have hx : f[i]? = some f[i] := List.getElem?_eq_getElem hlt
    have hy : g[i]? = some g[i] := List.getElem?_eq_getElem (by omega)
    generalize f[i] = x at hx
    generalize g[i] = y at hy
    refine W0 ?_
    refine ⟨by omega, _, nums_at hx, ?_⟩
    refine W0 ?_
    refine ⟨by omega, _, nums_at hy, ?_⟩
    refine W0 ?_
    refine ⟨by rw [przs_len, prz, List.length_zip, List.length_take]; show (_ + 1) * 16 ≤ _; omega, ?_⟩
    refine W0 ?_
    refine ⟨by kernel_rfl, ?_⟩
    refine W0 ?_
    exact ⟨i + 1, hlt, by show f.length - (i + 1) < f.length - i; omega, le_of [2] rfl rfl rfl ⟨step_num hlt (by omega), rfl, rfl, rfl, trivial⟩ ⟨by rw [prz_take hx hy, przs_app]; rfl, trivial⟩⟩
  · have hge := of_ge hge
    rw [take_of_all hge, take_of_all (by omega)]
    refine W0 ?_
    refine fin_frz TT ?_ rfl
    rfl
theorem c195 (f g left right : List Int) (hl : f.length = g.length) (hn : f.length ≤ 1000000) (hf : ∀ k ∈ f, 0 ≤ k ∧ k < left.length) (hg : ∀ k ∈ g, 0 ≤ k ∧ k < right.length) :
    Con P 195 [] [.slice 1 (nums f), .slice 1 (nums g), .slice 1 (nums left), .slice 1 (nums right)] (.slice 2 (przs (prz (f.map (at0 left)) (g.map (at0 right))))) [] := by
  refine go Tryz.func195 (by rfl) rfl rfl rfl fun hl => ?_
  refine W0 ?_
  refine loop (fun i : Nat => mkSt [(13, .int .i64 i), (12, .int .i64 f.length), (11, .slice 1 (nums f)), (0, .slice 1 (nums f)), (1, .slice 1 (nums g)), (2, .slice 1 (nums left)), (3, .slice 1 (nums right)), (9, .ref 0)] [.row 242 2 (przs (prz ((f.map (at0 left)).take i) ((g.map (at0 right)).take i)))]) (fun i => i ≤ f.length) (fun i => f.length - i) 0 (Nat.zero_le _)
    (le_of [1] rfl rfl rfl ⟨rfl, by rw [nums_len]; rfl, rfl, rfl, rfl, rfl, rfl, rfl, trivial⟩ ⟨rfl, trivial⟩) ?_
  intro i hi
  refine W0 ?_
  refine ⟨fun hlt => ?_, fun hge => ?_⟩
  · have hlt := of_lt hlt
    have hx : f[i]? = some f[i] := List.getElem?_eq_getElem hlt
    have hy : g[i]? = some g[i] := List.getElem?_eq_getElem (by omega)
    generalize f[i] = x at hx
    generalize g[i] = y at hy
    have h1 := hf x (List.mem_of_getElem? hx)
    have h2 := hg y (List.mem_of_getElem? hy)
    have hx' : (f.map (at0 left))[i]? = some (at0 left x) := by rw [List.getElem?_map, hx]; rfl
    have hy' : (g.map (at0 right))[i]? = some (at0 right y) := by rw [List.getElem?_map, hy]; rfl
    refine W0 ?_
    refine ⟨by omega, _, nums_at hx, ?_⟩
    refine W0 ?_
    refine ⟨by omega, _, nums_at (at0_some (by omega)), ?_⟩
    refine W0 ?_
    refine ⟨by omega, _, nums_at hy, ?_⟩
    refine W0 ?_
    refine ⟨by omega, _, nums_at (at0_some (by omega)), ?_⟩
    refine W0 ?_
    refine ⟨by rw [przs_len, prz, List.length_zip, List.length_take, List.length_map]; show (_ + 1) * 16 ≤ _; omega, ?_⟩
    refine W0 ?_
    refine ⟨by kernel_rfl, ?_⟩
    refine W0 ?_
    exact ⟨i + 1, hlt, by show f.length - (i + 1) < f.length - i; omega, le_of [2] rfl rfl rfl ⟨step_num hlt (by omega), rfl, rfl, rfl, rfl, rfl, rfl, rfl, trivial⟩ ⟨by rw [prz_take hx' hy', przs_app]; rfl, trivial⟩⟩
  · have hge := of_ge hge
    rw [take_of_all (by simpa using hge), take_of_all (by rw [List.length_map]; omega)]
    refine W0 ?_
    refine fin_frz TT ?_ rfl
    rfl
theorem nums_make (n : Nat) : chunk 1 n (repl n [.int .i64 0]) = nums (List.replicate n 0) := by
  rw [chunk_ones]
  simp [nums]
theorem nums_set (l : List Int) (k : Nat) (n : Int) : (nums l).set k [.int .i64 n] = nums (l.set k n) := by simp [nums, List.map_set]
theorem fill_set {α : Type} {f : List α} {n i : Nat} {x z : α} (h : f[i]? = some x) (hn : f.length = n) : (f.take i ++ List.replicate (n - i) z).set i x = f.take (i + 1) ++ List.replicate (n - (i + 1)) z := by
  have hi := (List.getElem?_eq_some_iff.1 h).1
  apply List.ext_getElem?
  intro j
  have hl : (f.take i).length = i := by simp; omega
  have hl2 : (f.take (i + 1)).length = i + 1 := by simp; omega
  rw [List.getElem?_set, List.getElem?_append, List.getElem?_append, hl, hl2]
  by_cases hj : i = j
  · subst hj
    rw [if_pos rfl, if_pos (by simp; omega), if_pos (by omega), List.getElem?_take_of_lt (by omega), h]
  · rw [if_neg hj]
    by_cases h2 : j < i
    · rw [if_pos h2, if_pos (by omega), List.getElem?_take_of_lt h2, List.getElem?_take_of_lt (by omega)]
    · rw [if_neg h2, if_neg (by omega), List.getElem?_replicate, List.getElem?_replicate]
      by_cases h3 : j < n
      · rw [if_pos (by omega), if_pos (by omega)]
      · rw [if_neg (by omega), if_neg (by omega)]
theorem c237 (l by_ : List Int) (hn : l.length ≤ 1000000) (h : ∀ k ∈ l, 0 ≤ k ∧ k < by_.length) : Con P 237 [] [.slice 1 (nums l), .slice 1 (nums by_)] (.slice 1 (nums (l.map (at0 by_)))) [] := by
  refine go Tryz.func237 (by rfl) rfl rfl rfl fun hl => ?_
  refine W0 ?_
  rw [nums_len]
  refine ⟨⟨rfl, by omega, by show 8 * _ ≤ _; omega, by show _ ≤ maxLen; unfold maxLen; omega⟩, ?_⟩
  refine W0 ?_
  refine loop (fun i : Nat => mkSt [(13, .int .i64 i), (12, .int .i64 l.length), (11, .slice 1 (nums l)), (1, .slice 1 (nums by_)), (5, .ref 0)] [.row 3 1 (nums ((l.map (at0 by_)).take i ++ List.replicate (l.length - i) 0))]) (fun i => i ≤ l.length) (fun i => l.length - i) 0 (Nat.zero_le _)
    (le_of [1] rfl rfl rfl ⟨rfl, by rw [nums_len]; rfl, rfl, rfl, rfl, trivial⟩ ⟨by show Blk.row 3 1 (chunk 1 (l.length : Int).toNat (repl (l.length : Int).toNat [.int .i64 0])) = _; rw [Int.toNat_natCast, nums_make]; rfl, trivial⟩) ?_
  intro i hi
  refine W0 ?_
  refine ⟨fun hlt => ?_, fun hge => ?_⟩
  · have hlt := of_lt hlt
    have hx : l[i]? = some l[i] := List.getElem?_eq_getElem hlt
    generalize l[i] = k at hx
    have hk := h k (List.mem_of_getElem? hx)
    have hx' : (l.map (at0 by_))[i]? = some (at0 by_ k) := by rw [List.getElem?_map, hx]; rfl
    refine W0 ?_
    refine ⟨by omega, _, nums_at hx, ?_⟩
    refine W0 ?_
    refine ⟨by omega, _, nums_at (at0_some (by omega)), ?_⟩
    refine W0 ?_
    have hlen : (nums ((l.map (at0 by_)).take i ++ List.replicate (l.length - i) 0)).length = l.length := by rw [nums_len]; simp; omega
    refine ⟨⟨by omega, by rw [hlen]; omega⟩, ?_⟩
    refine W0 ?_
    refine ⟨_, nums_at (show ((l.map (at0 by_)).take i ++ List.replicate (l.length - i) 0)[((i : Int)).toNat]? = some 0 by rw [Int.toNat_natCast, List.getElem?_append_right (by simp; omega), List.getElem?_replicate, if_pos (by simp; omega)]), ?_⟩
    refine W0 ?_
    exact ⟨i + 1, hlt, by show l.length - (i + 1) < l.length - i; omega, le_of [0] rfl rfl rfl ⟨step_num hlt (by omega), rfl, rfl, rfl, rfl, trivial⟩ ⟨by
      show Blk.row 3 1 ((nums _).set ((i : Int)).toNat [.int .i64 _]) = _
      rw [nums_set, Int.toNat_natCast, fill_set hx' (by simp)]; rfl, trivial⟩⟩
  · have hge := of_ge hge
    have : i = l.length := by omega
    subst this
    rw [take_of_all (by simp), Nat.sub_self, List.replicate_zero, List.append_nil]
    refine W0 ?_
    refine fin_frz TT ?_ rfl
    rfl
theorem c196 (m n : Mor) (h1 : m.nodes.length ≤ 1000000) (h2 : m.edges.length ≤ 1000000) (h3 : ∀ k ∈ m.nodes, 0 ≤ k ∧ k < n.nodes.length) (h4 : ∀ k ∈ m.edges, 0 ≤ k ∧ k < n.edges.length) : Con P 196 [] [m.av, n.av] (mthen m n).av [] := by
  refine go Tryz.func196 (by rfl) rfl rfl rfl fun hl => ?_
  refine W0 ?_
  refine ⟨_, _, c237 m.nodes n.nodes h1 h3, ?_⟩
  refine W0 ?_
  refine ⟨_, _, c237 m.edges n.edges h2 h4, ?_⟩
  refine W0 ?_
  refine ⟨by kernel_rfl, ?_⟩
  refine W0 ?_
  exact fin_frz TT rfl rfl
end Go.Av.Z

/- Partitions: forests. -/
set_option maxHeartbeats 4000000
namespace Go.Av.Z
open Go.Proofs

/-- The element at a place. -/
def gt (q : List Int) (i : Nat) : Int := q.getD i 0
theorem gt_some {q : List Int} {i : Nat} (h : i < q.length) : q[i]? = some (gt q i) := by simp [gt, List.getD_eq_getElem?_getD, List.getElem?_eq_getElem h]
theorem gt_at0 (q : List Int) (n : Int) : at0 q n = gt q n.toNat := rfl
theorem gt_set {q : List Int} {i j : Nat} {x : Int} (h : i < q.length) : gt (q.set i x) j = if j = i then x else gt q j := by
  unfold gt
  rw [List.getD_eq_getElem?_getD, List.getD_eq_getElem?_getD, List.getElem?_set]
  by_cases hj : i = j
  · subst hj; simp [h]
  · rw [if_neg hj, if_neg (fun e => hj e.symm)]
theorem gt_map {q : List Int} {f : Int → Int} {i : Nat} (h : i < q.length) : gt (q.map f) i = f (gt q i) := by
  simp [gt, List.getD_eq_getElem?_getD, List.getElem?_eq_getElem h]
theorem gt_ext {p q : List Int} (hl : p.length = q.length) (h : ∀ i, i < p.length → gt p i = gt q i) : p = q := by
  apply List.ext_getElem hl
  intro i h1 h2
  have := h i h1
  simpa [gt, List.getD_eq_getElem?_getD, List.getElem?_eq_getElem h1, List.getElem?_eq_getElem h2] using this

/-- q points from element to lesser element; p tells where the way ends. -/
structure Frs (q p : List Int) : Prop where
  len : p.length = q.length
  low : ∀ i, i < q.length → 0 ≤ gt q i
  up : ∀ i, i < q.length → gt q i ≤ i
  fix : ∀ i : Nat, i < q.length → gt q i = i → gt p i = i
  step : ∀ i, i < q.length → gt p i = gt p (gt q i).toNat
/-- p tells for each element the least of its class. -/
structure Ptn (p : List Int) : Prop where
  low : ∀ i, i < p.length → 0 ≤ gt p i
  up : ∀ i, i < p.length → gt p i ≤ i
  idem : ∀ i, i < p.length → gt p (gt p i).toNat = gt p i
theorem Frs.all {q p : List Int} (h : Frs q p) : ∀ i, i < q.length → 0 ≤ gt p i ∧ gt p i ≤ i ∧ gt q (gt p i).toNat = gt p i ∧ gt p (gt p i).toNat = gt p i := by
  intro i
  induction i using Nat.strongRecOn with
  | ind i ih =>
    intro hi
    have h1 := h.low i hi
    have h2 := h.up i hi
    by_cases e : gt q i = i
    · have e2 := h.fix i hi e
      rw [e2]
      refine ⟨by omega, by omega, ?_, ?_⟩ <;> rw [Int.toNat_natCast] <;> assumption
    · have hlt : (gt q i).toNat < i := by omega
      obtain ⟨k1, k2, k3, k4⟩ := ih _ hlt (by omega)
      rw [h.step i hi]
      exact ⟨k1, by omega, k3, k4⟩
theorem Frs.ptn {q p : List Int} (h : Frs q p) : Ptn p where
  low i hi := (h.all i (by rw [← h.len]; exact hi)).1
  up i hi := (h.all i (by rw [← h.len]; exact hi)).2.1
  idem i hi := (h.all i (by rw [← h.len]; exact hi)).2.2.2
theorem Frs.self {p : List Int} (h : Ptn p) : Frs p p where
  len := rfl
  low := h.low
  up := h.up
  fix i hi e := e
  step i hi := (h.idem i hi).symm
/-- Two classes become one. -/
def mrg (p : List Int) (a b : Int) : List Int := p.map fun k => if k = max (at0 p a) (at0 p b) then min (at0 p a) (at0 p b) else k
theorem mrg_len (p : List Int) (a b : Int) : (mrg p a b).length = p.length := by simp [mrg]
theorem Frs.mrg {q p : List Int} (h : Frs q p) {a b : Int} (ha : 0 ≤ a ∧ a < q.length) (hb : 0 ≤ b ∧ b < q.length) : Frs (q.set (max (at0 p a) (at0 p b)).toNat (min (at0 p a) (at0 p b))) (mrg p a b) := by
  obtain ⟨a1, a2, a3, a4⟩ := h.all a.toNat (by omega)
  obtain ⟨b1, b2, b3, b4⟩ := h.all b.toNat (by omega)
  have hp : ∀ i, i < q.length → gt (Z.mrg p a b) i = if gt p i = max (at0 p a) (at0 p b) then min (at0 p a) (at0 p b) else gt p i := fun i hi => by
    unfold Z.mrg
    rw [gt_map (by rw [h.len]; exact hi)]
  rw [gt_at0, gt_at0] at *
  generalize hA : gt p a.toNat = A at *
  generalize hB : gt p b.toNat = B at *
  generalize hH : max A B = H at *
  generalize hL : min A B = L at *
  have hH1 : 0 ≤ H ∧ H < q.length ∧ gt q H.toNat = H ∧ gt p H.toNat = H := by
    rcases Int.le_total A B with hAB | hAB
    · have : H = B := by omega
      subst this; exact ⟨b1, by omega, b3, b4⟩
    · have : H = A := by omega
      subst this; exact ⟨a1, by omega, a3, a4⟩
  have hL1 : 0 ≤ L ∧ L ≤ H ∧ gt q L.toNat = L ∧ gt p L.toNat = L := by
    rcases Int.le_total A B with hAB | hAB
    · have : L = A := by omega
      subst this; exact ⟨a1, by omega, a3, a4⟩
    · have : L = B := by omega
      subst this; exact ⟨b1, by omega, b3, b4⟩
  have hHn : H.toNat < q.length := by omega
  refine ⟨by rw [mrg_len, List.length_set]; exact h.len, ?_, ?_, ?_, ?_⟩ <;> (intro i hi; rw [List.length_set] at hi)
  · rw [gt_set hHn]; split
    · omega
    · exact h.low i hi
  · rw [gt_set hHn]; split
    · omega
    · exact h.up i hi
  · rw [gt_set hHn]
    intro e
    rw [hp i hi]
    split at e
    · rename_i k
      have : gt p i = H := by rw [k]; exact hH1.2.2.2
      rw [if_pos this]; omega
    · rename_i k
      have := h.fix i hi e
      rw [this, if_neg (by omega)]
  · rw [gt_set hHn]
    split
    · rename_i k
      rw [hp i hi, hp L.toNat (by omega), hL1.2.2.2]
      have : gt p i = H := by rw [k]; exact hH1.2.2.2
      rw [if_pos this]
      split <;> omega
    · have h1 := h.up i hi
      have h2 := h.low i hi
      rw [hp i hi, hp (gt q i).toNat (by omega), h.step i hi]
theorem Frs.flat {q p : List Int} (h : Frs q p) {i : Nat} (hi : i < q.length) : Frs (q.set i (gt p i)) p := by
  have ha := h.all i hi
  refine ⟨by rw [List.length_set]; exact h.len, ?_, ?_, ?_, ?_⟩ <;> (intro j hj; rw [List.length_set] at hj; rw [gt_set hi])
  · split
    · exact ha.1
    · exact h.low j hj
  · split
    · rename_i k; subst k; exact ha.2.1
    · exact h.up j hj
  · split
    · rename_i k; subst k; exact id
    · exact h.fix j hj
  · split
    · rename_i k; subst k; exact ha.2.2.2.symm
    · exact h.step j hj

theorem c288 (q p : List Int) (h : Frs q p) (i : Nat) (hi : i < q.length) : Con P 288 [.row 3 1 (nums q)] [.ref 0, .int .i64 i] (.int .i64 (gt p i)) [.row 3 1 (nums q)] := by
  refine go Tryz.func288 (by rfl) rfl rfl rfl fun hl => ?_
  refine W0 ?_
  refine loop (fun j : Nat => mkSt [(0, .ref 0), (1, .int .i64 j)] [.row 3 1 (nums q)]) (fun j => j < q.length ∧ gt p j = gt p i) (fun j => j) i ⟨hi, rfl⟩
    (le_of [0] rfl rfl rfl ⟨rfl, rfl, trivial⟩ ⟨rfl, trivial⟩) ?_
  rintro j ⟨hj, he⟩
  have h1 := h.low j hj
  have h2 := h.up j hj
  have hq : (nums q)[((j : Int)).toNat]? = some [.int .i64 (gt q j)] := by rw [Int.toNat_natCast]; exact nums_at (gt_some hj)
  refine W0 ?_
  refine ⟨⟨by omega, by rw [nums_len]; omega⟩, ?_⟩
  refine W0 ?_
  refine ⟨rfl, _, hq, ?_⟩
  refine W0 ?_
  refine ⟨fun hne => ?_, fun heq => ?_⟩
  · have hne : gt q j ≠ j := by simpa using hne
    refine W0 ?_
    refine ⟨⟨by omega, by rw [nums_len]; omega⟩, ?_⟩
    refine W0 ?_
    refine ⟨rfl, _, hq, ?_⟩
    refine W0 ?_
    exact ⟨(gt q j).toNat, ⟨by omega, by rw [← he]; exact (h.step j hj).symm⟩, by show (gt q j).toNat < j; omega, le_of [0] rfl rfl rfl ⟨rfl, by rw [Int.toNat_of_nonneg h1]; rfl, trivial⟩ ⟨rfl, trivial⟩⟩
  · have heq : gt q j = j := by simpa using heq
    refine W0 ?_
    rw [← he, h.fix j hj heq]
    exact le_of [0] rfl rfl rfl ⟨rfl, trivial⟩ ⟨rfl, trivial⟩
end Go.Av.Z

/- Partitions: the finest one in which pairs are equivalent. -/
set_option maxHeartbeats 4000000
namespace Go.Av.Z
open Go.Proofs

theorem if_max (a b : Int) : (if b > a then b else a) = max a b := by split <;> omega
theorem if_min (a b : Int) : (if b < a then b else a) = min a b := by split <;> omega
theorem c264 (q p : List Int) (h : Frs q p) (a b : Nat) (ha : a < q.length) (hb : b < q.length) : Con P 264 [.row 3 1 (nums q)] [.ref 0, .int .i64 a, .int .i64 b] (.tuple []) [.row 3 1 (nums (q.set (max (gt p a) (gt p b)).toNat (min (gt p a) (gt p b))))] := by
  have ka := h.all a ha
  have kb := h.all b hb
  refine go Tryz.func264 (by rfl) rfl rfl rfl fun hl => ?_
  refine W0 ?_
  refine ⟨_, _, c288 q p h a ha, ?_⟩
  refine W0 ?_
  refine ⟨_, _, c288 q p h b hb, ?_⟩
  refine W0 ?_
  rw [if_max]
  have hM : (max (gt p a) (gt p b)).toNat < q.length := by omega
  refine ⟨⟨by omega, by rw [nums_len]; omega⟩, ?_⟩
  refine W0 ?_
  refine ⟨_, nums_at (gt_some hM), ?_⟩
  refine W0 ?_
  rw [if_min]
  exact le_of [0] rfl rfl rfl ⟨rfl, trivial⟩ ⟨by show Blk.row 3 1 ((nums q).set _ [.int .i64 _]) = _; rw [nums_set]; rfl, trivial⟩
theorem c265 (q p : List Int) (h : Frs q p) (hn : q.length ≤ 1000000) : Con P 265 [.row 3 1 (nums q)] [.ref 0] (.ref 0) [.row 3 1 (nums p)] := by
  refine go Tryz.func265 (by rfl) rfl rfl rfl fun hl => ?_
  refine W0 ?_
  rw [nums_len]
  refine loop (fun x : Nat × List Int => mkSt [(6, .int .i64 x.1), (5, .int .i64 q.length), (0, .ref 0)] [.row 3 1 (nums x.2)]) (fun x => x.1 ≤ q.length ∧ x.2.length = q.length ∧ Frs x.2 p ∧ ∀ j, j < x.1 → gt x.2 j = gt p j) (fun x => q.length - x.1) (0, q) ⟨Nat.zero_le _, rfl, h, fun j hj => absurd hj (Nat.not_lt_zero _)⟩
    (le_of [0] rfl rfl rfl ⟨rfl, rfl, rfl, trivial⟩ ⟨rfl, trivial⟩) ?_
  rintro ⟨i, r⟩ ⟨hi, hr, hf, hd⟩
  have hi : i ≤ q.length := hi
  have hr : r.length = q.length := hr
  have hf : Frs r p := hf
  have hd : ∀ j, j < i → gt r j = gt p j := hd
  refine W0 ?_
  refine ⟨fun hlt => ?_, fun hge => ?_⟩
  · have hlt := of_lt hlt
    have ka := hf.all i (by omega)
    refine W0 ?_
    refine ⟨_, _, c288 r p hf i (by omega), ?_⟩
    refine W0 ?_
    refine ⟨⟨by omega, by rw [nums_len]; omega⟩, ?_⟩
    refine W0 ?_
    refine ⟨_, nums_at (show r[((i : Int)).toNat]? = some (gt r i) by rw [Int.toNat_natCast]; exact gt_some (by omega)), ?_⟩
    refine W0 ?_
    refine ⟨(i + 1, r.set i (gt p i)), ⟨hlt, by simp [hr], hf.flat (by omega), fun j hj => ?_⟩, by show q.length - (i + 1) < q.length - i; omega, le_of [0] rfl rfl rfl ⟨step_num hlt (by omega), rfl, rfl, trivial⟩ ⟨by show Blk.row 3 1 ((nums r).set ((i : Int)).toNat [.int .i64 _]) = _; rw [nums_set, Int.toNat_natCast]; rfl, trivial⟩⟩
    show gt (r.set i (gt p i)) j = gt p j
    have hj : j < i + 1 := hj
    rw [gt_set (by omega)]
    split
    · rename_i e; rw [e]
    · exact hd j (by omega)
  · have hge := of_ge hge
    have e : r = p := gt_ext (by rw [hr, ← h.len]) fun j hj => hd j (by omega)
    rw [e]
    refine W0 ?_
    exact le_of [0] rfl rfl rfl ⟨rfl, trivial⟩ ⟨rfl, trivial⟩
theorem rng_at {f n i : Nat} (h : i < n) : (rng f n)[i]? = some ((f + i : Nat) : Int) := by simp [rng, h]
theorem gt_rng {n i : Nat} (h : i < n) : gt (rng 0 n) i = i := by simp [gt, List.getD_eq_getElem?_getD, rng_at h]
theorem ptn_rng (n : Nat) : Ptn (rng 0 n) where
  low i hi := by rw [rng_len] at hi; rw [gt_rng hi]; omega
  up i hi := by rw [rng_len] at hi; rw [gt_rng hi]; omega
  idem i hi := by rw [rng_len] at hi; rw [gt_rng hi, Int.toNat_natCast, gt_rng hi]
theorem c263 (n : Nat) (hn : n ≤ 1000000) : Con P 263 [] [.int .i64 n] (.ref 0) [.row 3 1 (nums (rng 0 n))] := by
  refine go Tryz.func263 (by rfl) rfl rfl rfl fun hl => ?_
  refine W0 ?_
  refine ⟨⟨rfl, by omega, by show 8 * _ ≤ _; omega, by show _ ≤ maxLen; unfold maxLen; omega⟩, ?_⟩
  refine W0 ?_
  refine loop (fun i : Nat => mkSt [(9, .int .i64 i), (8, .int .i64 n), (3, .ref 0)] [.row 3 1 (nums ((rng 0 n).take i ++ List.replicate (n - i) 0))]) (fun i => i ≤ n) (fun i => n - i) 0 (Nat.zero_le _)
    (le_of [1] rfl rfl rfl ⟨rfl, by show AV.int .i64 ((chunk 1 (n : Int).toNat (repl (n : Int).toNat [.int .i64 0])).length : Nat) = _; rw [Int.toNat_natCast, nums_make, nums_len]; simp; rfl, rfl, trivial⟩ ⟨by show Blk.row 3 1 (chunk 1 (n : Int).toNat (repl (n : Int).toNat [.int .i64 0])) = _; rw [Int.toNat_natCast, nums_make]; rfl, trivial⟩) ?_
  intro i hi
  refine W0 ?_
  refine ⟨fun hlt => ?_, fun hge => ?_⟩
  · have hlt := of_lt hlt
    have hlen : (nums ((rng 0 n).take i ++ List.replicate (n - i) 0)).length = n := by rw [nums_len]; simp [rng_len]; omega
    refine W0 ?_
    refine ⟨⟨by omega, by rw [hlen]; omega⟩, ?_⟩
    refine W0 ?_
    refine ⟨_, nums_at (show ((rng 0 n).take i ++ List.replicate (n - i) 0)[((i : Int)).toNat]? = some 0 by rw [Int.toNat_natCast, List.getElem?_append_right (by simp [rng_len]; omega), List.getElem?_replicate, if_pos (by simp [rng_len]; omega)]), ?_⟩
    refine W0 ?_
    exact ⟨i + 1, hlt, by show n - (i + 1) < n - i; omega, le_of [0] rfl rfl rfl ⟨step_num hlt (by omega), rfl, rfl, trivial⟩ ⟨by
      show Blk.row 3 1 ((nums _).set ((i : Int)).toNat [.int .i64 _]) = _
      rw [nums_set, Int.toNat_natCast, fill_set (x := (i : Int)) (by rw [rng_at hlt, Nat.zero_add]) (rng_len 0 n)]; rfl, trivial⟩⟩
  · have hge := of_ge hge
    have : i = n := by omega
    subst this
    rw [take_of_all (by simp [rng_len]), Nat.sub_self, List.replicate_zero, List.append_nil]
    refine W0 ?_
    exact le_of [0] rfl rfl rfl ⟨rfl, trivial⟩ ⟨rfl, trivial⟩
/-- The finest partition of n elements in which pairs are equivalent. -/
def gen (n : Nat) (l : List (Int × Int)) : List Int := l.foldl (fun p x => mrg p x.1 x.2) (rng 0 n)
theorem gen_len (n : Nat) (l : List (Int × Int)) : (gen n l).length = n := by
  unfold gen
  have : ∀ (l : List (Int × Int)) (p : List Int), (l.foldl (fun p x => mrg p x.1 x.2) p).length = p.length := by
    intro l
    induction l with
    | nil => intro p; rfl
    | cons x r ih => intro p; rw [List.foldl_cons, ih, mrg_len]
  rw [this, rng_len]
theorem gen_take {n : Nat} {l : List (Int × Int)} {i : Nat} {x : Int × Int} (h : l[i]? = some x) : gen n (l.take (i + 1)) = mrg (gen n (l.take i)) x.1 x.2 := by
  unfold gen
  rw [List.take_add_one, h, Option.toList_some, List.foldl_append]; rfl
def inR (n : Nat) (l : List (Int × Int)) : Prop := ∀ x ∈ l, (0 ≤ x.1 ∧ x.1 < n) ∧ (0 ≤ x.2 ∧ x.2 < n)
theorem c235 (n : Nat) (l : List (Int × Int)) (hn : n ≤ 80) (hr : inR n l) (hl2 : l.length ≤ 1000000) : Con P 235 [] [.int .i64 n, .slice 2 (przs l)] (.tuple [.slice 1 (nums (gen n l)), .int .i64 0]) [] := by
  refine go Tryz.func235 (by rfl) rfl rfl rfl fun hl => ?_
  refine W0 ?_
  refine ⟨fun h => absurd h (by simp; omega), fun _ => ?_⟩
  refine W0 ?_
  refine ⟨_, _, c263 n (by omega), ?_⟩
  refine W0 ?_
  rw [przs_len]
  refine loop (fun x : Nat × List Int => mkSt [(17, .int .i64 x.1), (16, .int .i64 l.length), (15, .slice 2 (przs l)), (0, .int .i64 n), (6, .ref 0)] [.row 3 1 (nums x.2)]) (fun x => x.1 ≤ l.length ∧ x.2.length = n ∧ Frs x.2 (gen n (l.take x.1))) (fun x => l.length - x.1) (0, rng 0 n) ⟨Nat.zero_le _, rng_len 0 n, Frs.self (ptn_rng n)⟩
    (le_of [1] rfl rfl rfl ⟨rfl, rfl, rfl, rfl, rfl, trivial⟩ ⟨rfl, trivial⟩) ?_
  rintro ⟨i, q⟩ ⟨hi, hq, hf⟩
  have hi : i ≤ l.length := hi
  have hq : q.length = n := hq
  have hf : Frs q (gen n (l.take i)) := hf
  refine W0 ?_
  refine ⟨fun hlt => ?_, fun hge => ?_⟩
  · have hlt := of_lt hlt
    have hx : l[i]? = some l[i] := List.getElem?_eq_getElem hlt
    generalize l[i] = x at hx
    obtain ⟨x1, x2⟩ := hr x (List.mem_of_getElem? hx)
    obtain ⟨a, ha⟩ := Int.eq_ofNat_of_zero_le x1.1
    obtain ⟨b, hb⟩ := Int.eq_ofNat_of_zero_le x2.1
    have hm := hf.mrg (a := x.1) (b := x.2) (by omega) (by omega)
    rw [← gen_take hx] at hm
    rw [ha, hb] at hm
    refine W0 ?_
    refine ⟨by omega, _, przs_at hx, ?_⟩
    refine W0 ?_
    rw [ha, hb]
    refine ⟨fun h => absurd h (by simp <;> omega), fun _ => ?_⟩
    refine W0 ?_
    refine ⟨fun h => absurd h (by simp <;> omega), fun _ => ?_⟩
    refine W0 ?_
    refine ⟨fun h => absurd h (by simp <;> omega), fun _ => ?_⟩
    refine W0 ?_
    refine ⟨_, _, c264 q (gen n (l.take i)) hf a b (by omega) (by omega), ?_⟩
    refine W0 ?_
    exact ⟨(i + 1, q.set (max (gt (gen n (l.take i)) a) (gt (gen n (l.take i)) b)).toNat (min (gt (gen n (l.take i)) a) (gt (gen n (l.take i)) b))), ⟨hlt, by simp [hq], hm⟩, by show l.length - (i + 1) < l.length - i; omega, le_of [0] rfl rfl rfl ⟨step_num hlt (by omega), rfl, rfl, rfl, rfl, trivial⟩ ⟨rfl, trivial⟩⟩
  · have hge := of_ge hge
    rw [take_of_all hge] at hf
    refine W0 ?_
    refine ⟨_, _, c265 q (gen n l) hf (by omega), ?_⟩
    refine W0 ?_
    refine fin_frz TT ?_ rfl
    rfl
end Go.Av.Z

/- Partitions: the places of classes; the reference's partitions. -/
set_option maxHeartbeats 4000000
namespace Go.Av.Z
open Go.Proofs

theorem c289 (p : List Int) (h : Ptn p) (hn : p.length ≤ 80) : Con P 289 [] [.slice 1 (nums p)] (.bool true) [] := by
  refine go Tryz.func289 (by rfl) rfl rfl rfl fun hl => ?_
  refine W0 ?_
  rw [nums_len]
  refine loop (fun i : Nat => mkSt [(7, .int .i64 i), (6, .int .i64 p.length), (5, .slice 1 (nums p)), (0, .slice 1 (nums p))] []) (fun i => i ≤ p.length) (fun i => p.length - i) 0 (Nat.zero_le _)
    (le_of [] rfl rfl rfl ⟨rfl, rfl, rfl, rfl, trivial⟩ trivial) ?_
  intro i hi
  refine W0 ?_
  refine ⟨fun hlt => ?_, fun hge => ?_⟩
  · have hlt := of_lt hlt
    have h1 := h.low i hlt
    have h2 := h.up i hlt
    have h3 := h.idem i hlt
    have hx := gt_some hlt
    generalize gt p i = x at *
    refine W0 ?_
    refine ⟨by omega, _, nums_at hx, ?_⟩
    refine W0 ?_
    refine ⟨fun h => absurd h (by simp <;> omega), fun _ => ?_⟩
    refine W0 ?_
    refine ⟨fun h => absurd h (by simp <;> omega), fun _ => ?_⟩
    refine W0 ?_
    refine ⟨by omega, _, nums_at (gt_some (by omega)), ?_⟩
    refine W0 ?_
    rw [h3]
    refine ⟨fun h => absurd h (by simp), fun _ => ?_⟩
    refine W0 ?_
    exact ⟨i + 1, hlt, by show p.length - (i + 1) < p.length - i; omega, le_of [] rfl rfl rfl ⟨step_num hlt (by omega), rfl, rfl, rfl, trivial⟩ trivial⟩
  · refine W0 ?_
    refine fin_frz TT ?_ rfl
    rfl
theorem c266 (p : List Int) (h : Ptn p) (hn : p.length ≤ 80) : Con P 266 [] [.slice 1 (nums p)] (.int .i64 0) [] := by
  refine go Tryz.func266 (by rfl) rfl rfl rfl fun hl => ?_
  refine W0 ?_
  rw [nums_len]
  refine ⟨fun h => absurd h (by simp <;> omega), fun _ => ?_⟩
  refine W0 ?_
  refine ⟨_, _, c289 p h hn, ?_⟩
  refine W0 ?_
  refine fin_frz TT ?_ rfl
  rfl
theorem c287 (p : List Int) (h : Ptn p) (hn : p.length ≤ 80) : Con P 287 [] [.slice 1 (nums p)] (.bool true) [] := by
  refine go Tryz.func287 (by rfl) rfl rfl rfl fun hl => ?_
  refine W0 ?_
  rw [nums_len]
  refine ⟨fun h => absurd h (by simp <;> omega), fun _ => ?_⟩
  refine W0 ?_
  refine loop (fun i : Nat => mkSt [(3, .int .i64 i), (0, .slice 1 (nums p))] []) (fun i => i ≤ p.length) (fun i => p.length - i) 0 (Nat.zero_le _)
    (le_of [] rfl rfl rfl ⟨rfl, rfl, trivial⟩ trivial) ?_
  intro i hi
  refine W0 ?_
  rw [nums_len]
  refine ⟨fun hlt => ?_, fun hge => ?_⟩
  · have hlt := of_lt hlt
    have h1 := h.low i hlt
    have h2 := h.up i hlt
    have h3 := h.idem i hlt
    have hx := gt_some hlt
    generalize gt p i = x at *
    refine W0 ?_
    refine ⟨by omega, _, nums_at hx, ?_⟩
    refine W0 ?_
    refine ⟨fun h => absurd h (by simp <;> omega), fun _ => ?_⟩
    refine W0 ?_
    refine ⟨by omega, _, nums_at hx, ?_⟩
    refine W0 ?_
    refine ⟨fun h => absurd h (by simp <;> omega), fun _ => ?_⟩
    refine W0 ?_
    refine ⟨by omega, _, nums_at hx, ?_⟩
    refine W0 ?_
    refine ⟨by omega, _, nums_at (gt_some (by omega)), ?_⟩
    refine W0 ?_
    refine ⟨by omega, _, nums_at hx, ?_⟩
    refine W0 ?_
    refine ⟨by kernel_rfl, ?_⟩
    refine W0 ?_
    rw [h3]
    refine ⟨fun h => absurd h (by simp), fun _ => ?_⟩
    refine W0 ?_
    exact ⟨i + 1, hlt, by show p.length - (i + 1) < p.length - i; omega, le_of [] rfl rfl rfl ⟨step_num hlt (by omega), rfl, trivial⟩ trivial⟩
  · refine W0 ?_
    refine fin_frz TT ?_ rfl
    rfl
theorem c261 (p : List Int) (h : Ptn p) (hn : p.length ≤ 80) : Con P 261 [] [.slice 1 (nums p)] (.int .i64 0) [] := by
  refine go Tryz.func261 (by rfl) rfl rfl rfl fun hl => ?_
  refine W0 ?_
  rw [nums_len]
  refine ⟨fun h => absurd h (by simp <;> omega), fun _ => ?_⟩
  refine W0 ?_
  refine ⟨_, _, c287 p h hn, ?_⟩
  refine W0 ?_
  refine fin_frz TT ?_ rfl
  rfl
/-- The places of the first i elements' classes, and how many classes there are. -/
def qst (p : List Int) : Nat → List Int × Nat
  | 0 => ([], 0)
  | i + 1 => if gt p i = i then ((qst p i).1 ++ [((qst p i).2 : Int)], (qst p i).2 + 1) else ((qst p i).1 ++ [gt (qst p i).1 (gt p i).toNat], (qst p i).2)
theorem qst_len (p : List Int) : ∀ i, (qst p i).1.length = i
  | 0 => rfl
  | i + 1 => by rw [qst]; split <;> simp [qst_len p i]
theorem qst_le (p : List Int) : ∀ i, (qst p i).2 ≤ i
  | 0 => Nat.le_refl _
  | i + 1 => by have := qst_le p i; rw [qst]; split <;> simp <;> omega
def qn (p : List Int) : List Int := (qst p p.length).1
def qc (p : List Int) : Nat := (qst p p.length).2
theorem c236 (p : List Int) (h : Ptn p) (hn : p.length ≤ 80) : Con P 236 [] [.slice 1 (nums p)] (.tuple [.slice 1 (nums (qn p)), .int .i64 (qc p), .int .i64 0]) [] := by
  refine go Tryz.func236 (by rfl) rfl rfl rfl fun hl => ?_
  refine W0 ?_
  refine ⟨_, _, c266 p h hn, ?_⟩
  refine W0 ?_
  rw [nums_len]
  refine loop (fun i : Nat => mkSt [(17, .int .i64 i), (16, .int .i64 p.length), (15, .slice 1 (nums p)), (6, .ref 0), (7, .int .i64 (qst p i).2)] [.row 3 1 (nums (qst p i).1)]) (fun i => i ≤ p.length) (fun i => p.length - i) 0 (Nat.zero_le _)
    (le_of [2] rfl rfl rfl ⟨rfl, rfl, rfl, rfl, rfl, trivial⟩ ⟨rfl, trivial⟩) ?_
  intro i hi
  have hql := qst_len p i
  have hqc := qst_le p i
  refine W0 ?_
  refine ⟨fun hlt => ?_, fun hge => ?_⟩
  · have hlt := of_lt hlt
    have h1 := h.low i hlt
    have h2 := h.up i hlt
    have hx := gt_some hlt
    have e : qst p (i + 1) = if gt p i = i then ((qst p i).1 ++ [((qst p i).2 : Int)], (qst p i).2 + 1) else ((qst p i).1 ++ [gt (qst p i).1 (gt p i).toNat], (qst p i).2) := rfl
    generalize gt p i = x at *
    refine W0 ?_
    refine ⟨by omega, _, nums_at hx, ?_⟩
    refine W0 ?_
    refine ⟨fun k => ?_, fun k => ?_⟩
    · have k : x = i := by simpa using k
      rw [if_pos k] at e
      refine W0 ?_
      refine ⟨by rw [nums_len, hql]; show (_ + 1) * 8 ≤ _; omega, ?_⟩
      refine W0 ?_
      exact ⟨i + 1, hlt, by show p.length - (i + 1) < p.length - i; omega, le_of [2] rfl rfl rfl ⟨step_num hlt (by omega), rfl, rfl, rfl, by rw [e]; exact step_num (n := 100) (by omega) (by omega), trivial⟩ ⟨by rw [e, nums_app]; rfl, trivial⟩⟩
    · have k : x ≠ i := by simpa using k
      rw [if_neg k] at e
      refine W0 ?_
      refine ⟨⟨by omega, by rw [nums_len, hql]; omega⟩, ?_⟩
      refine W0 ?_
      refine ⟨rfl, _, nums_at (gt_some (by omega)), ?_⟩
      refine W0 ?_
      refine ⟨by rw [nums_len, hql]; show (_ + 1) * 8 ≤ _; omega, ?_⟩
      refine W0 ?_
      exact ⟨i + 1, hlt, by show p.length - (i + 1) < p.length - i; omega, le_of [2] rfl rfl rfl ⟨step_num hlt (by omega), rfl, rfl, rfl, by rw [e]; rfl, trivial⟩ ⟨by rw [e, nums_app]; rfl, trivial⟩⟩
  · have hge := of_ge hge
    have : i = p.length := by omega
    subst this
    refine W0 ?_
    refine fin_frz TT ?_ rfl
    rfl
end Go.Av.Z

/- The reference: partitions. -/
set_option maxHeartbeats 4000000
namespace Go.Av.Z
open Go.Proofs

theorem c232 (p : List Int) (h : Ptn p) (hn : p.length ≤ 80) : Con P 232 [] [.slice 1 (nums p)] (.tuple [.slice 1 (nums (qn p)), .int .i64 (qc p), .int .i64 0]) [] := by
  refine go Tryz.func232 (by rfl) rfl rfl rfl fun hl => ?_
  refine W0 ?_
  refine ⟨_, _, c261 p h hn, ?_⟩
  refine W0 ?_
  refine loop (fun i : Nat => mkSt [(8, .int .i64 i), (0, .slice 1 (nums p)), (6, .ref 0), (7, .int .i64 (qst p i).2)] [.row 3 1 (nums (qst p i).1)]) (fun i => i ≤ p.length) (fun i => p.length - i) 0 (Nat.zero_le _)
    (le_of [2] rfl rfl rfl ⟨rfl, rfl, rfl, rfl, trivial⟩ ⟨rfl, trivial⟩) ?_
  intro i hi
  have hql := qst_len p i
  have hqc := qst_le p i
  refine W0 ?_
  rw [nums_len]
  refine ⟨fun hlt => ?_, fun hge => ?_⟩
  · have hlt := of_lt hlt
    have h1 := h.low i hlt
    have h2 := h.up i hlt
    have hx := gt_some hlt
    have e : qst p (i + 1) = if gt p i = i then ((qst p i).1 ++ [((qst p i).2 : Int)], (qst p i).2 + 1) else ((qst p i).1 ++ [gt (qst p i).1 (gt p i).toNat], (qst p i).2) := rfl
    generalize gt p i = x at *
    refine W0 ?_
    refine ⟨by omega, _, nums_at hx, ?_⟩
    refine W0 ?_
    refine ⟨fun k => ?_, fun k => ?_⟩
    · have k : x = i := by simpa using k
      rw [if_pos k] at e
      refine W0 ?_
      refine ⟨by rw [nums_len, hql]; show (_ + 1) * 8 ≤ _; omega, ?_⟩
      refine W0 ?_
      exact ⟨i + 1, hlt, by show p.length - (i + 1) < p.length - i; omega, le_of [2] rfl rfl rfl ⟨step_num hlt (by omega), rfl, rfl, by rw [e]; exact step_num (n := 100) (by omega) (by omega), trivial⟩ ⟨by rw [e, nums_app]; rfl, trivial⟩⟩
    · have k : x ≠ i := by simpa using k
      rw [if_neg k] at e
      refine W0 ?_
      refine ⟨by omega, _, nums_at hx, ?_⟩
      refine W0 ?_
      refine ⟨⟨by omega, by rw [nums_len, hql]; omega⟩, ?_⟩
      refine W0 ?_
      refine ⟨rfl, _, nums_at (gt_some (by omega)), ?_⟩
      refine W0 ?_
      refine ⟨by rw [nums_len, hql]; show (_ + 1) * 8 ≤ _; omega, ?_⟩
      refine W0 ?_
      exact ⟨i + 1, hlt, by show p.length - (i + 1) < p.length - i; omega, le_of [2] rfl rfl rfl ⟨step_num hlt (by omega), rfl, rfl, by rw [e]; rfl, trivial⟩ ⟨by rw [e, nums_app]; rfl, trivial⟩⟩
  · have hge := of_ge hge
    have : i = p.length := by omega
    subst this
    refine W0 ?_
    refine fin_frz TT ?_ rfl
    rfl
theorem rng0_succ (n : Nat) : rng 0 (n + 1) = rng 0 n ++ [(n : Int)] := by rw [rng_succ, Nat.zero_add]
theorem c110 (n : Nat) (hn : n ≤ 1000000) : Con P 110 [] [.int .i64 n] (.slice 1 (nums (rng 0 n))) [] := by
  refine go Tryz.func110 (by rfl) rfl rfl rfl fun hl => ?_
  refine W0 ?_
  refine loop (fun i : Nat => mkSt [(4, .int .i64 i), (0, .int .i64 n), (3, .ref 0)] [.row 3 1 (nums (rng 0 i))]) (fun i => i ≤ n) (fun i => n - i) 0 (Nat.zero_le _)
    (le_of [1] rfl rfl rfl ⟨rfl, rfl, rfl, trivial⟩ ⟨rfl, trivial⟩) ?_
  intro i hi
  refine W0 ?_
  refine ⟨fun hlt => ?_, fun hge => ?_⟩
  · have hlt := of_lt hlt
    refine W0 ?_
    refine ⟨by rw [nums_len, rng_len]; show (_ + 1) * 8 ≤ _; omega, ?_⟩
    refine W0 ?_
    exact ⟨i + 1, hlt, by show n - (i + 1) < n - i; omega, le_of [2] rfl rfl rfl ⟨step_num hlt (by omega), rfl, rfl, trivial⟩ ⟨by rw [rng0_succ, nums_app]; rfl, trivial⟩⟩
  · have hge := of_ge hge
    have : i = n := by omega
    subst this
    refine W0 ?_
    refine fin_frz TT ?_ rfl
    rfl
theorem c231 (p : List Int) (a b : Nat) (ha : a < p.length) (hb : b < p.length) (hn : p.length ≤ 1000000) : Con P 231 [] [.slice 1 (nums p), .int .i64 a, .int .i64 b] (.slice 1 (nums (mrg p a b))) [] := by
  have hx := gt_some ha
  have hy := gt_some hb
  have e : mrg p a b = p.map fun k => if k = max (gt p a) (gt p b) then min (gt p a) (gt p b) else k := rfl
  rw [e]
  generalize gt p a = x at *
  generalize gt p b = y at *
  refine go Tryz.func231 (by rfl) rfl rfl rfl fun hl => ?_
  refine W0 ?_
  refine ⟨by omega, _, nums_at hx, ?_⟩
  refine W0 ?_
  refine ⟨by omega, _, nums_at hy, ?_⟩
  refine W0 ?_
  refine ⟨by omega, _, nums_at hx, ?_⟩
  refine W0 ?_
  refine ⟨by omega, _, nums_at hy, ?_⟩
  refine W0 ?_
  refine ⟨by kernel_rfl, ?_⟩
  refine W0 ?_
  refine loop (fun i : Nat => mkSt [(10, .int .i64 i), (0, .slice 1 (nums p)), (7, .int .i64 (min x y)), (8, .int .i64 (max x y)), (9, .ref 0)] [.row 3 1 (nums ((p.take i).map fun k => if k = max x y then min x y else k))]) (fun i => i ≤ p.length) (fun i => p.length - i) 0 (Nat.zero_le _)
    (le_of [1] rfl rfl rfl ⟨rfl, rfl, by rw [← if_min]; rfl, by rw [← if_max]; rfl, rfl, trivial⟩ ⟨rfl, trivial⟩) ?_
  intro i hi
  refine W0 ?_
  rw [nums_len]
  refine ⟨fun hlt => ?_, fun hge => ?_⟩
  · have hlt := of_lt hlt
    have hz := gt_some hlt
    generalize gt p i = z at *
    refine W0 ?_
    refine ⟨by omega, _, nums_at hz, ?_⟩
    refine W0 ?_
    refine ⟨fun k => ?_, fun k => ?_⟩
    · have k : z = max x y := by simpa using k
      refine W0 ?_
      refine ⟨by rw [nums_len, List.length_map, List.length_take]; show (_ + 1) * 8 ≤ _; omega, ?_⟩
      refine W0 ?_
      exact ⟨i + 1, hlt, by show p.length - (i + 1) < p.length - i; omega, le_of [2] rfl rfl rfl ⟨step_num hlt (by omega), rfl, rfl, rfl, rfl, trivial⟩ ⟨by rw [take_map _ hz, nums_app, if_pos k]; rfl, trivial⟩⟩
    · have k : z ≠ max x y := by simpa using k
      refine W0 ?_
      refine ⟨by rw [nums_len, List.length_map, List.length_take]; show (_ + 1) * 8 ≤ _; omega, ?_⟩
      refine W0 ?_
      exact ⟨i + 1, hlt, by show p.length - (i + 1) < p.length - i; omega, le_of [2] rfl rfl rfl ⟨step_num hlt (by omega), rfl, rfl, rfl, rfl, trivial⟩ ⟨by rw [take_map _ hz, nums_app, if_neg k]; rfl, trivial⟩⟩
  · have hge := of_ge hge
    rw [take_of_all hge]
    refine W0 ?_
    refine fin_frz TT ?_ rfl
    rfl
theorem c255 (n : Nat) (l : List (Int × Int)) (hn : n ≤ 80) (hr : inR n l) (hl2 : l.length ≤ 1000000) : Con P 255 [] [.int .i64 n, .slice 2 (przs l)] (.tuple [.slice 1 (nums (gen n l)), .int .i64 0]) [] := by
  refine go Tryz.func255 (by rfl) rfl rfl rfl fun hl => ?_
  refine W0 ?_
  refine ⟨fun h => absurd h (by simp; omega), fun _ => ?_⟩
  refine W0 ?_
  refine loop (fun i : Nat => mkSt [(6, .int .i64 i), (0, .int .i64 n), (1, .slice 2 (przs l))] []) (fun i => i ≤ l.length) (fun i => l.length - i) 0 (Nat.zero_le _)
    (le_of [] rfl rfl rfl ⟨rfl, rfl, rfl, trivial⟩ trivial) ?_
  intro i hi
  refine W0 ?_
  rw [przs_len]
  refine ⟨fun hlt => ?_, fun hge => ?_⟩
  · have hlt := of_lt hlt
    have hx : l[i]? = some l[i] := List.getElem?_eq_getElem hlt
    generalize l[i] = x at hx
    obtain ⟨x1, x2⟩ := hr x (List.mem_of_getElem? hx)
    refine W0 ?_
    refine ⟨by omega, _, przs_at hx, ?_⟩
    refine W0 ?_
    refine ⟨fun h => absurd h (by simp <;> omega), fun _ => ?_⟩
    refine W0 ?_
    refine ⟨by omega, _, przs_at hx, ?_⟩
    refine W0 ?_
    refine ⟨fun h => absurd h (by simp <;> omega), fun _ => ?_⟩
    refine W0 ?_
    refine ⟨by omega, _, przs_at hx, ?_⟩
    refine W0 ?_
    refine ⟨fun h => absurd h (by simp <;> omega), fun _ => ?_⟩
    refine W0 ?_
    refine ⟨by omega, _, przs_at hx, ?_⟩
    refine W0 ?_
    refine ⟨fun h => absurd h (by simp <;> omega), fun _ => ?_⟩
    refine W0 ?_
    exact ⟨i + 1, hlt, by show l.length - (i + 1) < l.length - i; omega, le_of [] rfl rfl rfl ⟨step_num hlt (by omega), rfl, rfl, trivial⟩ trivial⟩
  · refine W0 ?_
    refine ⟨_, _, c110 n (by omega), ?_⟩
    refine W0 ?_
    refine loop (fun i : Nat => mkSt [(8, .int .i64 i), (1, .slice 2 (przs l)), (7, .slice 1 (nums (gen n (l.take i))))] []) (fun i => i ≤ l.length) (fun i => l.length - i) 0 (Nat.zero_le _)
      (le_of [] rfl rfl rfl ⟨rfl, rfl, rfl, trivial⟩ trivial) ?_
    clear hi hge
    intro i hi
    refine W0 ?_
    rw [przs_len]
    refine ⟨fun hlt => ?_, fun hge => ?_⟩
    · have hlt := of_lt hlt
      have hx : l[i]? = some l[i] := List.getElem?_eq_getElem hlt
      generalize l[i] = x at hx
      obtain ⟨x1, x2⟩ := hr x (List.mem_of_getElem? hx)
      obtain ⟨a, ha⟩ := Int.eq_ofNat_of_zero_le x1.1
      obtain ⟨b, hb⟩ := Int.eq_ofNat_of_zero_le x2.1
      have hg := gen_take (n := n) hx
      have hlen := gen_len n (l.take i)
      rw [ha, hb] at hg
      have hat : (przs l)[i]? = some [.int .i64 a, .int .i64 b] := by rw [przs_at hx, ha, hb]
      refine W0 ?_
      refine ⟨by omega, _, hat, ?_⟩
      refine W0 ?_
      refine ⟨by omega, _, hat, ?_⟩
      refine W0 ?_
      refine ⟨_, _, c231 (gen n (l.take i)) a b (by omega) (by omega) (by omega), ?_⟩
      refine W0 ?_
      refine ⟨by kernel_rfl, ?_⟩
      refine W0 ?_
      exact ⟨i + 1, hlt, by show l.length - (i + 1) < l.length - i; omega, le_of [] rfl rfl rfl ⟨step_num hlt (by omega), rfl, by rw [hg]; rfl, trivial⟩ trivial⟩
    · have hge := of_ge hge
      rw [take_of_all hge]
      refine W0 ?_
      refine fin_frz TT ?_ rfl
      rfl
end Go.Av.Z

/- Quotients of graphs. -/
set_option maxHeartbeats 4000000
namespace Go.Av.Z
open Go.Proofs

/-- The nodes of the classes that begin among the first i elements. -/
def quoN (l : List Int) (p : List Int) : Nat → List Int
  | 0 => []
  | i + 1 => if gt p i = i then quoN l p i ++ [gt l i] else quoN l p i
def mapE (q : List Int) (e : Edge) : Edge := ⟨e.type, at0 q e.src, at0 q e.dst⟩
/-- The edges of the classes that begin among the first i elements. -/
def quoE (l : List Edge) (q p : List Int) : Nat → List Edge
  | 0 => []
  | i + 1 => if gt p i = i then quoE l q p i ++ [mapE q (atE l i)] else quoE l q p i
theorem quoN_len (l p : List Int) : ∀ i, (quoN l p i).length ≤ i
  | 0 => Nat.le_refl _
  | i + 1 => by have := quoN_len l p i; rw [quoN]; split <;> simp <;> omega
theorem quoE_len (l : List Edge) (q p : List Int) : ∀ i, (quoE l q p i).length ≤ i
  | 0 => Nat.le_refl _
  | i + 1 => by have := quoE_len l q p i; rw [quoE]; split <;> simp <;> omega
/-- The graph of the classes; where nodes and edges go. -/
def quoG (g : Graph) (p r : List Int) : Graph := ⟨quoN g.nodes p p.length, quoE g.edges (qn p) r r.length⟩
def quoM (p r : List Int) : Mor := ⟨qn p, qn r⟩
theorem gen_ptn {n : Nat} : ∀ {l : List (Int × Int)}, inR n l → Ptn (gen n l) := by
  intro l
  unfold gen
  have : ∀ (l : List (Int × Int)) (p : List Int), Ptn p → p.length = n → inR n l → Ptn (l.foldl (fun p x => mrg p x.1 x.2) p) := by
    intro l
    induction l with
    | nil => intro p hp _ _; exact hp
    | cons x r ih =>
      intro p hp hl hr
      rw [List.foldl_cons]
      have hx := hr x (List.mem_cons_self ..)
      exact ih _ ((Frs.self hp).mrg (by omega) (by omega)).ptn (by rw [mrg_len]; exact hl) fun y hy => hr y (List.mem_cons_of_mem _ hy)
  exact fun hr => this l _ (ptn_rng n) (rng_len 0 n) hr

theorem qn_len (p : List Int) : (qn p).length = p.length := qst_len p _
theorem c194 (g : Graph) (n m : List (Int × Int)) (hg : gval g = 0) (hn : inR g.nodes.length n) (hm : inR g.edges.length m) (hn2 : n.length ≤ 1000000) (hm2 : m.length ≤ 1000000) :
    Con P 194 [] [g.av, .slice 2 (przs n), .slice 2 (przs m)] (.tuple [(quoG g (gen g.nodes.length n) (gen g.edges.length m)).av, (quoM (gen g.nodes.length n) (gen g.edges.length m)).av, .int .i64 0]) [] := by
  have hl := gval_len hg
  have hp1 := gen_ptn hn
  have hr1 := gen_ptn hm
  have hp2 := gen_len g.nodes.length n
  have hr2 := gen_len g.edges.length m
  have k1 := c235 g.nodes.length n (by omega) hn hn2
  have k2 := c235 g.edges.length m (by omega) hm hm2
  generalize gen g.nodes.length n = p at *
  generalize gen g.edges.length m = r at *
  refine go Tryz.func194 (by rfl) rfl rfl rfl fun hl => ?_
  refine W0 ?_
  rw [nums_len]
  refine ⟨_, _, k1, ?_⟩
  refine W0 ?_
  rw [edgs_len]
  refine ⟨_, _, k2, ?_⟩
  refine W0 ?_
  refine ⟨_, _, c236 p hp1 (by omega), ?_⟩
  refine W0 ?_
  refine ⟨_, _, c236 r hr1 (by omega), ?_⟩
  refine W0 ?_
  rw [nums_len]
  refine loop (fun i : Nat => mkSt [(64, .int .i64 i), (63, .int .i64 p.length), (62, .slice 1 (nums p)), (11, .slice 1 (nums r)), (3, .bptr 0 0), (6, .bptr 1 0), (7, .bptr 4 0), (18, .bptr 7 0), (12, .slice 1 (nums (qn p))), (15, .slice 1 (nums (qn r)))] [.box 29 g.cs, .box 29 [.ref 2, .ref 3], .row 3 1 [], .row 133 3 [], .box 36 [.ref 5, .ref 6], .row 3 1 [], .row 3 1 [], .box 29 [.ref 8, .ref 9], .row 3 1 (nums (quoN g.nodes p i)), .row 133 3 []]) (fun i => i ≤ p.length) (fun i => p.length - i) 0 (Nat.zero_le _)
    (le_of [0, 1, 2, 3, 4, 5, 6, 11, 12, 13] rfl rfl rfl ⟨rfl, rfl, rfl, rfl, rfl, rfl, rfl, rfl, rfl, rfl, trivial⟩ ⟨rfl, rfl, rfl, rfl, rfl, rfl, rfl, rfl, rfl, rfl, trivial⟩) ?_
  intro i hi
  have hql := quoN_len g.nodes p i
  refine W0 ?_
  refine ⟨fun hlt => ?_, fun hge => ?_⟩
  · have hlt := of_lt hlt
    have hx := gt_some hlt
    have e : quoN g.nodes p (i + 1) = if gt p i = i then quoN g.nodes p i ++ [gt g.nodes i] else quoN g.nodes p i := rfl
    generalize gt p i = x at *
    refine W0 ?_
    refine ⟨by omega, _, nums_at hx, ?_⟩
    refine W0 ?_
    refine ⟨fun k => ?_, fun k => ?_⟩
    · have k : x = i := by simpa using k
      rw [if_pos k] at e
      refine W0 ?_
      refine ⟨by omega, _, nums_at (gt_some (by omega)), ?_⟩
      refine W0 ?_
      refine ⟨by rw [nums_len]; show (_ + 1) * 8 ≤ _; omega, ?_⟩
      refine W0 ?_
      refine ⟨by kernel_rfl, ?_⟩
      refine W0 ?_
      exact ⟨i + 1, hlt, by show p.length - (i + 1) < p.length - i; omega, le_of [0, 1, 2, 3, 4, 5, 6, 7, 11, 9] rfl rfl rfl ⟨step_num hlt (by omega), rfl, rfl, rfl, rfl, rfl, rfl, rfl, rfl, rfl, trivial⟩ ⟨rfl, rfl, rfl, rfl, rfl, rfl, rfl, rfl, by rw [e, nums_app]; rfl, rfl, trivial⟩⟩
    · have k : x ≠ i := by simpa using k
      rw [if_neg k] at e
      refine W0 ?_
      exact ⟨i + 1, hlt, by show p.length - (i + 1) < p.length - i; omega, le_of [0, 1, 2, 3, 4, 5, 6, 7, 8, 9] rfl rfl rfl ⟨step_num hlt (by omega), rfl, rfl, rfl, rfl, rfl, rfl, rfl, rfl, rfl, trivial⟩ ⟨rfl, rfl, rfl, rfl, rfl, rfl, rfl, rfl, by rw [e]; rfl, rfl, trivial⟩⟩
  · have hge := of_ge hge
    have : i = p.length := by omega
    subst this
    refine W0 ?_
    rw [nums_len]
    refine loop (fun i : Nat => mkSt [(85, .int .i64 i), (84, .int .i64 r.length), (83, .slice 1 (nums r)), (3, .bptr 0 0), (6, .bptr 1 0), (7, .bptr 4 0), (18, .bptr 7 0), (12, .slice 1 (nums (qn p))), (15, .slice 1 (nums (qn r)))] [.box 29 g.cs, .box 29 [.ref 2, .ref 3], .row 3 1 [], .row 133 3 [], .box 36 [.ref 5, .ref 6], .row 3 1 [], .row 3 1 [], .box 29 [.ref 8, .ref 9], .row 3 1 (nums (quoN g.nodes p p.length)), .row 133 3 (edgs (quoE g.edges (qn p) r i))]) (fun i => i ≤ r.length) (fun i => r.length - i) 0 (Nat.zero_le _)
      (le_of [0, 1, 2, 3, 4, 5, 6, 7, 8, 9] rfl rfl rfl ⟨rfl, rfl, rfl, rfl, rfl, rfl, rfl, rfl, rfl, trivial⟩ ⟨rfl, rfl, rfl, rfl, rfl, rfl, rfl, rfl, rfl, rfl, trivial⟩) ?_
    clear hi hge hql
    intro i hi
    have hql := quoE_len g.edges (qn p) r i
    have hqn := qn_len p
    refine W0 ?_
    refine ⟨fun hlt => ?_, fun hge => ?_⟩
    · have hlt := of_lt hlt
      have hx := gt_some hlt
      have e : quoE g.edges (qn p) r (i + 1) = if gt r i = i then quoE g.edges (qn p) r i ++ [mapE (qn p) (atE g.edges i)] else quoE g.edges (qn p) r i := rfl
      have hy := atE_some (l := g.edges) (n := (i : Int)) (by omega)
      have hb := gval_edge hg hy
      generalize atE g.edges (i : Int) = y at *
      generalize gt r i = x at *
      refine W0 ?_
      refine ⟨by omega, _, nums_at hx, ?_⟩
      refine W0 ?_
      refine ⟨fun k => ?_, fun k => ?_⟩
      · have k : x = i := by simpa using k
        rw [if_pos k] at e
        refine W0 ?_
        refine ⟨by omega, _, edgs_at hy, ?_⟩
        refine W0 ?_
        refine ⟨by omega, _, nums_at (at0_some (by omega)), ?_⟩
        refine W0 ?_
        refine ⟨by omega, _, nums_at (at0_some (by omega)), ?_⟩
        refine W0 ?_
        refine ⟨by rw [edgs_len]; show (_ + 1) * 24 ≤ _; omega, ?_⟩
        refine W0 ?_
        refine ⟨by kernel_rfl, ?_⟩
        refine W0 ?_
        exact ⟨i + 1, hlt, by show r.length - (i + 1) < r.length - i; omega, le_of [0, 1, 2, 3, 4, 5, 6, 7, 8, 12] rfl rfl rfl ⟨step_num hlt (by omega), rfl, rfl, rfl, rfl, rfl, rfl, rfl, rfl, trivial⟩ ⟨rfl, rfl, rfl, rfl, rfl, rfl, rfl, rfl, rfl, by rw [e, edgs_app]; rfl, trivial⟩⟩
      · have k : x ≠ i := by simpa using k
        rw [if_neg k] at e
        refine W0 ?_
        exact ⟨i + 1, hlt, by show r.length - (i + 1) < r.length - i; omega, le_of [0, 1, 2, 3, 4, 5, 6, 7, 8, 9] rfl rfl rfl ⟨step_num hlt (by omega), rfl, rfl, rfl, rfl, rfl, rfl, rfl, rfl, trivial⟩ ⟨rfl, rfl, rfl, rfl, rfl, rfl, rfl, rfl, rfl, by rw [e]; rfl, trivial⟩⟩
    · have hge := of_ge hge
      have : i = r.length := by omega
      subst this
      refine W0 ?_
      refine fin_frz TT ?_ rfl
      rfl
end Go.Av.Z

/- The reference: quotients of graphs. -/
set_option maxHeartbeats 4000000
namespace Go.Av.Z
open Go.Proofs

/-- What stands at the beginnings of classes. -/
def quo {α : Type} (f : Nat → α) (p : List Int) : Nat → List α
  | 0 => []
  | i + 1 => if gt p i = i then quo f p i ++ [f i] else quo f p i
theorem quoN_quo (l p : List Int) : ∀ i, quoN l p i = quo (gt l) p i
  | 0 => rfl
  | i + 1 => by rw [quoN, quo, quoN_quo l p i]
theorem quoE_quo (l : List Edge) (q p : List Int) : ∀ i, quoE l q p i = quo (fun i => mapE q (atE l (i : Nat))) p i
  | 0 => rfl
  | i + 1 => by rw [quoE, quo, quoE_quo l q p i]
theorem quo_len {α : Type} (f : Nat → α) (p : List Int) : ∀ i, (quo f p i).length = (qst p i).2
  | 0 => rfl
  | i + 1 => by
    rw [quo, qst]
    split
    · rw [List.length_append, quo_len f p i]; rfl
    · rw [quo_len f p i]
theorem qst_step (p : List Int) (i : Nat) : (qst p i).2 ≤ (qst p (i + 1)).2 := by
  rw [qst]; split <;> simp
theorem qst_mono (p : List Int) {i n : Nat} (h : i ≤ n) : (qst p i).2 ≤ (qst p n).2 := by
  induction n with
  | zero => have : i = 0 := by omega
            subst this; exact Nat.le_refl _
  | succ n ih =>
    by_cases e : i = n + 1
    · subst e; exact Nat.le_refl _
    · exact Nat.le_trans (ih (by omega)) (qst_step p n)
theorem gt_app {a b : List Int} {j : Nat} (h : j < a.length) : gt (a ++ b) j = gt a j := by
  simp [gt, List.getD_eq_getElem?_getD, List.getElem?_append_left h]
theorem gt_last (a : List Int) (x : Int) : gt (a ++ [x]) a.length = x := by
  simp [gt, List.getD_eq_getElem?_getD]
theorem qst_pre (p : List Int) {i n j : Nat} (h : i ≤ n) (hj : j < i) : gt (qst p n).1 j = gt (qst p i).1 j := by
  induction n with
  | zero => omega
  | succ n ih =>
    by_cases e : i = n + 1
    · subst e; rfl
    · have hl := qst_len p n
      rw [← ih (by omega), qst]
      split <;> exact gt_app (by omega)
theorem qn_rep {p : List Int} {i : Nat} (hi : i < p.length) (h : gt p i = i) : gt (qn p) i = (qst p i).2 := by
  have hl := qst_len p i
  rw [qn, qst_pre p (i := i + 1) (by omega) (by omega), qst, if_pos h]
  have := gt_last (qst p i).1 ((qst p i).2 : Int)
  rwa [hl] at this
theorem qn_cls {p : List Int} (hp : Ptn p) {i : Nat} (hi : i < p.length) : gt (qn p) i = gt (qn p) (gt p i).toNat := by
  by_cases h : gt p i = i
  · rw [h]; rfl
  · have hl := qst_len p i
    have h1 := hp.low i hi
    have h2 := hp.up i hi
    have e1 : gt (qn p) i = gt (qst p i).1 (gt p i).toNat := by
      rw [qn, qst_pre p (i := i + 1) (by omega) (by omega), qst, if_neg h]
      have := gt_last (qst p i).1 (gt (qst p i).1 (gt p i).toNat)
      rwa [hl] at this
    rw [e1]
    exact (qst_pre p (i := i) (n := p.length) (by omega) (by omega)).symm
theorem quo_at {α : Type} (f : Nat → α) {p : List Int} (hp : Ptn p) : ∀ i, i ≤ p.length → ∀ j, j < i → 0 ≤ gt (qn p) j ∧ gt (qn p) j < (qst p i).2 ∧ (quo f p i)[(gt (qn p) j).toNat]? = some (f (gt p j).toNat)
  | 0, _, j, hj => by omega
  | i + 1, hi, j, hj => by
    have hlen := quo_len f p i
    have hst := qst_step p i
    by_cases e : j < i
    · obtain ⟨k1, k2, k3⟩ := quo_at f hp i (by omega) j e
      refine ⟨k1, by omega, ?_⟩
      rw [quo]
      split
      · rw [List.getElem?_append_left (by omega)]; exact k3
      · exact k3
    · have : j = i := by omega
      subst this
      have h1 := hp.low j (by omega)
      have h2 := hp.up j (by omega)
      by_cases k : gt p j = j
      · rw [qn_rep (by omega) k, quo, if_pos k, qst, if_pos k, k, Int.toNat_natCast, Int.toNat_natCast]
        refine ⟨by omega, by simp; omega, ?_⟩
        rw [List.getElem?_append_right (by omega), hlen, Nat.sub_self]; rfl
      · rw [qn_cls hp (by omega)]
        obtain ⟨k1, k2, k3⟩ := quo_at f hp j (by omega) (gt p j).toNat (by omega)
        rw [hp.idem j (by omega)] at k3
        refine ⟨k1, by omega, ?_⟩
        rw [quo, if_neg k]
        exact k3
theorem quo_set {α : Type} (f : Nat → α) (z : α) {p : List Int} (hp : Ptn p) {i : Nat} (hi : i < p.length) (hf : f (gt p i).toNat = f i) :
    (quo f p i ++ List.replicate (qc p - (qst p i).2) z).set (gt (qn p) i).toNat (f i) = quo f p (i + 1) ++ List.replicate (qc p - (qst p (i + 1)).2) z := by
  have hlen := quo_len f p i
  have hm := qst_mono p (i := i + 1) (n := p.length) (by omega)
  by_cases k : gt p i = i
  · have e2 : (qst p (i + 1)).2 = (qst p i).2 + 1 := by rw [qst, if_pos k]
    rw [qn_rep hi k, Int.toNat_natCast, e2, quo, if_pos k]
    have hc : (qst p i).2 + 1 ≤ qc p := by unfold qc; omega
    obtain ⟨d, hd⟩ : ∃ d, qc p - (qst p i).2 = d + 1 := ⟨qc p - (qst p i).2 - 1, by omega⟩
    rw [hd, show qc p - ((qst p i).2 + 1) = d by omega, List.replicate_succ, ← hlen, List.set_append_right _ _ (Nat.le_refl _), Nat.sub_self, List.set_cons_zero, List.append_assoc]
    rfl
  · have e2 : (qst p (i + 1)).2 = (qst p i).2 := by rw [qst, if_neg k]
    rw [e2, quo, if_neg k]
    have h1 := hp.low i hi
    have h2 := hp.up i hi
    obtain ⟨k1, k2, k3⟩ := quo_at f hp i (by omega) (gt p i).toNat (by omega)
    rw [← qn_cls hp hi, hp.idem i hi, hf] at k3
    rw [← qn_cls hp hi] at k1 k2
    rw [List.set_append_left _ _ (by omega)]
    congr 1
    apply List.ext_getElem?
    intro j
    rw [List.getElem?_set]
    by_cases e : (gt (qn p) i).toNat = j
    · subst e; rw [if_pos rfl, k3, if_pos (by omega)]
    · rw [if_neg e]
theorem qn_lt {p : List Int} (hp : Ptn p) {i : Nat} (hi : i < p.length) : 0 ≤ gt (qn p) i ∧ gt (qn p) i < qc p := by
  obtain ⟨k1, k2, _⟩ := quo_at (fun _ => ()) hp p.length (Nat.le_refl _) i hi
  exact ⟨k1, k2⟩
theorem chunk_threes : ∀ (n : Nat) (a b c : AV), chunk 3 n (repl n [a, b, c]) = List.replicate n [a, b, c]
  | 0, a, b, c => rfl
  | n + 1, a, b, c => by
    have e : repl (n + 1) [a, b, c] = a :: b :: c :: repl n [a, b, c] := by simp [repl, List.replicate_succ]
    rw [e]
    simp [chunk, chunk_threes n a b c, List.replicate_succ]
theorem edgs_make (n : Nat) : chunk 3 n (repl n [.int .i64 0, .int .i64 0, .int .i64 0]) = edgs (List.replicate n ⟨0, 0, 0⟩) := by
  rw [chunk_threes]
  simp [edgs, Edge.el]
theorem edgs_set (l : List Edge) (k : Nat) (e : Edge) : (edgs l).set k e.el = edgs (l.set k e) := by simp [edgs, List.map_set]
theorem c257 (g : Graph) (p r : List Int) (hg : gval g = 0) (hp1 : Ptn p) (hr1 : Ptn r) (hp2 : p.length = g.nodes.length) (hr2 : r.length = g.edges.length)
    (hn : ∀ i, i < p.length → gt g.nodes (gt p i).toNat = gt g.nodes i) (he : ∀ i, i < r.length → mapE (qn p) (atE g.edges ((gt r i).toNat : Nat)) = mapE (qn p) (atE g.edges (i : Nat))) :
    Con P 257 [] [g.av, .slice 1 (nums p), .slice 1 (nums r)] (.tuple [(quoG g p r).av, (quoM p r).av]) [] := by
  have hl := gval_len hg
  have hqp := qst_le p p.length
  have hqr := qst_le r r.length
  have hqp : qc p ≤ p.length := hqp
  have hqr : qc r ≤ r.length := hqr
  refine go Tryz.func257 (by rfl) rfl rfl rfl fun hl => ?_
  refine W0 ?_
  refine ⟨_, _, c232 p hp1 (by omega), ?_⟩
  refine W0 ?_
  refine ⟨_, _, c232 r hr1 (by omega), ?_⟩
  refine W0 ?_
  refine ⟨⟨rfl, by omega, by show 8 * _ ≤ _; omega, by show _ ≤ maxLen; unfold maxLen; omega⟩, ?_⟩
  refine W0 ?_
  refine ⟨⟨rfl, by omega, by show 24 * _ ≤ _; omega, by show _ ≤ maxLen; unfold maxLen; omega⟩, ?_⟩
  refine W0 ?_
  refine ⟨by kernel_rfl, ?_⟩
  refine W0 ?_
  refine loop (fun i : Nat => mkSt [(15, .int .i64 i), (3, .bptr 0 0), (6, .bptr 1 0), (7, .bptr 4 0), (14, .bptr 7 0), (8, .slice 1 (nums (qn p))), (11, .slice 1 (nums (qn r)))] [.box 29 g.cs, .box 29 [.ref 2, .ref 3], .row 3 1 [], .row 133 3 [], .box 36 [.ref 5, .ref 6], .row 3 1 [], .row 3 1 [], .box 29 [.ref 8, .ref 9], .row 3 1 (nums ((quo (gt g.nodes) p i) ++ List.replicate (qc p - (qst p i).2) 0)), .row 133 3 (edgs (List.replicate (qc r) ⟨0, 0, 0⟩))]) (fun i => i ≤ g.nodes.length) (fun i => g.nodes.length - i) 0 (Nat.zero_le _)
    (le_of [0, 1, 2, 3, 4, 5, 6, 11, 9, 10] rfl rfl rfl ⟨rfl, rfl, rfl, rfl, rfl, rfl, rfl, trivial⟩ ⟨rfl, rfl, rfl, rfl, rfl, rfl, rfl, rfl, by show Blk.row 3 1 (chunk 1 ((qc p : Nat) : Int).toNat (repl ((qc p : Nat) : Int).toNat [.int .i64 0])) = _; rw [Int.toNat_natCast, nums_make]; rfl, by show Blk.row 133 3 (chunk 3 ((qc r : Nat) : Int).toNat (repl ((qc r : Nat) : Int).toNat [.int .i64 0, .int .i64 0, .int .i64 0])) = _; rw [Int.toNat_natCast, edgs_make]; rfl, trivial⟩) ?_
  intro i hi
  refine W0 ?_
  rw [nums_len]
  refine ⟨fun hlt => ?_, fun hge => ?_⟩
  · have hlt := of_lt hlt
    have hq := qn_lt hp1 (i := i) (by omega)
    have hx := gt_some (q := qn p) (i := i) (by rw [qn_len]; omega)
    have hy := gt_some (q := g.nodes) hlt
    have hset := quo_set (gt g.nodes) 0 hp1 (i := i) (by omega) (hn i (by omega))
    have hm := qst_mono p (i := i) (n := p.length) (by omega)
    have hlen : (nums ((quo (gt g.nodes) p i) ++ List.replicate (qc p - (qst p i).2) 0)).length = qc p := by
      rw [nums_len, List.length_append, quo_len, List.length_replicate]; unfold qc; omega
    generalize gt (qn p) i = q at *
    generalize gt g.nodes i = y at *
    refine W0 ?_
    refine ⟨by omega, _, nums_at hx, ?_⟩
    refine W0 ?_
    refine ⟨by omega, _, nums_at hy, ?_⟩
    refine W0 ?_
    refine ⟨⟨by omega, by rw [hlen]; omega⟩, ?_⟩
    refine W0 ?_
    refine ⟨_, nums_at (gt_some (by rw [nums_len] at hlen; omega)), ?_⟩
    refine W0 ?_
    refine ⟨by kernel_rfl, ?_⟩
    refine W0 ?_
    exact ⟨i + 1, hlt, by show g.nodes.length - (i + 1) < g.nodes.length - i; omega, le_of [0, 1, 2, 3, 4, 5, 6, 7, 8, 9] rfl rfl rfl ⟨step_num hlt (by omega), rfl, rfl, rfl, rfl, rfl, rfl, trivial⟩ ⟨rfl, rfl, rfl, rfl, rfl, rfl, rfl, rfl, by show Blk.row 3 1 ((nums _).set q.toNat [.int .i64 y]) = _; rw [nums_set, hset]; rfl, rfl, trivial⟩⟩
  · have hge := of_ge hge
    have : i = g.nodes.length := by omega
    subst this
    have h0 : ((quo (fun i => mapE (qn p) (atE g.edges (i : Nat))) r 0) ++ List.replicate (qc r - (qst r 0).2) ⟨0, 0, 0⟩) = List.replicate (qc r) ⟨0, 0, 0⟩ := by simp [quo, qst]
    refine W0 ?_
    refine loop (fun i : Nat => mkSt [(16, .int .i64 i), (3, .bptr 0 0), (6, .bptr 1 0), (7, .bptr 4 0), (14, .bptr 7 0), (8, .slice 1 (nums (qn p))), (11, .slice 1 (nums (qn r)))] [.box 29 g.cs, .box 29 [.ref 2, .ref 3], .row 3 1 [], .row 133 3 [], .box 36 [.ref 5, .ref 6], .row 3 1 [], .row 3 1 [], .box 29 [.ref 8, .ref 9], .row 3 1 (nums (quoN g.nodes p p.length)), .row 133 3 (edgs ((quo (fun i => mapE (qn p) (atE g.edges (i : Nat))) r i) ++ List.replicate (qc r - (qst r i).2) ⟨0, 0, 0⟩))]) (fun i => i ≤ g.edges.length) (fun i => g.edges.length - i) 0 (Nat.zero_le _)
      (le_of [0, 1, 2, 3, 4, 5, 6, 7, 8, 9] rfl rfl rfl ⟨rfl, rfl, rfl, rfl, rfl, rfl, rfl, trivial⟩ ⟨rfl, rfl, rfl, rfl, rfl, rfl, rfl, rfl, by rw [quoN_quo, hp2, show qc p - (qst p g.nodes.length).2 = 0 by rw [← hp2]; exact Nat.sub_self _, List.replicate_zero, List.append_nil]; rfl, by rw [h0]; rfl, trivial⟩) ?_
    clear hi hge
    intro i hi
    refine W0 ?_
    rw [edgs_len]
    refine ⟨fun hlt => ?_, fun hge => ?_⟩
    · have hlt := of_lt hlt
      have hq := qn_lt hr1 (i := i) (by omega)
      have hx := gt_some (q := qn r) (i := i) (by rw [qn_len]; omega)
      have hy := atE_some (l := g.edges) (n := (i : Int)) (by omega)
      have hb := gval_edge hg hy
      have hset : ((quo (fun i => mapE (qn p) (atE g.edges (i : Nat))) r i) ++ List.replicate (qc r - (qst r i).2) (⟨0, 0, 0⟩ : Edge)).set (gt (qn r) i).toNat (mapE (qn p) (atE g.edges (i : Nat))) = _ := quo_set (fun i => mapE (qn p) (atE g.edges (i : Nat))) ⟨0, 0, 0⟩ hr1 (i := i) (by omega) (he i (by omega))
      have hm := qst_mono r (i := i) (n := r.length) (by omega)
      have hqn := qn_len p
      have hlen : ((quo (fun i => mapE (qn p) (atE g.edges (i : Nat))) r i) ++ List.replicate (qc r - (qst r i).2) (⟨0, 0, 0⟩ : Edge)).length = qc r := by
        rw [List.length_append, quo_len, List.length_replicate]; unfold qc; omega
      generalize gt (qn r) i = q at *
      generalize ((quo (fun i => mapE (qn p) (atE g.edges (i : Nat))) r i) ++ List.replicate (qc r - (qst r i).2) (⟨0, 0, 0⟩ : Edge)) = L at *
      generalize atE g.edges (i : Int) = y at *
      have hL : L[q.toNat]? = some (L[q.toNat]'(by omega)) := List.getElem?_eq_getElem (by omega)
      refine W0 ?_
      refine ⟨by omega, _, nums_at hx, ?_⟩
      refine W0 ?_
      refine ⟨by omega, _, edgs_at hy, ?_⟩
      refine W0 ?_
      refine ⟨by omega, _, edgs_at hy, ?_⟩
      refine W0 ?_
      refine ⟨by omega, _, nums_at (at0_some (by omega)), ?_⟩
      refine W0 ?_
      refine ⟨by omega, _, edgs_at hy, ?_⟩
      refine W0 ?_
      refine ⟨by omega, _, nums_at (at0_some (by omega)), ?_⟩
      refine W0 ?_
      refine ⟨⟨by omega, by rw [edgs_len]; omega⟩, ?_⟩
      refine W0 ?_
      refine ⟨_, edgs_at hL, ?_⟩
      refine W0 ?_
      refine ⟨by kernel_rfl, ?_⟩
      refine W0 ?_
      exact ⟨i + 1, hlt, by show g.edges.length - (i + 1) < g.edges.length - i; omega, le_of [0, 1, 2, 3, 4, 5, 6, 7, 8, 9] rfl rfl rfl ⟨step_num hlt (by omega), rfl, rfl, rfl, rfl, rfl, rfl, trivial⟩ ⟨rfl, rfl, rfl, rfl, rfl, rfl, rfl, rfl, rfl, by show Blk.row 133 3 ((edgs L).set q.toNat (mapE (qn p) y).el) = _; rw [edgs_set, hset]; rfl, trivial⟩⟩
    · have hge := of_ge hge
      have : i = g.edges.length := by omega
      subst this
      rw [← hr2, show qc r - (qst r r.length).2 = 0 from Nat.sub_self _, List.replicate_zero, List.append_nil, ← quoE_quo]
      refine W0 ?_
      refine fin_frz TT ?_ rfl
      rfl
end Go.Av.Z

/- The plain law of pushouts. -/
namespace Go.Av.Z

/-- What the elements of equivalent places have in common, they have in common with the least of their class. -/
theorem mrg_resp {β : Type} (f : Nat → β) {p : List Int} {a b : Int} (hp : Ptn p) (ha : 0 ≤ a ∧ a < p.length) (hb : 0 ≤ b ∧ b < p.length) (h : ∀ i, i < p.length → f (gt p i).toNat = f i) (hab : f a.toNat = f b.toNat) : ∀ i, i < p.length → f (gt (mrg p a b) i).toNat = f i := by
  intro i hi
  unfold mrg
  rw [gt_map hi, gt_at0, gt_at0]
  have h1 := h i hi
  have h2 := h a.toNat (by omega)
  have h3 := h b.toNat (by omega)
  split
  · rename_i k
    rcases Int.le_total (gt p a.toNat) (gt p b.toNat) with hl | hl
    · rw [Int.max_eq_right hl] at k
      rw [Int.min_eq_left hl, h2, hab, ← h3, ← k, h1]
    · rw [Int.max_eq_left hl] at k
      rw [Int.min_eq_right hl, h3, ← hab, ← h2, ← k, h1]
  · exact h1
theorem gen_resp {β : Type} (f : Nat → β) {n : Nat} {l : List (Int × Int)} (hr : inR n l) (hf : ∀ x ∈ l, f x.1.toNat = f x.2.toNat) : ∀ i, i < n → f (gt (gen n l) i).toNat = f i := by
  unfold gen
  have : ∀ (l : List (Int × Int)) (p : List Int), Ptn p → p.length = n → inR n l → (∀ x ∈ l, f x.1.toNat = f x.2.toNat) → (∀ i, i < n → f (gt p i).toNat = f i) → ∀ i, i < n → f (gt (l.foldl (fun p x => mrg p x.1 x.2) p) i).toNat = f i := by
    intro l
    induction l with
    | nil => intro p _ _ _ _ h; exact h
    | cons x r ih =>
      intro p hp hl hr hf h
      rw [List.foldl_cons]
      have hx := hr x (List.mem_cons_self ..)
      refine ih _ ((Frs.self hp).mrg (by omega) (by omega)).ptn (by rw [mrg_len]; exact hl) (fun y hy => hr y (List.mem_cons_of_mem _ hy)) (fun y hy => hf y (List.mem_cons_of_mem _ hy)) ?_
      intro i hi
      exact mrg_resp f hp (by omega) (by omega) (fun i hi => h i (by omega)) (hf x (List.mem_cons_self ..)) i (by omega)
  exact this l _ (ptn_rng n) (rng_len 0 n) hr hf fun i hi => by rw [gt_rng hi]; rfl
theorem mrg_keep {p : List Int} {a b : Int} {i j : Nat} (hi : i < p.length) (hj : j < p.length) (h : gt p i = gt p j) : gt (mrg p a b) i = gt (mrg p a b) j := by
  unfold mrg
  rw [gt_map hi, gt_map hj, h]
theorem mrg_pair {p : List Int} {a b : Int} (ha : 0 ≤ a ∧ a < p.length) (hb : 0 ≤ b ∧ b < p.length) : gt (mrg p a b) a.toNat = gt (mrg p a b) b.toNat := by
  unfold mrg
  rw [gt_map (by omega), gt_map (by omega), gt_at0, gt_at0]
  rcases Int.le_total (gt p a.toNat) (gt p b.toNat) with hl | hl
  · rw [Int.max_eq_right hl, Int.min_eq_left hl, if_pos rfl]
    split <;> rfl
  · rw [Int.max_eq_left hl, Int.min_eq_right hl, if_pos rfl]
    split <;> rfl
theorem gen_pair {n : Nat} {l : List (Int × Int)} (hr : inR n l) {x : Int × Int} (hx : x ∈ l) : gt (gen n l) x.1.toNat = gt (gen n l) x.2.toNat := by
  unfold gen
  have hk : ∀ (l : List (Int × Int)) (p : List Int) (i j : Nat), i < p.length → j < p.length → gt p i = gt p j → gt (l.foldl (fun p x => mrg p x.1 x.2) p) i = gt (l.foldl (fun p x => mrg p x.1 x.2) p) j := by
    intro l
    induction l with
    | nil => intro p i j _ _ h; exact h
    | cons y r ih =>
      intro p i j hi hj h
      rw [List.foldl_cons]
      exact ih _ i j (by rw [mrg_len]; exact hi) (by rw [mrg_len]; exact hj) (mrg_keep hi hj h)
  have : ∀ (l : List (Int × Int)) (p : List Int), p.length = n → inR n l → x ∈ l → gt (l.foldl (fun p x => mrg p x.1 x.2) p) x.1.toNat = gt (l.foldl (fun p x => mrg p x.1 x.2) p) x.2.toNat := by
    intro l
    induction l with
    | nil => intro p _ _ h; cases h
    | cons y r ih =>
      intro p hl hr hx
      rw [List.foldl_cons]
      rcases List.mem_cons.1 hx with rfl | hx
      · have hy := hr x (List.mem_cons_self ..)
        exact hk r _ _ _ (by rw [mrg_len]; omega) (by rw [mrg_len]; omega) (mrg_pair (by omega) (by omega))
      · exact ih _ (by rw [mrg_len]; exact hl) (fun y hy => hr y (List.mem_cons_of_mem _ hy)) hx
  exact this l _ (rng_len 0 n) hr hx

theorem at0_rng {f n : Nat} {k : Int} (h0 : 0 ≤ k) (h1 : k < n) : at0 (rng f n) k = f + k := by
  obtain ⟨m, rfl⟩ := Int.eq_ofNat_of_zero_le h0
  have : m < n := by omega
  rw [gt_at0, gt, List.getD_eq_getElem?_getD, Int.toNat_natCast, rng_at this]
  simp
theorem gt_mem {l : List Int} {i : Nat} (h : i < l.length) : gt l i ∈ l := List.mem_of_getElem? (gt_some h)
/-- Of a valid morphism: types stay. -/
theorem mval_nt {a b : Graph} {m : Mor} (h : mval a b m = 0) {j : Nat} (hj : j < a.nodes.length) : gt b.nodes (gt m.nodes j).toNat = gt a.nodes j := by
  have hl := (mval_ok h).2.2.1
  have := errs_off (mval_ok h).2.2.2.2.1 j _ (gt_some (by omega))
  rw [Nat.zero_add, mnode] at this
  split at this
  · cases this
  · split at this
    · cases this
    · rename_i k; exact Classical.not_not.1 k
theorem mval_et {a b : Graph} {m : Mor} (h : mval a b m = 0) {j : Nat} (hj : j < a.edges.length) :
    (atE a.edges j).type = (atE b.edges (gt m.edges j)).type ∧ at0 m.nodes (atE a.edges j).src = (atE b.edges (gt m.edges j)).src ∧ at0 m.nodes (atE a.edges j).dst = (atE b.edges (gt m.edges j)).dst := by
  have hl := (mval_ok h).2.2.2.1
  have := errs_off (mval_ok h).2.2.2.2.2 j _ (gt_some (by omega))
  rw [Nat.zero_add, medge] at this
  split at this
  · cases this
  · split at this
    · cases this
    · split at this
      · cases this
      · refine ⟨by omega, by omega, by omega⟩
/-- Pairs of images in the disjoint union. -/
def pairsU (n k : Nat) (f g : List Int) : List (Int × Int) := prz (f.map (at0 (rng 0 n))) (g.map (at0 (rng n k)))
theorem pairsU_mem {n k : Nat} {f g : List Int} (hf : ∀ x ∈ f, 0 ≤ x ∧ x < n) (hg : ∀ x ∈ g, 0 ≤ x ∧ x < k) (hl : f.length = g.length) (x : Int × Int) : x ∈ pairsU n k f g ↔ ∃ j, j < f.length ∧ x = (gt f j, n + gt g j) := by
  unfold pairsU prz
  rw [List.mem_iff_getElem?]
  constructor
  · rintro ⟨j, hj⟩
    rw [List.getElem?_zip_eq_some, List.getElem?_map, List.getElem?_map] at hj
    have hjl : j < f.length := by
      rcases Nat.lt_or_ge j f.length with h | h
      · exact h
      · rw [List.getElem?_eq_none h] at hj; simp at hj
    refine ⟨j, hjl, ?_⟩
    rw [gt_some hjl, gt_some (by omega)] at hj
    obtain ⟨h1, h2⟩ := hj
    have f1 := hf _ (gt_mem hjl)
    have g1 := hg _ (gt_mem (by omega : j < g.length))
    simp only [Option.map_some, Option.some.injEq] at h1 h2
    rw [at0_rng f1.1 f1.2] at h1
    rw [at0_rng g1.1 g1.2] at h2
    obtain ⟨a, b⟩ := x
    simp only at h1 h2
    rw [Prod.mk.injEq]
    omega
  · rintro ⟨j, hj, rfl⟩
    refine ⟨j, ?_⟩
    have f1 := hf _ (gt_mem hj)
    have g1 := hg _ (gt_mem (by omega : j < g.length))
    rw [List.getElem?_zip_eq_some, List.getElem?_map, List.getElem?_map, gt_some hj, gt_some (by omega)]
    simp only [Option.map_some, Option.some.injEq]
    rw [at0_rng f1.1 f1.2, at0_rng g1.1 g1.2]
    omega
theorem pairsU_inR {n k : Nat} {f g : List Int} (hf : ∀ x ∈ f, 0 ≤ x ∧ x < n) (hg : ∀ x ∈ g, 0 ≤ x ∧ x < k) (hl : f.length = g.length) : inR (n + k) (pairsU n k f g) := by
  intro x hx
  obtain ⟨j, hj, rfl⟩ := (pairsU_mem hf hg hl x).1 hx
  have f1 := hf _ (gt_mem hj)
  have g1 := hg _ (gt_mem (by omega : j < g.length))
  simp only
  omega
theorem pairsU_len {n k : Nat} {f g : List Int} (hl : f.length = g.length) : (pairsU n k f g).length = f.length := by
  unfold pairsU prz; simp; omega
theorem un_nodes_left {b c : Graph} {k : Nat} (h : k < b.nodes.length) : gt (unG b c).nodes k = gt b.nodes k := gt_app h
theorem un_nodes_right {b c : Graph} {k : Nat} : gt (unG b c).nodes (b.nodes.length + k) = gt c.nodes k := by
  unfold unG gt
  rw [List.getD_eq_getElem?_getD, List.getD_eq_getElem?_getD, List.getElem?_append_right (by omega), Nat.add_sub_cancel_left]
theorem un_edges_left {b c : Graph} {k : Nat} (h : k < b.edges.length) : atE (unG b c).edges (k : Nat) = atE b.edges (k : Nat) := by
  unfold unG atE
  rw [Int.toNat_natCast, List.getD_eq_getElem?_getD, List.getD_eq_getElem?_getD, List.getElem?_append_left h]
theorem un_edges_right {b c : Graph} {k : Nat} (h : k < c.edges.length) : atE (unG b c).edges ((b.edges.length + k : Nat)) = shE b.nodes.length (atE c.edges (k : Nat)) := by
  unfold unG atE
  rw [Int.toNat_natCast, Int.toNat_natCast, List.getD_eq_getElem?_getD, List.getD_eq_getElem?_getD, List.getElem?_append_right (by omega), Nat.add_sub_cancel_left, List.getElem?_map, List.getElem?_eq_getElem h]; rfl
theorem gval_nodes {g : Graph} (h : gval g = 0) : ∀ n ∈ g.nodes, 0 ≤ n ∧ n ≤ 99 := by
  unfold gval at h
  split at h
  · cases h
  · split at h
    · cases h
    · rename_i h2
      have h2 : g.nodes.any (fun n => !within n 99) = false := by simpa using h2
      rw [List.any_eq_false] at h2
      intro n hn
      have := h2 n hn
      simp [within] at this
      omega
theorem gval_mk {g : Graph} (h1 : g.nodes.length ≤ 40) (h2 : g.edges.length ≤ 80) (h3 : ∀ n ∈ g.nodes, 0 ≤ n ∧ n ≤ 99) (h4 : ∀ e ∈ g.edges, 0 ≤ e.src ∧ e.src < g.nodes.length ∧ 0 ≤ e.dst ∧ e.dst < g.nodes.length ∧ 0 ≤ e.type ∧ e.type ≤ 99) : gval g = 0 := by
  unfold gval
  rw [if_neg (by omega)]
  have e1 : g.nodes.any (fun n => !within n 99) = false := by
    rw [List.any_eq_false]
    intro n hn
    have := h3 n hn
    simp [within]; omega
  have e2 : g.edges.any (fun e => !fits e g.nodes.length) = false := by
    rw [List.any_eq_false]
    intro e he
    have := h4 e he
    simp [fits, within]; omega
  rw [e1, e2]; rfl
theorem gval_edges {g : Graph} (h : gval g = 0) : ∀ e ∈ g.edges, 0 ≤ e.src ∧ e.src < g.nodes.length ∧ 0 ≤ e.dst ∧ e.dst < g.nodes.length ∧ 0 ≤ e.type ∧ e.type ≤ 99 := by
  intro e he
  obtain ⟨i, hi⟩ := List.mem_iff_getElem?.1 he
  exact gval_edge h hi
theorem uerr_ok {a b : Graph} (h : uerr a b = 0) : gval a = 0 ∧ gval b = 0 ∧ a.nodes.length + b.nodes.length ≤ 40 ∧ a.edges.length + b.edges.length ≤ 80 := by
  unfold uerr at h
  split at h
  · exact absurd h ‹_›
  · split at h
    · exact absurd h ‹_›
    · split at h
      · cases h
      · omega
theorem un_len (a b : Graph) : (unG a b).nodes.length = a.nodes.length + b.nodes.length ∧ (unG a b).edges.length = a.edges.length + b.edges.length := by simp [unG]
theorem gval_un {a b : Graph} (h : uerr a b = 0) : gval (unG a b) = 0 := by
  obtain ⟨h1, h2, h3, h4⟩ := uerr_ok h
  obtain ⟨l1, l2⟩ := un_len a b
  refine gval_mk (by omega) (by omega) ?_ ?_
  · intro n hn
    rcases List.mem_append.1 (show n ∈ a.nodes ++ b.nodes from hn) with k | k
    · exact gval_nodes h1 n k
    · exact gval_nodes h2 n k
  · intro e he
    rw [l1]
    rcases List.mem_append.1 (show e ∈ a.edges ++ b.edges.map (shE a.nodes.length) from he) with k | k
    · have := gval_edges h1 e k; omega
    · obtain ⟨e', k2, rfl⟩ := List.mem_map.1 k
      have := gval_edges h2 e' k2
      simp only [shE]; omega

/-- The classes of nodes, of edges. -/
def poN (s : Span) : List Int := gen (unG s.b s.c).nodes.length (pairsU s.b.nodes.length s.c.nodes.length s.f.nodes s.g.nodes)
def poE (s : Span) : List Int := gen (unG s.b s.c).edges.length (pairsU s.b.edges.length s.c.edges.length s.f.edges s.g.edges)
structure PoOk (s : Span) : Prop where
  f : mval s.a s.b s.f = 0
  g : mval s.a s.c s.g = 0
  u : uerr s.b s.c = 0
theorem spn_ok {s : Span} (h : spn s = 0) : mval s.a s.b s.f = 0 ∧ mval s.a s.c s.g = 0 := by
  unfold spn at h
  split at h
  · exact absurd h ‹_›
  · exact ⟨by omega, h⟩
section
variable {s : Span}
theorem PoOk.nR (h : PoOk s) : inR (unG s.b s.c).nodes.length (pairsU s.b.nodes.length s.c.nodes.length s.f.nodes s.g.nodes) := by
  rw [(un_len _ _).1]
  exact pairsU_inR (mval_node h.f) (mval_node h.g) ((mval_ok h.f).2.2.1.trans (mval_ok h.g).2.2.1.symm)
theorem PoOk.eR (h : PoOk s) : inR (unG s.b s.c).edges.length (pairsU s.b.edges.length s.c.edges.length s.f.edges s.g.edges) := by
  rw [(un_len _ _).2]
  exact pairsU_inR (mval_edge h.f) (mval_edge h.g) ((mval_ok h.f).2.2.2.1.trans (mval_ok h.g).2.2.2.1.symm)
theorem PoOk.nodes (h : PoOk s) : ∀ i, i < (poN s).length → gt (unG s.b s.c).nodes (gt (poN s) i).toNat = gt (unG s.b s.c).nodes i := by
  intro i hi
  have hlf := (mval_ok h.f).2.2.1
  have hlg := (mval_ok h.g).2.2.1
  rw [poN, gen_len] at hi
  refine gen_resp (gt (unG s.b s.c).nodes) h.nR ?_ i hi
  intro x hx
  obtain ⟨j, hj, rfl⟩ := (pairsU_mem (mval_node h.f) (mval_node h.g) (by omega) x).1 hx
  have f1 := mval_node h.f _ (gt_mem hj)
  have g1 := mval_node h.g _ (gt_mem (by omega : j < s.g.nodes.length))
  simp only
  rw [un_nodes_left (by omega), show ((s.b.nodes.length : Int) + gt s.g.nodes j).toNat = s.b.nodes.length + (gt s.g.nodes j).toNat by omega, un_nodes_right, mval_nt h.f (by omega), mval_nt h.g (by omega)]
theorem PoOk.cls (h : PoOk s) {j : Nat} (hj : j < s.a.nodes.length) : gt (qn (poN s)) (gt s.f.nodes j).toNat = gt (qn (poN s)) (s.b.nodes.length + (gt s.g.nodes j).toNat) := by
  have hlf := (mval_ok h.f).2.2.1
  have hlg := (mval_ok h.g).2.2.1
  have f1 := mval_node h.f _ (gt_mem (by omega : j < s.f.nodes.length))
  have g1 := mval_node h.g _ (gt_mem (by omega : j < s.g.nodes.length))
  have hp : Ptn (poN s) := gen_ptn h.nR
  have hl : (poN s).length = s.b.nodes.length + s.c.nodes.length := by rw [poN, gen_len, (un_len _ _).1]
  rw [qn_cls hp (i := (gt s.f.nodes j).toNat) (by omega), qn_cls hp (i := s.b.nodes.length + (gt s.g.nodes j).toNat) (by omega)]
  have := gen_pair h.nR (x := (gt s.f.nodes j, s.b.nodes.length + gt s.g.nodes j)) ((pairsU_mem (mval_node h.f) (mval_node h.g) (by omega) _).2 ⟨j, by omega, rfl⟩)
  simp only at this
  rw [show ((s.b.nodes.length : Int) + gt s.g.nodes j).toNat = s.b.nodes.length + (gt s.g.nodes j).toNat by omega] at this
  unfold poN
  rw [this]
theorem PoOk.edges (h : PoOk s) : ∀ i, i < (poE s).length → mapE (qn (poN s)) (atE (unG s.b s.c).edges ((gt (poE s) i).toNat : Nat)) = mapE (qn (poN s)) (atE (unG s.b s.c).edges (i : Nat)) := by
  intro i hi
  have hlf := (mval_ok h.f).2.2.2.1
  have hlg := (mval_ok h.g).2.2.2.1
  rw [poE, gen_len] at hi
  refine gen_resp (fun i => mapE (qn (poN s)) (atE (unG s.b s.c).edges (i : Nat))) h.eR ?_ i hi
  intro x hx
  obtain ⟨j, hj, rfl⟩ := (pairsU_mem (mval_edge h.f) (mval_edge h.g) (by omega) x).1 hx
  have f1 := mval_edge h.f _ (gt_mem hj)
  have g1 := mval_edge h.g _ (gt_mem (by omega : j < s.g.edges.length))
  have ef := mval_et h.f (j := j) (by omega)
  have eg := mval_et h.g (j := j) (by omega)
  have ea := gval_edge (mval_ok h.f).1 (atE_some (l := s.a.edges) (n := (j : Nat)) (by omega))
  have c1 := h.cls (j := (atE s.a.edges (j : Nat)).src.toNat) (by omega)
  have c2 := h.cls (j := (atE s.a.edges (j : Nat)).dst.toNat) (by omega)
  simp only
  rw [un_edges_left (by omega), show ((s.b.edges.length : Int) + gt s.g.edges j).toNat = s.b.edges.length + (gt s.g.edges j).toNat by omega, un_edges_right (by omega)]
  rw [show (((gt s.f.edges j).toNat : Nat) : Int) = gt s.f.edges j by omega, show (((gt s.g.edges j).toNat : Nat) : Int) = gt s.g.edges j by omega]
  have n1 : ∀ k, k < s.a.nodes.length → 0 ≤ gt s.g.nodes k := fun k hk => (mval_node h.g _ (gt_mem (by have := (mval_ok h.g).2.2.1; omega))).1
  have g2 := n1 _ (show (atE s.a.edges (j : Nat)).src.toNat < _ by omega)
  have g3 := n1 _ (show (atE s.a.edges (j : Nat)).dst.toNat < _ by omega)
  unfold mapE shE
  rw [Edge.mk.injEq]
  refine ⟨by rw [← ef.1, ← eg.1], ?_, ?_⟩
  · rw [← ef.2.1, ← eg.2.1]
    simp only [gt_at0]
    rw [c1]
    congr 1
    omega
  · rw [← ef.2.2, ← eg.2.2]
    simp only [gt_at0]
    rw [c2]
    congr 1
    omega
end
end Go.Av.Z

/- Pushouts. -/
set_option maxHeartbeats 4000000
namespace Go.Av.Z
open Go.Proofs

def poG (s : Span) : Graph := quoG (unG s.b s.c) (poN s) (poE s)
def poQ (s : Span) : Mor := quoM (poN s) (poE s)
def poL (s : Span) : Mor := mthen (un1 s.b s.c) (poQ s)
def poR (s : Span) : Mor := mthen (un2 s.b s.c) (poQ s)
/-- The error of a pushout. -/
def poErr (s : Span) : Int := if spn s ≠ 0 then spn s else uerr s.b s.c
def poV (s : Span) : List AV := if poErr s = 0 then [(poG s).av, (poL s).av, (poR s).av, .int .i64 0] else [Graph.zero.av, Mor.zero.av, Mor.zero.av, .int .i64 (poErr s)]
theorem poErr_ok {s : Span} (h : poErr s = 0) : PoOk s := by
  unfold poErr at h
  split at h
  · exact absurd h ‹_›
  · rename_i k
    obtain ⟨h1, h2⟩ := spn_ok (Classical.not_not.1 k)
    exact ⟨h1, h2, h⟩
theorem rng_mem {f n : Nat} {k : Int} (h : k ∈ rng f n) : f ≤ k ∧ k < f + n := by
  simp [rng] at h
  omega

theorem c139 (s : Span) (hs : spn s = 0) : Con P 139 [] [s.av] (.tuple (poV s)) [] := by
  have he : poErr s = uerr s.b s.c := by rw [poErr, if_neg (by simp [hs])]
  obtain ⟨hf, hg⟩ := spn_ok hs
  have lf := mval_len hf
  have lg := mval_len hg
  have l1 := un_len s.b s.c
  have nf := mval_node hf
  have ng := mval_node hg
  have ef := mval_edge hf
  have eg := mval_edge hg
  refine go Tryz.func139 (by rfl) rfl rfl rfl fun hl => ?_
  refine W0 ?_
  refine ⟨_, _, c193 s.b s.c, ?_⟩
  by_cases hu : uerr s.b s.c = 0
  · have hok : PoOk s := ⟨hf, hg, hu⟩
    have hp : (poN s).length = s.b.nodes.length + s.c.nodes.length := by rw [poN, gen_len, l1.1]
    have hr : (poE s).length = s.b.edges.length + s.c.edges.length := by rw [poE, gen_len, l1.2]
    have hqp := qn_len (poN s)
    have hqr := qn_len (poE s)
    have hb := uerr_ok hu
    rw [unR_ok hu, poV, if_pos (he.trans hu)]
    refine W0 ?_
    refine ⟨_, _, c195 s.f.nodes s.g.nodes (rng 0 s.b.nodes.length) (rng s.b.nodes.length s.c.nodes.length) (by omega) (by omega) (fun k hk => by rw [rng_len]; exact nf k hk) (fun k hk => by rw [rng_len]; exact ng k hk), ?_⟩
    refine W0 ?_
    refine ⟨_, _, c195 s.f.edges s.g.edges (rng 0 s.b.edges.length) (rng s.b.edges.length s.c.edges.length) (by omega) (by omega) (fun k hk => by rw [rng_len]; exact ef k hk) (fun k hk => by rw [rng_len]; exact eg k hk), ?_⟩
    refine W0 ?_
    refine ⟨_, _, c194 (unG s.b s.c) (pairsU s.b.nodes.length s.c.nodes.length s.f.nodes s.g.nodes) (pairsU s.b.edges.length s.c.edges.length s.f.edges s.g.edges) (gval_un hu) hok.nR hok.eR (by rw [pairsU_len (by omega)]; omega) (by rw [pairsU_len (by omega)]; omega), ?_⟩
    refine W0 ?_
    refine ⟨by kernel_rfl, ?_⟩
    refine W0 ?_
    refine ⟨_, _, c196 (un1 s.b s.c) (poQ s) (by show (rng _ _).length ≤ _; rw [rng_len]; omega) (by show (rng _ _).length ≤ _; rw [rng_len]; omega) (fun k hk => by have := rng_mem hk; show _ ∧ k < (qn (poN s)).length; omega) (fun k hk => by have := rng_mem hk; show _ ∧ k < (qn (poE s)).length; omega), ?_⟩
    refine W0 ?_
    refine ⟨_, _, c196 (un2 s.b s.c) (poQ s) (by show (rng _ _).length ≤ _; rw [rng_len]; omega) (by show (rng _ _).length ≤ _; rw [rng_len]; omega) (fun k hk => by have := rng_mem hk; show _ ∧ k < (qn (poN s)).length; omega) (fun k hk => by have := rng_mem hk; show _ ∧ k < (qn (poE s)).length; omega), ?_⟩
    refine W0 ?_
    refine ⟨by kernel_rfl, ?_⟩
    refine W0 ?_
    refine fin_frz TT ?_ rfl
    rfl
  · rw [unR_err rfl hu, poV, if_neg (by rw [he]; exact hu), he]
    refine W0 ?_
    refine ⟨fun _ => ?_, fun h => absurd h (by simpa using hu)⟩
    refine W0 ?_
    refine fin_frz TT ?_ rfl
    rfl
theorem c79 (s : Span) : Con P 79 [] [s.av] (.tuple (poV s)) [] := by
  refine go Tryz.func79 (by rfl) rfl rfl rfl fun hl => ?_
  refine W0 ?_
  refine ⟨_, _, c138 s, ?_⟩
  refine W0 ?_
  refine ⟨fun h => ?_, fun h => ?_⟩
  · have h : spn s ≠ 0 := by simpa using h
    have e : poErr s = spn s := by rw [poErr, if_pos h]
    rw [poV, if_neg (by rw [e]; exact h), e]
    refine W0 ?_
    refine fin_frz TT ?_ rfl
    rfl
  · have h : spn s = 0 := by simpa using h
    refine W0 ?_
    refine ⟨_, _, c139 s h, ?_⟩
    by_cases hp : poErr s = 0
    · rw [poV, if_pos hp]
      refine W0 ?_
      refine fin_frz TT ?_ rfl
      rfl
    · rw [poV, if_neg hp]
      refine W0 ?_
      refine fin_frz TT ?_ rfl
      rfl
theorem c223 (s : Span) (h : PoOk s) : Con P 223 [] [(unG s.b s.c).av, (mthen s.f (un1 s.b s.c)).av, (mthen s.g (un2 s.b s.c)).av] (.tuple [(poG s).av, (poQ s).av]) [] := by
  have lf := mval_len h.f
  have lg := mval_len h.g
  have l1 := un_len s.b s.c
  have hb := uerr_ok h.u
  have k1 := c255 (unG s.b s.c).nodes.length (pairsU s.b.nodes.length s.c.nodes.length s.f.nodes s.g.nodes) (by omega) h.nR (by rw [pairsU_len (by omega)]; omega)
  have k2 := c255 (unG s.b s.c).edges.length (pairsU s.b.edges.length s.c.edges.length s.f.edges s.g.edges) (by omega) h.eR (by rw [pairsU_len (by omega)]; omega)
  have k3 := c257 (unG s.b s.c) (poN s) (poE s) (gval_un h.u) (gen_ptn h.nR) (gen_ptn h.eR) (gen_len _ _) (gen_len _ _) h.nodes h.edges
  refine go Tryz.func223 (by rfl) rfl rfl rfl fun hl => ?_
  refine W0 ?_
  refine ⟨_, _, c256 (mthen s.f (un1 s.b s.c)).nodes (mthen s.g (un2 s.b s.c)).nodes (by simp [mthen]; omega) (by simp [mthen]; omega), ?_⟩
  refine W0 ?_
  rw [nums_len]
  refine ⟨_, _, k1, ?_⟩
  refine W0 ?_
  refine ⟨by kernel_rfl, ?_⟩
  refine W0 ?_
  refine ⟨_, _, c256 (mthen s.f (un1 s.b s.c)).edges (mthen s.g (un2 s.b s.c)).edges (by simp [mthen]; omega) (by simp [mthen]; omega), ?_⟩
  refine W0 ?_
  rw [edgs_len]
  refine ⟨_, _, k2, ?_⟩
  refine W0 ?_
  refine ⟨by kernel_rfl, ?_⟩
  refine W0 ?_
  refine ⟨_, _, k3, ?_⟩
  refine W0 ?_
  refine fin_frz TT ?_ rfl
  rfl
theorem c175 (s : Span) : Con P 175 [] [s.av] (.tuple (poV s)) [] := by
  refine go Tryz.func175 (by rfl) rfl rfl rfl fun hl => ?_
  refine W0 ?_
  refine ⟨_, _, c221 s, ?_⟩
  refine W0 ?_
  refine ⟨fun h => ?_, fun h => ?_⟩
  · have h : spn s ≠ 0 := by simpa using h
    have e : poErr s = spn s := by rw [poErr, if_pos h]
    rw [poV, if_neg (by rw [e]; exact h), e]
    refine W0 ?_
    refine fin_frz TT ?_ rfl
    rfl
  have h : spn s = 0 := by simpa using h
  have e : poErr s = uerr s.b s.c := by rw [poErr, if_neg (by simp [h])]
  obtain ⟨hf, hg⟩ := spn_ok h
  refine W0 ?_
  refine ⟨_, _, c222 s.b s.c, ?_⟩
  by_cases hu : uerr s.b s.c = 0
  · have hok : PoOk s := ⟨hf, hg, hu⟩
    have lf := mval_len hf
    have lg := mval_len hg
    have l1 := un_len s.b s.c
    have nf := mval_node hf
    have ng := mval_node hg
    have ef := mval_edge hf
    have eg := mval_edge hg
    have hp : (poN s).length = s.b.nodes.length + s.c.nodes.length := by rw [poN, gen_len, l1.1]
    have hr : (poE s).length = s.b.edges.length + s.c.edges.length := by rw [poE, gen_len, l1.2]
    have hqp := qn_len (poN s)
    have hqr := qn_len (poE s)
    have hb := uerr_ok hu
    rw [unR_ok hu, poV, if_pos (e.trans hu)]
    refine W0 ?_
    refine ⟨_, _, c76 s.f (un1 s.b s.c) (by omega) (by omega) (fun k hk => by show _ ∧ k < (rng _ _).length; rw [rng_len]; exact nf k hk) (fun k hk => by show _ ∧ k < (rng _ _).length; rw [rng_len]; exact ef k hk), ?_⟩
    refine W0 ?_
    refine ⟨_, _, c76 s.g (un2 s.b s.c) (by omega) (by omega) (fun k hk => by show _ ∧ k < (rng _ _).length; rw [rng_len]; exact ng k hk) (fun k hk => by show _ ∧ k < (rng _ _).length; rw [rng_len]; exact eg k hk), ?_⟩
    refine W0 ?_
    refine ⟨_, _, c223 s hok, ?_⟩
    refine W0 ?_
    refine ⟨by kernel_rfl, ?_⟩
    refine W0 ?_
    refine ⟨_, _, c76 (un1 s.b s.c) (poQ s) (by show (rng _ _).length ≤ _; rw [rng_len]; omega) (by show (rng _ _).length ≤ _; rw [rng_len]; omega) (fun k hk => by have := rng_mem hk; show _ ∧ k < (qn (poN s)).length; omega) (fun k hk => by have := rng_mem hk; show _ ∧ k < (qn (poE s)).length; omega), ?_⟩
    refine W0 ?_
    refine ⟨_, _, c76 (un2 s.b s.c) (poQ s) (by show (rng _ _).length ≤ _; rw [rng_len]; omega) (by show (rng _ _).length ≤ _; rw [rng_len]; omega) (fun k hk => by have := rng_mem hk; show _ ∧ k < (qn (poN s)).length; omega) (fun k hk => by have := rng_mem hk; show _ ∧ k < (qn (poE s)).length; omega), ?_⟩
    refine W0 ?_
    refine ⟨by kernel_rfl, ?_⟩
    refine W0 ?_
    refine fin_frz TT ?_ rfl
    rfl
  · rw [unR_err rfl hu, poV, if_neg (by rw [e]; exact hu), e]
    refine W0 ?_
    refine ⟨fun _ => ?_, fun h => absurd h (by simpa using hu)⟩
    refine W0 ?_
    refine fin_frz TT ?_ rfl
    rfl
end Go.Av.Z

/- The reference of the transport: numbers in order; ways back. -/
set_option maxHeartbeats 4000000
namespace Go.Av.Z
open Go.Proofs

/-- The numbers of a list that are less than n, in order. -/
def asc (l : List Int) : Nat → List Int
  | 0 => []
  | n + 1 => asc l n ++ l.filter fun x => x == (n : Int)
theorem asc_perm (l : List Int) (h0 : ∀ x ∈ l, 0 ≤ x) : ∀ n : Nat, (asc l n).Perm (l.filter fun x => decide (x < (n : Int)))
  | 0 => by
    rw [asc, List.filter_eq_nil_iff.2 fun x hx => by have := h0 x hx; simp; omega]
  | n + 1 => by
    rw [asc]
    have h1 := List.filter_append_perm (fun x : Int => decide (x < (n : Int))) (l.filter fun x => decide (x < ((n + 1 : Nat) : Int)))
    rw [List.filter_filter, List.filter_filter] at h1
    refine List.Perm.trans (List.Perm.append ((asc_perm l h0 n).trans (List.Perm.of_eq (List.filter_congr fun x _ => ?_))) (List.Perm.of_eq (List.filter_congr fun x _ => ?_))) h1
    · rw [Bool.eq_iff_iff]; simp; omega
    · rw [Bool.eq_iff_iff]; simp; omega
theorem asc_mem {l : List Int} {n : Nat} {x : Int} (h : x ∈ asc l n) : x < n := by
  induction n with
  | zero => cases h
  | succ n ih =>
    rw [asc] at h
    rcases List.mem_append.1 h with k | k
    · have := ih k; omega
    · have := (List.mem_filter.1 k).2; simp at this; omega
theorem asc_sorted (l : List Int) : ∀ n, (asc l n).Pairwise fun x y => x ≤ y
  | 0 => List.Pairwise.nil
  | n + 1 => by
    rw [asc, List.pairwise_append]
    refine ⟨asc_sorted l n, ?_, ?_⟩
    · rw [List.pairwise_iff_getElem]
      intro i j hi hj _
      have h1 := (List.mem_filter.1 (List.getElem_mem hi)).2
      have h2 := (List.mem_filter.1 (List.getElem_mem hj)).2
      simp at h1 h2; omega
    · intro x hx y hy
      have h1 := asc_mem hx
      have h2 := (List.mem_filter.1 hy).2
      simp at h2; omega
theorem asc_srt {l : List Int} (h0 : ∀ x ∈ l, 0 ≤ x) {n : Nat} (h : l.length ≤ (asc l n).length) : asc l n = srt l := by
  have hp := asc_perm l h0 n
  have hl : (l.filter fun x => decide (x < (n : Int))) = l := (List.filter_sublist (l := l)).eq_of_length (by have := hp.length_eq; have := List.length_filter_le (fun x => decide (x < (n : Int))) l; omega)
  rw [hl] at hp
  exact List.Perm.eq_of_pairwise (le := fun x y : Int => x ≤ y) (fun a b _ _ h1 h2 => by omega) (asc_sorted l n) (srt_sorted l) (hp.trans (srt_perm l).symm)
theorem filter_take {l : List Int} {i : Nat} {x : Int} (p : Int → Bool) (h : l[i]? = some x) : (l.take (i + 1)).filter p = (l.take i).filter p ++ (if p x then [x] else []) := by
  rw [List.take_add_one, h, List.filter_append]
  cases hp : p x <;> simp [hp]
theorem asc_le (l : List Int) (h0 : ∀ x ∈ l, 0 ≤ x) (n : Nat) : (asc l n).length ≤ l.length := by
  rw [(asc_perm l h0 n).length_eq]; exact List.length_filter_le _ _
theorem c173 (l : List Int) (h0 : ∀ x ∈ l, 0 ≤ x ∧ x < 1000) (hn : l.length ≤ 1000) : Con P 173 [] [.slice 1 (nums l)] (.slice 1 (nums (srt l))) [] := by
  have h00 : ∀ x ∈ l, 0 ≤ x := fun x hx => (h0 x hx).1
  refine go Tryz.func173 (by rfl) rfl rfl rfl fun hl => ?_
  refine W0 ?_
  refine loop (fun n : Nat => mkSt [(4, .int .i64 n), (0, .slice 1 (nums l)), (3, .ref 0)] [.row 3 1 (nums (asc l n))]) (fun n => n ≤ 1000) (fun n => 1000 - n) 0 (Nat.zero_le _)
    (le_of [1] rfl rfl rfl ⟨rfl, rfl, rfl, trivial⟩ ⟨rfl, trivial⟩) ?_
  intro n hni
  have hal := asc_le l h00 n
  refine W0 ?_
  rw [nums_len, nums_len]
  refine ⟨fun hlt => ?_, fun hge => ?_⟩
  · have hlt := of_lt hlt
    have hnn : n < 1000 := by
      rcases Nat.lt_or_ge n 1000 with h | h
      · exact h
      · have := (asc_perm l h00 n).length_eq
        rw [List.filter_eq_self.2 fun x hx => by have := h0 x hx; simp; omega] at this
        omega
    refine W0 ?_
    refine loop (fun i : Nat => mkSt [(5, .int .i64 i), (4, .int .i64 n), (0, .slice 1 (nums l)), (3, .ref 0)] [.row 3 1 (nums (asc l n ++ (l.take i).filter fun x => x == (n : Int)))]) (fun i => i ≤ l.length) (fun i => l.length - i) 0 (Nat.zero_le _)
      (le_of [0] rfl rfl rfl ⟨rfl, rfl, rfl, rfl, trivial⟩ ⟨by simp; rfl, trivial⟩) ?_
    intro i hi
    refine W0 ?_
    rw [nums_len]
    refine ⟨fun hlt2 => ?_, fun hge2 => ?_⟩
    · have hlt2 := of_lt hlt2
      have hx : l[i]? = some l[i] := List.getElem?_eq_getElem hlt2
      generalize l[i] = x at hx
      have hf := filter_take (fun x => x == (n : Int)) hx
      have hfl : ((l.take i).filter fun x => x == (n : Int)).length ≤ 1000 := Nat.le_trans (List.length_filter_le _ _) (by simp; omega)
      refine W0 ?_
      refine ⟨by omega, _, nums_at hx, ?_⟩
      refine W0 ?_
      refine ⟨fun k => ?_, fun k => ?_⟩
      · have hk : x = n := by simpa using k
        rw [if_pos k] at hf
        refine W0 ?_
        refine ⟨by rw [nums_len, List.length_append]; show (_ + 1) * 8 ≤ _; omega, ?_⟩
        refine W0 ?_
        exact ⟨i + 1, hlt2, by show l.length - (i + 1) < l.length - i; omega, le_of [2] rfl rfl rfl ⟨step_num hlt2 (by omega), rfl, rfl, rfl, trivial⟩ ⟨by rw [hf, ← List.append_assoc, nums_app, hk]; rfl, trivial⟩⟩
      · rw [if_neg (by simp [k])] at hf
        refine W0 ?_
        exact ⟨i + 1, hlt2, by show l.length - (i + 1) < l.length - i; omega, le_of [0] rfl rfl rfl ⟨step_num hlt2 (by omega), rfl, rfl, rfl, trivial⟩ ⟨by rw [hf, List.append_nil]; rfl, trivial⟩⟩
    · have hge2 := of_ge hge2
      rw [take_of_all hge2]
      refine W0 ?_
      exact ⟨n + 1, hnn, by show 1000 - (n + 1) < 1000 - n; omega, le_of [0] rfl rfl rfl ⟨step_num hnn (by omega), rfl, rfl, trivial⟩ ⟨rfl, trivial⟩⟩
  · have hge := of_ge hge
    rw [asc_srt h00 (by omega)]
    refine W0 ?_
    refine fin_frz TT ?_ rfl
    rfl
end Go.Av.Z

/- The reference of the transport: ways back, ways on. -/
set_option maxHeartbeats 4000000
namespace Go.Av.Z
open Go.Proofs

theorem plc_at {l : List Int} {j : Nat} {x : Int} (hd : l.Nodup) (h : l[j]? = some x) : plc l x = j := by
  rw [plc]
  refine idx_some (fun i y hi hy => ?_) h (by simp)
  obtain ⟨h1, e1⟩ := List.getElem?_eq_some_iff.1 h
  obtain ⟨h2, e2⟩ := List.getElem?_eq_some_iff.1 hy
  have := List.pairwise_iff_getElem.1 hd i j h2 h1 hi
  rw [e1, e2] at this
  simpa using this
theorem plc_mem {l : List Int} {x : Int} (hd : l.Nodup) (h : x ∈ l) : 0 ≤ plc l x ∧ plc l x < l.length ∧ gt l (plc l x).toNat = x := by
  obtain ⟨j, hj⟩ := List.mem_iff_getElem?.1 h
  have hl := (List.getElem?_eq_some_iff.1 hj).1
  rw [plc_at hd hj]
  refine ⟨by omega, by omega, ?_⟩
  rw [Int.toNat_natCast]
  have := gt_some hl
  rw [hj] at this
  exact (Option.some.inj this).symm
theorem plc_none {l : List Int} {x : Int} (h : x ∉ l) : plc l x = -1 := by
  rw [plc]
  exact idx_none fun y hy => by
    simp
    intro e; subst e; exact h hy
/-- What an element of places is led on to. -/
def ledTo (src to : List Int) (x : Int) : Int := at0 to (plc src x)
theorem c176 (places src to : List Int) (hd : src.Nodup) (hp : ∀ x ∈ places, x ∈ src) (hl : src.length = to.length) (hn : places.length ≤ 1000) (hn2 : src.length ≤ 1000) : Con P 176 [] [.slice 1 (nums places), .slice 1 (nums src), .slice 1 (nums to)] (.slice 1 (nums (places.map (ledTo src to)))) [] := by
  refine go Tryz.func176 (by rfl) rfl rfl rfl fun hl => ?_
  refine W0 ?_
  refine loop (fun i : Nat => mkSt [(8, .int .i64 i), (0, .slice 1 (nums places)), (1, .slice 1 (nums src)), (2, .slice 1 (nums to)), (7, .ref 0)] [.row 3 1 (nums ((places.take i).map (ledTo src to)))]) (fun i => i ≤ places.length) (fun i => places.length - i) 0 (Nat.zero_le _)
    (le_of [1] rfl rfl rfl ⟨rfl, rfl, rfl, rfl, rfl, trivial⟩ ⟨rfl, trivial⟩) ?_
  intro i hi
  refine W0 ?_
  rw [nums_len]
  refine ⟨fun hlt => ?_, fun hge => ?_⟩
  · have hlt := of_lt hlt
    have hx : places[i]? = some places[i] := List.getElem?_eq_getElem hlt
    generalize places[i] = x at hx
    have hpl := plc_mem hd (hp x (List.mem_of_getElem? hx))
    obtain ⟨m, hm⟩ := Int.eq_ofNat_of_zero_le hpl.1
    have hmt := take_map (ledTo src to) hx
    have hled : ledTo src to x = gt to m := by unfold ledTo; rw [hm, gt_at0, Int.toNat_natCast]
    refine W0 ?_
    refine loop (fun k : Nat => mkSt [(9, .int .i64 k), (8, .int .i64 i), (0, .slice 1 (nums places)), (1, .slice 1 (nums src)), (2, .slice 1 (nums to)), (7, .ref 0)] [.row 3 1 (nums ((places.take i).map (ledTo src to) ++ if m < k then [ledTo src to x] else []))]) (fun k => k ≤ src.length) (fun k => src.length - k) 0 (Nat.zero_le _)
      (le_of [0] rfl rfl rfl ⟨rfl, rfl, rfl, rfl, rfl, rfl, trivial⟩ ⟨by rw [if_neg (by omega), List.append_nil]; rfl, trivial⟩) ?_
    intro k hk
    refine W0 ?_
    rw [nums_len]
    refine ⟨fun hlt2 => ?_, fun hge2 => ?_⟩
    · have hlt2 := of_lt hlt2
      have hy : src[k]? = some src[k] := List.getElem?_eq_getElem hlt2
      generalize src[k] = y at hy
      have hky := plc_at hd hy
      refine W0 ?_
      refine ⟨by omega, _, nums_at hy, ?_⟩
      refine W0 ?_
      refine ⟨by omega, _, nums_at hx, ?_⟩
      refine W0 ?_
      refine ⟨by kernel_rfl, ?_⟩
      refine W0 ?_
      refine ⟨fun h => ?_, fun h => ?_⟩
      · have h : y = x := by simpa using h
        rw [h] at hky
        have : k = m := by omega
        subst this
        refine W0 ?_
        refine ⟨by omega, _, nums_at (gt_some (by omega)), ?_⟩
        refine W0 ?_
        refine ⟨by rw [nums_len, if_neg (by omega), List.append_nil, List.length_map, List.length_take]; show (_ + 1) * 8 ≤ _; omega, ?_⟩
        refine W0 ?_
        exact ⟨k + 1, hlt2, by show src.length - (k + 1) < src.length - k; omega, le_of [2] rfl rfl rfl ⟨step_num hlt2 (by omega), rfl, rfl, rfl, rfl, rfl, trivial⟩ ⟨by rw [if_neg (by omega), List.append_nil, if_pos (by omega), nums_app, hled]; rfl, trivial⟩⟩
      · have h : y ≠ x := by simpa using h
        have hne : k ≠ m := fun e => h (by
          have h1 := gt_some hlt2
          rw [hy] at h1
          have := Option.some.inj h1
          rw [this, e]
          have h2 := hpl.2.2
          rwa [hm, Int.toNat_natCast] at h2)
        refine W0 ?_
        exact ⟨k + 1, hlt2, by show src.length - (k + 1) < src.length - k; omega, le_of [0] rfl rfl rfl ⟨step_num hlt2 (by omega), rfl, rfl, rfl, rfl, rfl, trivial⟩ ⟨by
          by_cases hmk : m < k
          · rw [if_pos hmk, if_pos (by omega)]; rfl
          · rw [if_neg hmk, if_neg (by omega)]; rfl, trivial⟩⟩
    · have hge2 := of_ge hge2
      rw [if_pos (by omega)]
      refine W0 ?_
      exact ⟨i + 1, hlt, by show places.length - (i + 1) < places.length - i; omega, le_of [0] rfl rfl rfl ⟨step_num hlt (by omega), rfl, rfl, rfl, rfl, trivial⟩ ⟨by rw [hmt]; rfl, trivial⟩⟩
  · have hge := of_ge hge
    rw [take_of_all hge]
    refine W0 ?_
    refine fin_frz TT ?_ rfl
    rfl
/-- The way back: for each number below n its place. -/
def back (l : List Int) (n : Nat) : List Int := (List.range n).map fun (v : Nat) => plc l v
theorem back_len (l : List Int) (n : Nat) : (back l n).length = n := by simp [back]
theorem back_succ (l : List Int) (n : Nat) : back l (n + 1) = back l n ++ [plc l n] := by simp [back, List.range_succ]
theorem back_at {l : List Int} {n : Nat} {k : Int} (h0 : 0 ≤ k) (h1 : k < n) : at0 (back l n) k = plc l k := by
  obtain ⟨m, rfl⟩ := Int.eq_ofNat_of_zero_le h0
  have : m < n := by omega
  simp [back, at0, List.getD_eq_getElem?_getD, this]
theorem c78 (l : List Int) (n : Nat) (hd : l.Nodup) (hn : n ≤ 1000) (hn2 : l.length ≤ 1000) : Con P 78 [] [.slice 1 (nums l), .int .i64 n] (.slice 1 (nums (back l n))) [] := by
  refine go Tryz.func78 (by rfl) rfl rfl rfl fun hl => ?_
  refine W0 ?_
  refine loop (fun v : Nat => mkSt [(6, .int .i64 v), (0, .slice 1 (nums l)), (1, .int .i64 n), (5, .ref 0)] [.row 3 1 (nums (back l v))]) (fun v => v ≤ n) (fun v => n - v) 0 (Nat.zero_le _)
    (le_of [1] rfl rfl rfl ⟨rfl, rfl, rfl, rfl, trivial⟩ ⟨rfl, trivial⟩) ?_
  intro v hv
  have hbl := back_len l v
  refine W0 ?_
  refine ⟨fun hlt => ?_, fun hge => ?_⟩
  · have hlt := of_lt hlt
    refine W0 ?_
    refine ⟨by rw [nums_len, hbl]; show (_ + 1) * 8 ≤ _; omega, ?_⟩
    refine W0 ?_
    refine loop (fun k : Nat => mkSt [(7, .int .i64 k), (6, .int .i64 v), (0, .slice 1 (nums l)), (1, .int .i64 n), (5, .ref 0)] [.row 3 1 (nums (back l v ++ [if plc l v < k then plc l v else -1]))]) (fun k => k ≤ l.length) (fun k => l.length - k) 0 (Nat.zero_le _)
      (le_of [2] rfl rfl rfl ⟨rfl, rfl, rfl, rfl, rfl, trivial⟩ ⟨by
        have : (if plc l (v : Int) < ((0 : Nat) : Int) then plc l v else -1) = -1 := by
          by_cases hm : (v : Int) ∈ l
          · have := plc_mem hd hm; rw [if_neg (by omega)]
          · rw [plc_none hm]; rfl
        rw [this, nums_app]; rfl, trivial⟩) ?_
    intro k hk
    refine W0 ?_
    rw [nums_len]
    refine ⟨fun hlt2 => ?_, fun hge2 => ?_⟩
    · have hlt2 := of_lt hlt2
      have hy : l[k]? = some l[k] := List.getElem?_eq_getElem hlt2
      generalize l[k] = y at hy
      have hky := plc_at hd hy
      refine W0 ?_
      refine ⟨by omega, _, nums_at hy, ?_⟩
      refine W0 ?_
      refine ⟨fun h => ?_, fun h => ?_⟩
      · have h : y = v := by simpa using h
        rw [h] at hky
        refine W0 ?_
        refine ⟨⟨by omega, by rw [nums_len, List.length_append, hbl]; simp; omega⟩, ?_⟩
        refine W0 ?_
        refine ⟨_, nums_at (gt_some (by rw [List.length_append, hbl, Int.toNat_natCast]; simp)), ?_⟩
        refine W0 ?_
        exact ⟨k + 1, hlt2, by show l.length - (k + 1) < l.length - k; omega, le_of [0] rfl rfl rfl ⟨step_num hlt2 (by omega), rfl, rfl, rfl, rfl, trivial⟩ ⟨by
          have e : (if plc l (v : Int) < ((k + 1 : Nat) : Int) then plc l v else -1) = k := by rw [hky, if_pos (by omega)]
          show Blk.row 3 1 ((nums _).set ((v : Int)).toNat [.int .i64 _]) = _
          rw [nums_set, Int.toNat_natCast, List.set_append_right _ _ (by omega), hbl, Nat.sub_self, List.set_cons_zero, e]; rfl, trivial⟩⟩
      · have h : y ≠ v := by simpa using h
        have hne : plc l v ≠ k := fun e => h (by
          by_cases hm : (v : Int) ∈ l
          · have h1 := plc_mem hd hm
            rw [e, Int.toNat_natCast] at h1
            have h2 := gt_some hlt2
            rw [hy] at h2
            rw [Option.some.inj h2]; exact h1.2.2
          · rw [plc_none hm] at e; omega)
        refine W0 ?_
        exact ⟨k + 1, hlt2, by show l.length - (k + 1) < l.length - k; omega, le_of [0] rfl rfl rfl ⟨step_num hlt2 (by omega), rfl, rfl, rfl, rfl, trivial⟩ ⟨by
          have : (if plc l (v : Int) < ((k + 1 : Nat) : Int) then plc l v else -1) = if plc l v < (k : Int) then plc l v else -1 := by
            by_cases h1 : plc l v < (k : Int)
            · rw [if_pos h1, if_pos (by omega)]
            · rw [if_neg h1, if_neg (by omega)]
          rw [this]; rfl, trivial⟩⟩
    · have hge2 := of_ge hge2
      have e : (if plc l (v : Int) < (k : Int) then plc l v else -1) = plc l v := by
        by_cases hm : (v : Int) ∈ l
        · have := plc_mem hd hm; rw [if_pos (by omega)]
        · rw [plc_none hm]; split <;> rfl
      rw [e]
      refine W0 ?_
      exact ⟨v + 1, hlt, by show n - (v + 1) < n - v; omega, le_of [0] rfl rfl rfl ⟨step_num hlt (by omega), rfl, rfl, rfl, trivial⟩ ⟨by rw [back_succ]; rfl, trivial⟩⟩
  · have hge := of_ge hge
    have : v = n := by omega
    subst this
    refine W0 ?_
    refine fin_frz TT ?_ rfl
    rfl
/-- A structural rule. -/
def mkR (l r : Graph) (k i : Mor) : Rule := ⟨⟨#[]⟩, ⟨l, [], 0, []⟩, ⟨r, [], 0, []⟩, k, i, true, .zero⟩
theorem c135 (l r : Graph) (k i : Mor) : Con P 135 [] [l.av, r.av, k.av, i.av] (mkR l r k i).av [] := by
  refine go Tryz.func135 (by rfl) rfl rfl rfl fun hl => ?_
  refine W0 ?_
  refine fin_frz TT ?_ rfl
  rfl
/-- What is kept, in order; where it goes. -/
def kpt (q : Mor) : Mor := ⟨srt q.nodes, srt q.edges⟩
def kin (q z : Mor) : Mor := ⟨(srt q.nodes).map (ledTo q.nodes z.nodes), (srt q.edges).map (ledTo q.edges z.edges)⟩
theorem srt_mem {l : List Int} {x : Int} : x ∈ srt l ↔ x ∈ l := (srt_perm l).mem_iff
theorem c122 (l r : Graph) (z q : Mor) (h1 : q.nodes.Nodup) (h2 : q.edges.Nodup) (h3 : q.nodes.length = z.nodes.length) (h4 : q.edges.length = z.edges.length) (h5 : ∀ x ∈ q.nodes, 0 ≤ x ∧ x < 1000) (h6 : ∀ x ∈ q.edges, 0 ≤ x ∧ x < 1000) (h7 : q.nodes.length ≤ 1000) (h8 : q.edges.length ≤ 1000) :
    Con P 122 [] [l.av, r.av, z.av, q.av] (mkR l r (kpt q) (kin q z)).av [] := by
  refine go Tryz.func122 (by rfl) rfl rfl rfl fun hl => ?_
  refine W0 ?_
  refine ⟨_, _, c173 q.nodes h5 h7, ?_⟩
  refine W0 ?_
  refine ⟨_, _, c173 q.edges h6 h8, ?_⟩
  refine W0 ?_
  refine ⟨by kernel_rfl, ?_⟩
  refine W0 ?_
  refine ⟨_, _, c176 (srt q.nodes) q.nodes z.nodes h1 (fun x hx => srt_mem.1 hx) h3 (by rw [srt_len]; exact h7) h7, ?_⟩
  refine W0 ?_
  refine ⟨_, _, c176 (srt q.edges) q.edges z.edges h2 (fun x hx => srt_mem.1 hx) h4 (by rw [srt_len]; exact h8) h8, ?_⟩
  refine W0 ?_
  refine ⟨_, _, c135 l r (kpt q) (kin q z), ?_⟩
  refine W0 ?_
  refine ⟨by kernel_rfl, ?_⟩
  refine W0 ?_
  refine fin_frz TT ?_ rfl
  rfl
end Go.Av.Z

/- The plain law of parts, complements and gluings. -/
namespace Go.Av.Z

theorem aval_mk {l : List Int} {n : Int} (h1 : ∀ x ∈ l, 0 ≤ x ∧ x < n) (h2 : l.Pairwise (· < ·)) : aval l n = 0 := by
  refine errs_zero fun j x hx => ?_
  have hb := h1 x (List.mem_of_getElem? hx)
  rw [Nat.zero_add, aerr, if_neg (by omega), if_neg]
  rintro ⟨hj, hle⟩
  obtain ⟨hlt, e⟩ := List.getElem?_eq_some_iff.1 hx
  have h3 := List.pairwise_iff_getElem.1 h2 (j - 1) j (by omega) hlt (by omega)
  have h4 : at0 l ((j : Int) - 1) = l[j - 1] := by
    rw [gt_at0, show ((j : Int) - 1).toNat = j - 1 by omega, gt, List.getD_eq_getElem?_getD, List.getElem?_eq_getElem (by omega)]; rfl
  omega
theorem aval_ok {l : List Int} {n : Int} (h : aval l n = 0) : (∀ x ∈ l, 0 ≤ x ∧ x < n) ∧ l.Pairwise (· < ·) := by
  refine ⟨fun x hx => ?_, aval_sorted h⟩
  obtain ⟨i, hi⟩ := List.mem_iff_getElem?.1 hx
  exact aval_at h hi
theorem lt_nodup {l : List Int} (h : l.Pairwise (· < ·)) : l.Nodup := h.imp fun h => by omega
theorem srt_lt {l : List Int} (h : l.Nodup) : (srt l).Pairwise (· < ·) := by
  have h1 := srt_sorted l
  have h2 : (srt l).Nodup := (srt_perm l).nodup_iff.2 h
  exact (h1.and h2).imp fun ⟨a, b⟩ => by have : _ ≠ _ := b; omega
theorem pval_mk {g : Graph} {p : Mor} (h0 : gval g = 0) (h1 : aval p.nodes g.nodes.length = 0) (h2 : aval p.edges g.edges.length = 0) (h3 : ∀ k ∈ p.edges, (atE g.edges k).src ∈ p.nodes ∧ (atE g.edges k).dst ∈ p.nodes) : pval g p = 0 := by
  rw [pval, if_neg (by simp [h0]), prt, if_neg (by simp [h1]), if_neg (by simp [h2])]
  refine errs_zero fun j x hx => ?_
  obtain ⟨h4, h5⟩ := h3 x (List.mem_of_getElem? hx)
  rw [perr, if_neg]
  simp [h4, h5]
theorem pval_edge {g : Graph} {p : Mor} (h : pval g p = 0) : ∀ k ∈ p.edges, (atE g.edges k).src ∈ p.nodes ∧ (atE g.edges k).dst ∈ p.nodes := by
  intro k hk
  obtain ⟨i, hi⟩ := List.mem_iff_getElem?.1 hk
  have := errs_off (pval_ok h).2.2.2 i k hi
  rw [perr] at this
  split at this
  · cases this
  · rename_i h1
    simp at h1
    exact h1
theorem mval_mk {a b : Graph} {m : Mor} (ha : gval a = 0) (hb : gval b = 0) (h1 : m.nodes.length = a.nodes.length) (h2 : m.edges.length = a.edges.length)
    (h3 : ∀ j, j < a.nodes.length → 0 ≤ gt m.nodes j ∧ gt m.nodes j < b.nodes.length ∧ gt b.nodes (gt m.nodes j).toNat = gt a.nodes j)
    (h4 : ∀ j : Nat, j < a.edges.length → 0 ≤ gt m.edges j ∧ gt m.edges j < b.edges.length ∧ (atE a.edges j).type = (atE b.edges (gt m.edges j)).type ∧ at0 m.nodes (atE a.edges j).src = (atE b.edges (gt m.edges j)).src ∧ at0 m.nodes (atE a.edges j).dst = (atE b.edges (gt m.edges j)).dst) : mval a b m = 0 := by
  rw [mval, if_neg (by simp [ha]), if_neg (by simp [hb]), if_neg (by omega)]
  have e1 : errs (mnode a b) 0 m.nodes = 0 := by
    refine errs_zero fun j x hx => ?_
    have hj := (List.getElem?_eq_some_iff.1 hx).1
    have hx' : x = gt m.nodes j := by have := gt_some hj; rw [hx] at this; exact Option.some.inj this
    obtain ⟨k1, k2, k3⟩ := h3 j (by omega)
    subst hx'
    rw [Nat.zero_add, mnode, if_neg (by omega), if_neg]
    rw [gt_at0, gt_at0, k3, Int.toNat_natCast]; simp
  rw [if_neg (by simp [e1])]
  refine errs_zero fun j x hx => ?_
  have hj := (List.getElem?_eq_some_iff.1 hx).1
  have hx' : x = gt m.edges j := by have := gt_some hj; rw [hx] at this; exact Option.some.inj this
  obtain ⟨k1, k2, k3, k4, k5⟩ := h4 j (by omega)
  subst hx'
  rw [Nat.zero_add, medge, if_neg (by omega), if_neg (by simp [k3]), if_neg (by rw [k4, k5]; simp)]
theorem minj_ok {a b : Graph} {m : Mor} (h : minj a b m = true) : mval a b m = 0 ∧ m.nodes.Nodup ∧ m.edges.Nodup := by
  rw [minj] at h
  simpa [and_assoc] using h
theorem minj_mk {a b : Graph} {m : Mor} (h1 : mval a b m = 0) (h2 : m.nodes.Nodup) (h3 : m.edges.Nodup) : minj a b m = true := by
  rw [minj, h1]; simp [h2, h3]
theorem gt_inj {l : List Int} (h : l.Nodup) {i j : Nat} (hi : i < l.length) (hj : j < l.length) (e : gt l i = gt l j) : i = j := by
  have h1 := plc_at h (gt_some hi)
  have h2 := plc_at h (gt_some hj)
  rw [e] at h1
  omega
theorem nodup_gt {l : List Int} (h : ∀ i j, i < l.length → j < l.length → gt l i = gt l j → i = j) : l.Nodup := by
  rw [List.Nodup, List.pairwise_iff_getElem]
  intro i j hi hj hij e
  have := h i j hi hj (by
    have h1 := gt_some hi
    have h2 := gt_some hj
    rw [List.getElem?_eq_getElem hi] at h1
    rw [List.getElem?_eq_getElem hj] at h2
    rw [← Option.some.inj h1, ← Option.some.inj h2, e])
  omega
theorem at_nat {α : Type} (l : List Edge) (n : Int) (h : 0 ≤ n) : atE l n = atE l (n.toNat : Nat) := by
  rw [Int.toNat_of_nonneg h]
theorem ext_node {g : Graph} {p : Mor} {j : Nat} (h : j < p.nodes.length) : gt (ext g p).nodes j = gt g.nodes (gt p.nodes j).toNat := by
  unfold ext; rw [gt_map h]; rfl
theorem ext_edge {g : Graph} {p : Mor} {j : Nat} (h : j < p.edges.length) : atE (ext g p).edges (j : Nat) = extE g p (gt p.edges j) := by
  unfold ext atE
  rw [List.getD_eq_getElem?_getD, Int.toNat_natCast, List.getElem?_map, gt_some h]; rfl
theorem ext_len (g : Graph) (p : Mor) : (ext g p).nodes.length = p.nodes.length ∧ (ext g p).edges.length = p.edges.length := by simp [ext]
theorem atE_mem {l : List Edge} {n : Int} (h0 : 0 ≤ n) (h : n < l.length) : atE l n ∈ l := List.mem_of_getElem? (atE_some (by omega))
theorem pval_nd {g : Graph} {p : Mor} (h : pval g p = 0) : p.nodes.Nodup ∧ p.edges.Nodup :=
  ⟨lt_nodup (aval_ok (pval_ok h).2.1).2, lt_nodup (aval_ok (pval_ok h).2.2.1).2⟩
theorem gval_ext {g : Graph} {p : Mor} (h : pval g p = 0) : gval (ext g p) = 0 := by
  obtain ⟨hg, h1, h2, _⟩ := pval_ok h
  have hl := gval_len hg
  have l1 := aval_len h1
  have l2 := aval_len h2
  have b1 := (aval_ok h1).1
  have b2 := (aval_ok h2).1
  obtain ⟨e1, e2⟩ := ext_len g p
  refine gval_mk (by omega) (by omega) ?_ ?_
  · intro n hn
    obtain ⟨k, hk, rfl⟩ := List.mem_map.1 (show n ∈ p.nodes.map (at0 g.nodes) from hn)
    have := b1 k hk
    exact gval_nodes hg _ (gt_mem (by omega))
  · intro e he
    obtain ⟨k, hk, rfl⟩ := List.mem_map.1 (show e ∈ p.edges.map (extE g p) from he)
    have hb := b2 k hk
    obtain ⟨m1, m2⟩ := pval_edge h k hk
    have p1 := plc_mem (pval_nd h).1 m1
    have p2 := plc_mem (pval_nd h).1 m2
    have := gval_edges hg _ (atE_mem hb.1 hb.2)
    rw [e1]
    simp only [extE]
    omega
/-- The inclusion of a part. -/
theorem mval_incl {g : Graph} {p : Mor} (h : pval g p = 0) : mval (ext g p) g p = 0 := by
  obtain ⟨hg, h1, h2, _⟩ := pval_ok h
  have b1 := (aval_ok h1).1
  have b2 := (aval_ok h2).1
  obtain ⟨e1, e2⟩ := ext_len g p
  refine mval_mk (gval_ext h) hg e1.symm e2.symm ?_ ?_
  · intro j hj
    have := b1 _ (gt_mem (by omega : j < p.nodes.length))
    exact ⟨this.1, this.2, (ext_node (by omega)).symm⟩
  · intro j hj
    have hm := gt_mem (by omega : j < p.edges.length)
    have hb := b2 _ hm
    obtain ⟨m1, m2⟩ := pval_edge h _ hm
    have p1 := plc_mem (pval_nd h).1 m1
    have p2 := plc_mem (pval_nd h).1 m2
    rw [ext_edge (by omega)]
    refine ⟨hb.1, hb.2, rfl, ?_, ?_⟩
    · simp only [extE, gt_at0]; exact p1.2.2
    · simp only [extE, gt_at0]; exact p2.2.2
/-- The part of the images of an injective morphism. -/
theorem pval_img {a b : Graph} {m : Mor} (h : mval a b m = 0) (h1 : m.nodes.Nodup) (h2 : m.edges.Nodup) : pval b (kpt m) = 0 := by
  obtain ⟨ha, hb, l1, l2, _⟩ := mval_ok h
  refine pval_mk hb (aval_mk (fun x hx => mval_node h x (srt_mem.1 hx)) (srt_lt h1)) (aval_mk (fun x hx => mval_edge h x (srt_mem.1 hx)) (srt_lt h2)) ?_
  intro k hk
  obtain ⟨j, hj⟩ := List.mem_iff_getElem?.1 (srt_mem.1 hk)
  have hjl := (List.getElem?_eq_some_iff.1 hj).1
  have e : k = gt m.edges j := by have := gt_some hjl; rw [hj] at this; exact Option.some.inj this
  have he := mval_et h (j := j) (by omega)
  have hv := gval_edges ha _ (atE_mem (l := a.edges) (n := (j : Nat)) (by omega) (by omega))
  subst e
  rw [← he.2.1, ← he.2.2]
  exact ⟨srt_mem.2 (gt_mem (by omega)), srt_mem.2 (gt_mem (by omega))⟩
end Go.Av.Z

/- The plain law of complements. -/
namespace Go.Av.Z

theorem sel_mem {α β : Type} (f : Nat → α → Option β) : ∀ (l : List α) (n : Nat) (y : β), y ∈ sel f n l ↔ ∃ j x, l[j]? = some x ∧ f (n + j) x = some y
  | [], n, y => by simp [sel]
  | x :: r, n, y => by
    have ih := sel_mem f r (n + 1) y
    have hr : (∃ j x', (x :: r)[j]? = some x' ∧ f (n + j) x' = some y) ↔ f n x = some y ∨ ∃ j x', r[j]? = some x' ∧ f (n + 1 + j) x' = some y := by
      constructor
      · rintro ⟨j, x', h1, h2⟩
        cases j with
        | zero => simp at h1; subst h1; exact .inl h2
        | succ j => exact .inr ⟨j, x', by simpa using h1, by rw [show n + 1 + j = n + (j + 1) by omega]; exact h2⟩
      · rintro (h | ⟨j, x', h1, h2⟩)
        · exact ⟨0, x, rfl, h⟩
        · exact ⟨j + 1, x', by simpa using h1, by rw [show n + (j + 1) = n + 1 + j by omega]; exact h2⟩
    rw [hr, ← ih, sel]
    cases h : f n x with
    | none => simp
    | some z =>
      simp only [List.mem_cons, Option.some.injEq]
      exact ⟨fun h => h.imp Eq.symm id, fun h => h.imp Eq.symm id⟩
theorem gone_mem {images keep : List Int} {v : Int} : v ∈ gone images keep ↔ ∃ j : Nat, j < images.length ∧ (j : Int) ∉ keep ∧ gt images j = v := by
  unfold gone
  rw [sel_mem]
  constructor
  · rintro ⟨j, x, h1, h2⟩
    have hj := (List.getElem?_eq_some_iff.1 h1).1
    rw [Nat.zero_add, goneF] at h2
    split at h2
    · cases h2
    · rename_i h3
      have := gt_some hj
      rw [h1] at this
      exact ⟨j, hj, by simpa using h3, by rw [← Option.some.inj this]; exact Option.some.inj h2⟩
  · rintro ⟨j, hj, h1, h2⟩
    refine ⟨j, _, gt_some hj, ?_⟩
    rw [Nat.zero_add, goneF, if_neg (by simpa using h1), h2]
theorem restL_mem {n : Nat} {gn : List Int} {v : Int} : v ∈ restL n gn ↔ (0 ≤ v ∧ v < n) ∧ v ∉ gn := by
  unfold restL
  rw [List.mem_map]
  constructor
  · rintro ⟨i, hi, rfl⟩
    have h1 := List.mem_filter.1 hi
    simp at h1
    exact ⟨by omega, h1.2⟩
  · rintro ⟨⟨h1, h2⟩, h3⟩
    obtain ⟨i, rfl⟩ := Int.eq_ofNat_of_zero_le h1
    exact ⟨i, List.mem_filter.2 ⟨by simp; omega, by simpa using h3⟩, rfl⟩
theorem restL_lt (n : Nat) (gn : List Int) : (restL n gn).Pairwise (· < ·) := by
  unfold restL
  rw [List.pairwise_map]
  exact (List.Pairwise.filter _ List.pairwise_lt_range).imp fun h => by omega
theorem prs_nil {images keep : List Int} (h : images.Nodup) : prs images keep = [] := by
  unfold prs pOut
  rw [List.flatMap_eq_nil_iff]
  intro a ha
  unfold pIn
  rw [List.map_eq_nil_iff, List.filter_eq_nil_iff]
  intro b hb
  simp at ha hb
  simp only [Bool.and_eq_true, decide_eq_true_eq, not_and]
  intro hab
  unfold pOk
  simp only [Bool.and_eq_true, not_and, beq_iff_eq]
  intro e
  exfalso
  rw [gt_at0, gt_at0, Int.toNat_natCast, Int.toNat_natCast] at e
  have := gt_inj h ha hb e
  omega
/-- What a gluing's complement wants: a part of r, an injective morphism to x. -/
structure Cmp (r x : Graph) (p m : Mor) : Prop where
  v : mval r x m = 0
  n1 : m.nodes.Nodup
  n2 : m.edges.Nodup
  pt : pval r p = 0
section
variable {r x : Graph} {p m : Mor}
theorem Cmp.giv (h : Cmp r x p m) : cgiv r x p m = 0 := by rw [cgiv, if_neg (by simp [h.v]), h.pt]
theorem Cmp.err (h : Cmp r x p m) : cerr r x p m = if 0 < (dang x p m).length then 14 else 0 := by
  rw [cerr, if_neg (by simp [h.giv]), prs_nil h.n1, prs_nil h.n2]
  rfl
end
section
variable {r x : Graph} {p m : Mor}
theorem Cmp.part (h : Cmp r x p m) (he : cerr r x p m = 0) : cpart r x p m = ⟨restL x.nodes.length (gone m.nodes p.nodes), restL x.edges.length (gone m.edges p.edges)⟩ := by rw [cpart, if_pos he]
theorem Cmp.kn (h : Cmp r x p m) (he : cerr r x p m = 0) {j : Nat} (hj : j < r.nodes.length) (hk : (j : Int) ∈ p.nodes) : gt m.nodes j ∈ (cpart r x p m).nodes := by
  have l1 := (mval_ok h.v).2.2.1
  rw [h.part he, restL_mem]
  refine ⟨mval_node h.v _ (gt_mem (by omega)), fun hg => ?_⟩
  obtain ⟨i, hi, h1, h2⟩ := gone_mem.1 hg
  have := gt_inj h.n1 hi (by omega) h2
  subst this
  exact h1 hk
theorem Cmp.ke (h : Cmp r x p m) (he : cerr r x p m = 0) {j : Nat} (hj : j < r.edges.length) (hk : (j : Int) ∈ p.edges) : gt m.edges j ∈ (cpart r x p m).edges := by
  have l1 := (mval_ok h.v).2.2.2.1
  rw [h.part he, restL_mem]
  refine ⟨mval_edge h.v _ (gt_mem (by omega)), fun hg => ?_⟩
  obtain ⟨i, hi, h1, h2⟩ := gone_mem.1 hg
  have := gt_inj h.n2 hi (by omega) h2
  subst this
  exact h1 hk
theorem Cmp.z (h : Cmp r x p m) (he : cerr r x p m = 0) : pval x (cpart r x p m) = 0 := by
  obtain ⟨hr, hx, l1, l2, _⟩ := mval_ok h.v
  have hp := h.part he
  have hd : ¬ 0 < (dang x p m).length := fun hd => by
    rw [h.err, if_pos hd] at he; cases he
  have hdn : dang x p m = [] := List.eq_nil_of_length_eq_zero (by omega)
  refine pval_mk hx ?_ ?_ ?_
  · rw [hp]; exact aval_mk (fun v hv => (restL_mem.1 hv).1) (restL_lt _ _)
  · rw [hp]; exact aval_mk (fun v hv => (restL_mem.1 hv).1) (restL_lt _ _)
  · intro k hk
    have hk' : k ∈ restL x.edges.length (gone m.edges p.edges) := by rw [hp] at hk; exact hk
    obtain ⟨hb, hng⟩ := restL_mem.1 hk'
    have hv := gval_edges hx _ (atE_mem hb.1 hb.2)
    by_cases hm : k ∈ m.edges
    · obtain ⟨j, hj⟩ := List.mem_iff_getElem?.1 hm
      have hjl := (List.getElem?_eq_some_iff.1 hj).1
      have e : k = gt m.edges j := by have := gt_some hjl; rw [hj] at this; exact Option.some.inj this
      have hkp : (j : Int) ∈ p.edges := by
        by_cases c : (j : Int) ∈ p.edges
        · exact c
        · exact absurd (gone_mem.2 ⟨j, hjl, c, e.symm⟩) hng
      have het := mval_et h.v (j := j) (by omega)
      have hre := gval_edges hr _ (atE_mem (l := r.edges) (n := (j : Nat)) (by omega) (by omega))
      obtain ⟨q1, q2⟩ := pval_edge h.pt _ hkp
      subst e
      rw [← het.2.1, ← het.2.2, gt_at0, gt_at0]
      refine ⟨h.kn he (by omega) (by rw [Int.toNat_of_nonneg hre.1]; exact q1), h.kn he (by omega) (by rw [Int.toNat_of_nonneg hre.2.2.1]; exact q2)⟩
    · have hno : dangF m (gone m.nodes p.nodes) k.toNat (atE x.edges k) = none := by
        cases hc : dangF m (gone m.nodes p.nodes) k.toNat (atE x.edges k) with
        | none => rfl
        | some y =>
          have : y ∈ dang x p m := (sel_mem _ _ _ _).2 ⟨k.toNat, atE x.edges k, atE_some (by omega), by rw [Nat.zero_add]; exact hc⟩
          rw [hdn] at this; cases this
      rw [dangF, Int.toNat_of_nonneg hb.1] at hno
      split at hno
      · cases hno
      · rename_i hc
        simp [hm] at hc
        rw [hp]
        exact ⟨restL_mem.2 ⟨⟨hv.1, hv.2.1⟩, hc.1⟩, restL_mem.2 ⟨⟨hv.2.2.1, hv.2.2.2.1⟩, hc.2⟩⟩
end
end Go.Av.Z

/- The plain law of pushouts along injective morphisms. -/
namespace Go.Av.Z

/-- A span of injective morphisms, whose union isn't too large. -/
structure PoInj (s : Span) : Prop where
  ok : PoOk s
  f1 : s.f.nodes.Nodup
  f2 : s.f.edges.Nodup
  g1 : s.g.nodes.Nodup
  g2 : s.g.edges.Nodup
/-- Equal places of classes, equal classes. -/
theorem qn_inj {p : List Int} (hp : Ptn p) {i j : Nat} (hi : i < p.length) (hj : j < p.length) (h : gt (qn p) i = gt (qn p) j) : gt p i = gt p j := by
  obtain ⟨_, _, k1⟩ := quo_at (fun i => i) hp p.length (Nat.le_refl _) i hi
  obtain ⟨_, _, k2⟩ := quo_at (fun i => i) hp p.length (Nat.le_refl _) j hj
  rw [h, k2] at k1
  have := Option.some.inj k1
  have h1 := hp.low i hi
  have h2 := hp.low j hj
  omega
/-- In the classes that pairs of two injective lists make, elements of the left side are alone. -/
theorem cls_left {n k : Nat} {f g : List Int} (hf : ∀ x ∈ f, 0 ≤ x ∧ x < n) (hg : ∀ x ∈ g, 0 ≤ x ∧ x < k) (hl : f.length = g.length) (hg1 : g.Nodup) {a b : Nat} (ha : a < n) (hb : b < n)
    (h : gt (gen (n + k) (pairsU n k f g)) a = gt (gen (n + k) (pairsU n k f g)) b) : a = b := by
  let F : Nat → Int := fun v => if v < n then v else if ((v : Int) - n) ∈ g then gt f (plc g ((v : Int) - n)).toNat else v
  have hF : ∀ i, i < n + k → F (gt (gen (n + k) (pairsU n k f g)) i).toNat = F i := by
    refine gen_resp F (pairsU_inR hf hg hl) ?_
    intro x hx
    obtain ⟨j, hj, rfl⟩ := (pairsU_mem hf hg hl x).1 hx
    have f1 := hf _ (gt_mem hj)
    have g1 := hg _ (gt_mem (by omega : j < g.length))
    have hp := plc_at hg1 (gt_some (by omega : j < g.length))
    show (if (gt f j).toNat < n then _ else _) = if ((n : Int) + gt g j).toNat < n then _ else _
    rw [if_pos (by omega), if_neg (by omega), show (((n : Int) + gt g j).toNat : Int) - n = gt g j by omega, if_pos (gt_mem (by omega)), hp, Int.toNat_natCast]
    omega
  have h1 := hF a (by omega)
  have h2 := hF b (by omega)
  rw [h, h2] at h1
  have e1 : F b = b := if_pos hb
  have e2 : F a = a := if_pos ha
  rw [e1, e2] at h1
  omega
theorem cls_right {n k : Nat} {f g : List Int} (hf : ∀ x ∈ f, 0 ≤ x ∧ x < n) (hg : ∀ x ∈ g, 0 ≤ x ∧ x < k) (hl : f.length = g.length) (hf1 : f.Nodup) {a b : Nat} (ha : a < k) (hb : b < k)
    (h : gt (gen (n + k) (pairsU n k f g)) (n + a) = gt (gen (n + k) (pairsU n k f g)) (n + b)) : a = b := by
  let F : Nat → Int := fun v => if n ≤ v then v else if (v : Int) ∈ f then n + gt g (plc f (v : Int)).toNat else v
  have hF : ∀ i, i < n + k → F (gt (gen (n + k) (pairsU n k f g)) i).toNat = F i := by
    refine gen_resp F (pairsU_inR hf hg hl) ?_
    intro x hx
    obtain ⟨j, hj, rfl⟩ := (pairsU_mem hf hg hl x).1 hx
    have f1 := hf _ (gt_mem hj)
    have g1 := hg _ (gt_mem (by omega : j < g.length))
    have hp := plc_at hf1 (gt_some hj)
    show (if n ≤ (gt f j).toNat then _ else _) = if n ≤ ((n : Int) + gt g j).toNat then _ else _
    rw [if_neg (by omega), show ((gt f j).toNat : Int) = gt f j by omega, if_pos (gt_mem hj), hp, Int.toNat_natCast, if_pos (by omega)]
    show (n : Int) + gt g j = (((n : Int) + gt g j).toNat : Int)
    omega
  have h1 := hF (n + a) (by omega)
  have h2 := hF (n + b) (by omega)
  rw [h, h2] at h1
  have e1 : F (n + b) = ((n + b : Nat) : Int) := if_pos (by omega)
  have e2 : F (n + a) = ((n + a : Nat) : Int) := if_pos (by omega)
  rw [e1, e2] at h1
  omega
theorem qc_le (p : List Int) : qc p ≤ p.length := qst_le p p.length
theorem quoG_len (g : Graph) (p r : List Int) : (quoG g p r).nodes.length = qc p ∧ (quoG g p r).edges.length = qc r := by
  unfold quoG
  rw [quoN_quo, quoE_quo, quo_len, quo_len]
  exact ⟨rfl, rfl⟩
theorem quo_mem {α : Type} {f : Nat → α} {p : List Int} {x : α} : ∀ {n : Nat}, x ∈ quo f p n → ∃ i, i < n ∧ x = f i
  | 0, hx => by cases hx
  | n + 1, hx => by
    rw [quo] at hx
    split at hx
    · rcases List.mem_append.1 hx with k | k
      · obtain ⟨i, hi, e⟩ := quo_mem k; exact ⟨i, by omega, e⟩
      · exact ⟨n, by omega, by simpa using k⟩
    · obtain ⟨i, hi, e⟩ := quo_mem hx; exact ⟨i, by omega, e⟩
theorem gt_rngf {f n i : Nat} (h : i < n) : gt (rng f n) i = ((f + i : Nat) : Int) := by simp [gt, List.getD_eq_getElem?_getD, rng_at h]
section
variable {s : Span}
theorem PoOk.pn (h : PoOk s) : Ptn (poN s) ∧ (poN s).length = s.b.nodes.length + s.c.nodes.length := ⟨gen_ptn h.nR, by rw [poN, gen_len, (un_len _ _).1]⟩
theorem PoOk.pe (h : PoOk s) : Ptn (poE s) ∧ (poE s).length = s.b.edges.length + s.c.edges.length := ⟨gen_ptn h.eR, by rw [poE, gen_len, (un_len _ _).2]⟩
theorem PoOk.lenG (h : PoOk s) : (poG s).nodes.length = qc (poN s) ∧ (poG s).edges.length = qc (poE s) := quoG_len _ _ _
/-- Where a node of the union goes, its type is. -/
theorem PoOk.qnode (h : PoOk s) {v : Nat} (hv : v < s.b.nodes.length + s.c.nodes.length) : 0 ≤ gt (qn (poN s)) v ∧ gt (qn (poN s)) v < (poG s).nodes.length ∧ gt (poG s).nodes (gt (qn (poN s)) v).toNat = gt (unG s.b s.c).nodes v := by
  obtain ⟨hp, hl⟩ := h.pn
  obtain ⟨k1, k2, k3⟩ := quo_at (gt (unG s.b s.c).nodes) hp (poN s).length (Nat.le_refl _) v (by omega)
  rw [← quoN_quo] at k3
  refine ⟨k1, by rw [h.lenG.1]; exact k2, ?_⟩
  have : (poG s).nodes[(gt (qn (poN s)) v).toNat]? = some (gt (unG s.b s.c).nodes (gt (poN s) v).toNat) := k3
  have h2 := gt_some (q := (poG s).nodes) (i := (gt (qn (poN s)) v).toNat) (by have := h.lenG.1; unfold qc at this; omega)
  rw [this] at h2
  rw [← Option.some.inj h2]
  exact h.nodes v (by omega)
theorem PoOk.qedge (h : PoOk s) {v : Nat} (hv : v < s.b.edges.length + s.c.edges.length) : 0 ≤ gt (qn (poE s)) v ∧ gt (qn (poE s)) v < (poG s).edges.length ∧ atE (poG s).edges (gt (qn (poE s)) v) = mapE (qn (poN s)) (atE (unG s.b s.c).edges (v : Nat)) := by
  obtain ⟨hp, hl⟩ := h.pe
  obtain ⟨k1, k2, k3⟩ := quo_at (fun i => mapE (qn (poN s)) (atE (unG s.b s.c).edges (i : Nat))) hp (poE s).length (Nat.le_refl _) v (by omega)
  rw [← quoE_quo] at k3
  have hlt : gt (qn (poE s)) v < (poG s).edges.length := by rw [h.lenG.2]; exact k2
  refine ⟨k1, hlt, ?_⟩
  have : (poG s).edges[(gt (qn (poE s)) v).toNat]? = some (mapE (qn (poN s)) (atE (unG s.b s.c).edges ((gt (poE s) v).toNat : Nat))) := k3
  have h2 := atE_some (l := (poG s).edges) (n := gt (qn (poE s)) v) (by omega)
  rw [this] at h2
  rw [← Option.some.inj h2]
  exact h.edges v (by omega)
theorem PoOk.gv (h : PoOk s) : gval (poG s) = 0 := by
  obtain ⟨hp, hl⟩ := h.pn
  obtain ⟨hp2, hl2⟩ := h.pe
  have hu := gval_un h.u
  have hul := un_len s.b s.c
  have ho := uerr_ok h.u
  have q1 := qc_le (poN s)
  have q2 := qc_le (poE s)
  have l1 := h.lenG.1
  have l2 := h.lenG.2
  refine gval_mk (by omega) (by omega) ?_ ?_
  · intro n hn
    have hn : n ∈ quoN (unG s.b s.c).nodes (poN s) (poN s).length := hn
    rw [quoN_quo] at hn
    obtain ⟨i, hi, rfl⟩ := quo_mem hn
    exact gval_nodes hu _ (gt_mem (by omega))
  · intro e he
    have he : e ∈ quoE (unG s.b s.c).edges (qn (poN s)) (poE s) (poE s).length := he
    rw [quoE_quo] at he
    obtain ⟨i, hi, rfl⟩ := quo_mem he
    have hv := gval_edges hu _ (atE_mem (l := (unG s.b s.c).edges) (n := (i : Nat)) (by omega) (by omega))
    have k1 := h.qnode (v := (atE (unG s.b s.c).edges (i : Nat)).src.toNat) (by omega)
    have k2 := h.qnode (v := (atE (unG s.b s.c).edges (i : Nat)).dst.toNat) (by omega)
    simp only [mapE, gt_at0]
    omega
theorem PoOk.left (h : PoOk s) : mval s.b (poG s) (poL s) = 0 := by
  have hb := (uerr_ok h.u).1
  have hr1 : (rng 0 s.b.nodes.length).length = s.b.nodes.length := rng_len _ _
  have hr2 : (rng 0 s.b.edges.length).length = s.b.edges.length := rng_len _ _
  have hgt1 : ∀ j, j < s.b.nodes.length → gt (poL s).nodes j = gt (qn (poN s)) j := fun j hj => by
    unfold poL mthen un1 poQ quoM
    simp only
    rw [gt_map (by omega), gt_at0, gt_rng hj, Int.toNat_natCast]
  have hgt2 : ∀ j, j < s.b.edges.length → gt (poL s).edges j = gt (qn (poE s)) j := fun j hj => by
    unfold poL mthen un1 poQ quoM
    simp only
    rw [gt_map (by omega), gt_at0, gt_rng hj, Int.toNat_natCast]
  refine mval_mk hb h.gv (by simp [poL, mthen, un1, rng_len]) (by simp [poL, mthen, un1, rng_len]) ?_ ?_
  · intro j hj
    obtain ⟨k1, k2, k3⟩ := h.qnode (v := j) (by omega)
    rw [hgt1 j hj]
    exact ⟨k1, k2, by rw [k3, un_nodes_left hj]⟩
  · intro j hj
    obtain ⟨k1, k2, k3⟩ := h.qedge (v := j) (by omega)
    have hv := gval_edges hb _ (atE_mem (l := s.b.edges) (n := (j : Nat)) (by omega) (by omega))
    rw [hgt2 j hj, k3, un_edges_left hj]
    refine ⟨k1, k2, rfl, ?_, ?_⟩
    · rw [gt_at0, hgt1 _ (by omega)]; rfl
    · rw [gt_at0, hgt1 _ (by omega)]; rfl
theorem PoOk.right (h : PoOk s) : mval s.c (poG s) (poR s) = 0 := by
  have hb := (uerr_ok h.u).2.1
  have hr1 : (rng s.b.nodes.length s.c.nodes.length).length = s.c.nodes.length := rng_len _ _
  have hr2 : (rng s.b.edges.length s.c.edges.length).length = s.c.edges.length := rng_len _ _
  have hgt1 : ∀ j, j < s.c.nodes.length → gt (poR s).nodes j = gt (qn (poN s)) (s.b.nodes.length + j) := fun j hj => by
    unfold poR mthen un2 poQ quoM
    simp only
    rw [gt_map (by omega), gt_at0, gt_rngf hj, Int.toNat_natCast]
  have hgt2 : ∀ j, j < s.c.edges.length → gt (poR s).edges j = gt (qn (poE s)) (s.b.edges.length + j) := fun j hj => by
    unfold poR mthen un2 poQ quoM
    simp only
    rw [gt_map (by omega), gt_at0, gt_rngf hj, Int.toNat_natCast]
  refine mval_mk hb h.gv (by simp [poR, mthen, un2, rng_len]) (by simp [poR, mthen, un2, rng_len]) ?_ ?_
  · intro j hj
    obtain ⟨k1, k2, k3⟩ := h.qnode (v := s.b.nodes.length + j) (by omega)
    rw [hgt1 j hj]
    exact ⟨k1, k2, by rw [k3, un_nodes_right]⟩
  · intro j hj
    obtain ⟨k1, k2, k3⟩ := h.qedge (v := s.b.edges.length + j) (by omega)
    have hv := gval_edges hb _ (atE_mem (l := s.c.edges) (n := (j : Nat)) (by omega) (by omega))
    rw [hgt2 j hj, k3, un_edges_right hj]
    refine ⟨k1, k2, rfl, ?_, ?_⟩
    · rw [gt_at0, hgt1 _ (by omega)]; simp only [mapE, shE, gt_at0]; congr 1; omega
    · rw [gt_at0, hgt1 _ (by omega)]; simp only [mapE, shE, gt_at0]; congr 1; omega
end
section
variable {s : Span}
theorem PoInj.left (h : PoInj s) : (poL s).nodes.Nodup ∧ (poL s).edges.Nodup := by
  have hr1 : (rng 0 s.b.nodes.length).length = s.b.nodes.length := rng_len _ _
  have hr2 : (rng 0 s.b.edges.length).length = s.b.edges.length := rng_len _ _
  have l1 : (poL s).nodes.length = s.b.nodes.length := by simp [poL, mthen, un1, rng_len]
  have l2 : (poL s).edges.length = s.b.edges.length := by simp [poL, mthen, un1, rng_len]
  have lf := mval_ok h.ok.f
  have lg := mval_ok h.ok.g
  constructor
  · refine nodup_gt fun i j hi hj e => ?_
    have hgt1 : ∀ j, j < s.b.nodes.length → gt (poL s).nodes j = gt (qn (poN s)) j := fun j hj => by
      unfold poL mthen un1 poQ quoM
      simp only
      rw [gt_map (by omega), gt_at0, gt_rng hj, Int.toNat_natCast]
    rw [hgt1 _ (by omega), hgt1 _ (by omega)] at e
    obtain ⟨hp, hl⟩ := h.ok.pn
    have e := qn_inj hp (by omega) (by omega) e
    rw [poN, (un_len _ _).1] at e
    exact cls_left (mval_node h.ok.f) (mval_node h.ok.g) (by omega) h.g1 (by omega) (by omega) e
  · refine nodup_gt fun i j hi hj e => ?_
    have hgt1 : ∀ j, j < s.b.edges.length → gt (poL s).edges j = gt (qn (poE s)) j := fun j hj => by
      unfold poL mthen un1 poQ quoM
      simp only
      rw [gt_map (by omega), gt_at0, gt_rng hj, Int.toNat_natCast]
    rw [hgt1 _ (by omega), hgt1 _ (by omega)] at e
    obtain ⟨hp, hl⟩ := h.ok.pe
    have e := qn_inj hp (by omega) (by omega) e
    rw [poE, (un_len _ _).2] at e
    exact cls_left (mval_edge h.ok.f) (mval_edge h.ok.g) (by omega) h.g2 (by omega) (by omega) e
theorem PoInj.right (h : PoInj s) : (poR s).nodes.Nodup ∧ (poR s).edges.Nodup := by
  have hr1 : (rng s.b.nodes.length s.c.nodes.length).length = s.c.nodes.length := rng_len _ _
  have hr2 : (rng s.b.edges.length s.c.edges.length).length = s.c.edges.length := rng_len _ _
  have l1 : (poR s).nodes.length = s.c.nodes.length := by simp [poR, mthen, un2, rng_len]
  have l2 : (poR s).edges.length = s.c.edges.length := by simp [poR, mthen, un2, rng_len]
  have lf := mval_ok h.ok.f
  have lg := mval_ok h.ok.g
  constructor
  · refine nodup_gt fun i j hi hj e => ?_
    have hgt1 : ∀ j, j < s.c.nodes.length → gt (poR s).nodes j = gt (qn (poN s)) (s.b.nodes.length + j) := fun j hj => by
      unfold poR mthen un2 poQ quoM
      simp only
      rw [gt_map (by omega), gt_at0, gt_rngf hj, Int.toNat_natCast]
    rw [hgt1 _ (by omega), hgt1 _ (by omega)] at e
    obtain ⟨hp, hl⟩ := h.ok.pn
    have e := qn_inj hp (by omega) (by omega) e
    rw [poN, (un_len _ _).1] at e
    exact cls_right (mval_node h.ok.f) (mval_node h.ok.g) (by omega) h.f1 (by omega) (by omega) e
  · refine nodup_gt fun i j hi hj e => ?_
    have hgt1 : ∀ j, j < s.c.edges.length → gt (poR s).edges j = gt (qn (poE s)) (s.b.edges.length + j) := fun j hj => by
      unfold poR mthen un2 poQ quoM
      simp only
      rw [gt_map (by omega), gt_at0, gt_rngf hj, Int.toNat_natCast]
    rw [hgt1 _ (by omega), hgt1 _ (by omega)] at e
    obtain ⟨hp, hl⟩ := h.ok.pe
    have e := qn_inj hp (by omega) (by omega) e
    rw [poE, (un_len _ _).2] at e
    exact cls_right (mval_edge h.ok.f) (mval_edge h.ok.g) (by omega) h.f2 (by omega) (by omega) e
end
end Go.Av.Z
