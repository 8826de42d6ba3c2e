/- The contracts of the functions that the law of Applicable reaches, and the law. Part 5 of 5 of a proof: the logic Av, contracts of functions. -/
import Derived.Test.YtaabmnpedhggoaaGreatAvD
import Derived.Test.YtaabmnpedhggoaaGreatRows
import Derived.WalkKit
import Derived.ProofKit
import Derived.OpenShut
import Derived.JoinedCond
set_option linter.unusedVariables false
set_option maxRecDepth 100000
/- Type graphs: given types, what fits. -/
set_option maxHeartbeats 4000000
namespace Go.Av.Z
open Go.Proofs

theorem tval_ok {t : Types} (h : tval t = 0) : tpo t.nodes ∧ (∀ (i : Nat) (e : EdgeT), t.edges[i]? = some e → 0 ≤ e.src ∧ 0 ≤ e.dst) ∧ t.nodes.length ≤ 12 ∧ t.edges.length ≤ 20 := by
  unfold tval at h
  split at h
  · cases h
  split at h
  · cases h
  split at h
  · contradiction
  rename_i h1 h2 h3
  have h3 : errs (ndE t) 0 t.nodes = 0 := by simpa using h3
  refine ⟨fun j n hn => ndE_par (by have := errs_off h3 j n hn; rwa [Nat.zero_add] at this), fun i e he => ?_, by omega, by omega⟩
  have := errs_off h i e he
  rw [Nat.zero_add] at this
  unfold edE at this
  split at this
  · cases this
  split at this
  · cases this
  split at this
  · cases this
  split at this
  · cases this
  rename_i _ _ g1 g2
  simp [endB, inB] at g1 g2
  omega
def outB (t : Types) (n : Int) : Bool := decide (n < 0) || decide ((t.nodes.length : Int) ≤ n)
theorem c203 (t : Types) (n : Int) : Con P 203 [] [.int .i64 n, .fptr t.cs] (.bool (outB t n)) [] := by
  refine go Tryz.func203 (by rfl) rfl rfl rfl fun hl => ?_
  refine W0 ?_
  refine ⟨fun h1 => ?_, fun h1 => ?_⟩
  · refine V0 ?_
    refine fin_frz TT ?_ rfl
    rw [outB, h1]; rfl
  · refine V0 ?_
    rw [ndts_len]
    refine fin_frz TT ?_ rfl
    rw [outB, h1]; rfl
theorem c155 (t : Types) (ht : t.ok) (hv : tval t = 0) (l : List Int) : Con P 155 [] [t.av, .slice 1 (nums l)] (.int .i64 (if l.any (outB t) = true then 6 else 0)) [] := by
  refine go Tryz.func155 (by rfl) rfl rfl rfl fun hl => ?_
  refine W0 ?_
  have e : tvV t = .tuple [.str (tnam t), .int .i64 0] := by rw [tvV, hv]
  refine ⟨_, _, e ▸ c68 t ht, ?_⟩
  refine V0 ?_
  refine ⟨_, _, con_frz rfl rfl rfl (c99a t.cs l 203 (outB t) (fun n _ => c203 t n)), ?_⟩
  refine V0 ?_
  refine ⟨fun h1 => ?_, fun h1 => ?_⟩
  · refine V0 ?_
    refine fin_frz TT ?_ rfl
    rw [if_pos h1]; rfl
  · refine V0 ?_
    refine fin_frz TT ?_ rfl
    rw [if_neg (by simp [h1])]; rfl
theorem c166 (t : Types) (ht : t.ok) (hv : tval t = 0) (a b : Int) : Con P 166 [] [t.av, .int .i64 a, .int .i64 b] (.int .i64 (if [a, b].any (outB t) = true then 6 else 0)) [] := by
  have hl := (tval_ok hv).2.2.1
  have ho : ∀ n, outB t n = !inB n 0 ((t.nodes.length : Int) - 1) := fun n => by
    rw [outB, inB, Bool.not_and]
    congr 1
    · rw [← decide_not, decide_eq_decide]; omega
    · rw [← decide_not, decide_eq_decide]; omega
  refine go Tryz.func166 (by rfl) rfl rfl rfl fun hl => ?_
  refine W0 ?_
  have e : tvV t = .tuple [.str (tnam t), .int .i64 0] := by rw [tvV, hv]
  refine ⟨_, _, e ▸ c49 t ht, ?_⟩
  refine V0 ?_
  rw [ndts_len, wrap_small (n := (t.nodes.length : Int) - 1) (by omega) (by omega)]
  refine ⟨_, _, c162 a 0 ((t.nodes.length : Int) - 1), ?_⟩
  rw [← Bool.not_not (inB a 0 _), ← ho a]
  refine V0 ?_
  refine ⟨fun h1 => ?_, fun h1 => ?_⟩
  · have h1 : outB t a = true := by simpa using h1
    refine V0 ?_
    refine fin_frz TT ?_ rfl
    rw [List.any_cons, h1]; rfl
  · have h1 : outB t a = false := by simpa using h1
    refine V0 ?_
    rw [ndts_len, wrap_small (n := (t.nodes.length : Int) - 1) (by omega) (by omega)]
    refine ⟨_, _, c162 b 0 ((t.nodes.length : Int) - 1), ?_⟩
    rw [← Bool.not_not (inB b 0 _), ← ho b]
    refine V0 ?_
    refine ⟨fun h2 => ?_, fun h2 => ?_⟩
    · have h2 : outB t b = true := by simpa using h2
      refine V0 ?_
      refine fin_frz TT ?_ rfl
      rw [List.any_cons, h1, List.any_cons, h2]; rfl
    · have h2 : outB t b = false := by simpa using h2
      refine V0 ?_
      refine fin_frz TT ?_ rfl
      rw [List.any_cons, h1, List.any_cons, h2]; rfl
/-- An edge type fits two node types. -/
def ftsB (t : Types) (k a b : Int) : Bool :=
  !([a, b].any (outB t)) && (decide (0 ≤ k) && decide (k < t.edges.length)) && (blwB t a (t.edges.getD k.toNat default).src && blwB t b (t.edges.getD k.toNat default).dst)
theorem fts_no {t : Types} {k a b : Int} (h : [a, b].any (outB t) = true) : ftsB t k a b = false := by rw [ftsB, h]; rfl
theorem fts_no2 {t : Types} {k a b : Int} (h : ¬ (0 ≤ k ∧ k < t.edges.length)) : ftsB t k a b = false := by
  rw [ftsB, show (decide (0 ≤ k) && decide (k < (t.edges.length : Int))) = false by rw [← Bool.decide_and]; simpa using h]; simp
theorem out_lt {t : Types} {n : Int} (h : outB t n = false) : 0 ≤ n ∧ n < t.nodes.length := by
  simp [outB] at h; exact h
theorem c97 (t : Types) (ht : t.ok) (hv : tval t = 0) (k a b : Int) : Con P 97 [] [t.av, .int .i64 k, .int .i64 a, .int .i64 b] (.bool (ftsB t k a b)) [] := by
  obtain ⟨hp, hd, hn, he⟩ := tval_ok hv
  refine go Tryz.func97 (by rfl) rfl rfl rfl fun hl => ?_
  refine W0 ?_
  refine ⟨_, _, con_frz rfl rfl rfl (c155 t ht hv [a, b]), ?_⟩
  by_cases h0 : [a, b].any (outB t) = true
  · rw [if_pos h0]
    refine V0 ?_
    refine fin_frz TT ?_ rfl
    rw [fts_no h0]; rfl
  rw [if_neg h0]
  have ha : outB t a = false := by simp at h0; exact h0.1
  have hb : outB t b = false := by simp at h0; exact h0.2
  refine V0 ?_
  refine ⟨fun h1 => ?_, fun h1 => ?_⟩
  · have h1 : k < 0 := of_decide_eq_true h1
    refine V0 ?_
    refine fin_frz TT ?_ rfl
    rw [fts_no2 (by omega)]; rfl
  have h1 : 0 ≤ k := by have := of_decide_eq_false h1; omega
  refine V0 ?_
  rw [edts_len]
  refine ⟨fun h2 => ?_, fun h2 => ?_⟩
  · have h2 : (t.edges.length : Int) ≤ k := of_decide_eq_true h2
    refine V0 ?_
    refine fin_frz TT ?_ rfl
    rw [fts_no2 (by omega)]; rfl
  have h2 : k < t.edges.length := by have := of_decide_eq_false h2; omega
  have hx : t.edges[k.toNat]? = some t.edges[k.toNat] := List.getElem?_eq_getElem (by omega)
  have e : ftsB t k a b = (blwB t a t.edges[k.toNat].src && blwB t b t.edges[k.toNat].dst) := by
    rw [ftsB, getD_some hx, show [a, b].any (outB t) = false by simpa using h0]; simp [h1, h2]
  generalize t.edges[k.toNat] = x at hx e
  refine V0 ?_
  refine ⟨by omega, _, edts_at hx, ?_⟩
  refine V0 ?_
  refine ⟨_, _, c156 t (by omega) a x.src (out_lt ha).2 hp, ?_⟩
  refine V0 ?_
  refine ⟨fun h3 => ?_, fun h3 => ?_⟩
  · refine V0 ?_
    refine ⟨by omega, _, edts_at hx, ?_⟩
    refine V0 ?_
    refine ⟨_, _, c156 t (by omega) b x.dst (out_lt hb).2 hp, ?_⟩
    refine V0 ?_
    refine fin_frz TT ?_ rfl
    rw [e, h3]; rfl
  · refine V0 ?_
    refine fin_frz TT ?_ rfl
    rw [e, h3]; rfl
theorem c109 (t : Types) (ht : t.ok) (hv : tval t = 0) (k a b : Int) : Con P 109 [] [t.av, .int .i64 k, .int .i64 a, .int .i64 b] (.bool (ftsB t k a b)) [] := by
  obtain ⟨hp, hd, hn, he⟩ := tval_ok hv
  refine go Tryz.func109 (by rfl) rfl rfl rfl fun hl => ?_
  refine W0 ?_
  refine ⟨_, _, c166 t ht hv a b, ?_⟩
  by_cases h0 : [a, b].any (outB t) = true
  · rw [if_pos h0]
    refine V0 ?_
    refine fin_frz TT ?_ rfl
    rw [fts_no h0]; rfl
  rw [if_neg h0]
  have ha : outB t a = false := by simp at h0; exact h0.1
  have hb : outB t b = false := by simp at h0; exact h0.2
  refine V0 ?_
  rw [edts_len, wrap_small (n := (t.edges.length : Int) - 1) (by omega) (by omega)]
  refine ⟨_, _, c162 k 0 ((t.edges.length : Int) - 1), ?_⟩
  refine V0 ?_
  refine ⟨fun h1 => ?_, fun h1 => ?_⟩
  · have h1 : inB k 0 ((t.edges.length : Int) - 1) = false := by simpa using h1
    simp [inB] at h1
    refine V0 ?_
    refine fin_frz TT ?_ rfl
    rw [fts_no2 (by omega)]; rfl
  have h1 : inB k 0 ((t.edges.length : Int) - 1) = true := by simpa using h1
  simp [inB] at h1
  obtain ⟨h1, h2⟩ := h1
  have h2 : k < t.edges.length := by omega
  have hx : t.edges[k.toNat]? = some t.edges[k.toNat] := List.getElem?_eq_getElem (by omega)
  have e : ftsB t k a b = (blwB t a t.edges[k.toNat].src && blwB t b t.edges[k.toNat].dst) := by
    rw [ftsB, getD_some hx, show [a, b].any (outB t) = false by simpa using h0]; simp [h1, h2]
  have hd := hd _ _ hx
  generalize t.edges[k.toNat] = x at hx e hd
  refine V0 ?_
  refine ⟨by omega, _, edts_at hx, ?_⟩
  refine V0 ?_
  refine ⟨_, _, c167 t (by omega) x.src hd.1 hp a (out_lt ha).2, ?_⟩
  refine V0 ?_
  refine ⟨fun h3 => ?_, fun h3 => ?_⟩
  · refine V0 ?_
    refine ⟨by omega, _, edts_at hx, ?_⟩
    refine V0 ?_
    refine ⟨_, _, c167 t (by omega) x.dst hd.2 hp b (out_lt hb).2, ?_⟩
    refine V0 ?_
    refine fin_frz TT ?_ rfl
    rw [e, h3]; rfl
  · refine V0 ?_
    refine fin_frz TT ?_ rfl
    rw [e, h3]; rfl
end Go.Av.Z

/- Type graphs: leaves; typed rules. -/
set_option maxHeartbeats 4000000
namespace Go.Av.Z
open Go.Proofs

theorem none_any {α : Type} {p : α → Bool} {l : List α} {i : Nat} (h : ∀ j y, j < i → l[j]? = some y → p y = false) (hi : l.length ≤ i) : l.any p = false := by
  rw [List.any_eq_false]; intro x hx; simp [none_all h hi x hx]
/-- A type has no subtypes. -/
def leafB (t : Types) (k : Int) : Bool := !t.nodes.any (fun n => n.parent == k)
theorem c153 (k : Int) (n : NodeT) : Con P 153 [] [.agg n.el, .fptr [.int .i64 k]] (.bool (n.parent == k)) [] := by
  refine go Tryz.func153 (by rfl) rfl rfl rfl fun hl => ?_
  refine W0 ?_
  refine fin_frz TT ?_ rfl
  rfl
theorem c92 (t : Types) (k : Int) : Con P 92 [] [t.av, .int .i64 k] (.bool (leafB t k)) [] := by
  refine go Tryz.func92 (by rfl) rfl rfl rfl fun hl => ?_
  refine W0 ?_
  refine ⟨_, _, con_frz rfl rfl rfl (c152a [.int .i64 k] t.nodes 153 (fun n => n.parent == k) (fun n _ => c153 k n)), ?_⟩
  refine V0 ?_
  refine fin_frz TT ?_ rfl
  rfl
theorem c50 (t : Types) (ht : t.nodes.length ≤ 1000) (k : Int) : Con P 50 [] [t.av, .int .i64 k] (.bool (leafB t k)) [] := by
  refine go Tryz.func50 (by rfl) rfl rfl rfl fun hl => ?_
  refine W0 ?_
  refine loop (fun i : Nat => mkSt [(5, .int .i64 i), (1, .int .i64 k), (2, .bptr 0 0)] [.box 25 t.cs]) (fun i => i ≤ t.nodes.length ∧ ∀ j y, j < i → t.nodes[j]? = some y → (y.parent == k) = false) (fun i => t.nodes.length - i) 0 ⟨Nat.zero_le _, fun j y h => by omega⟩
    (le_of [0] rfl rfl rfl ⟨rfl, rfl, rfl, trivial⟩ ⟨rfl, trivial⟩) ?_
  rintro i ⟨hi, hno⟩
  refine V0 ?_
  rw [ndts_len]
  refine ⟨fun hlt => ?_, fun hge => ?_⟩
  · have hlt := of_lt hlt
    have hx : t.nodes[i]? = some t.nodes[i] := List.getElem?_eq_getElem hlt
    generalize t.nodes[i] = n at hx
    refine V0 ?_
    refine ⟨by omega, _, ndts_at hx, ?_⟩
    refine V0 ?_
    refine ⟨fun h => ?_, fun h => ?_⟩
    · have h : (n.parent == k) = true := h
      have e : leafB t k = false := by rw [leafB, List.any_eq_true.2 ⟨n, List.mem_of_getElem? hx, h⟩]; rfl
      refine V0 ?_
      refine fin_frz TT ?_ rfl
      rw [e]; rfl
    · have h : (n.parent == k) = false := h
      refine V0 ?_
      exact ⟨i + 1, ⟨hlt, none_upto hno hx h⟩, by show t.nodes.length - (i + 1) < t.nodes.length - i; omega, le_of [0] rfl rfl rfl ⟨step_num hlt (by omega), rfl, rfl, trivial⟩ ⟨rfl, trivial⟩⟩
  · have hge := of_ge hge
    have e : leafB t k = true := by rw [leafB, none_any hno (by omega)]; rfl
    refine V0 ?_
    refine fin_frz TT ?_ rfl
    rw [e]; rfl
/-- A node's type isn't a leaf; an edge doesn't fit. -/
def lvN (t : Types) (n : Int) : Bool := decide ((t.nodes.length : Int) ≤ n) || !leafB t n
def lvE (t : Types) (g : Graph) (e : Edge) : Bool := !ftsB t e.type (at0 g.nodes e.src) (at0 g.nodes e.dst)
def lvsB (t : Types) (g : Graph) : Bool := !(g.nodes.any (lvN t) || g.edges.any (lvE t g))
theorem c154 (t : Types) (ht : t.ok) (hv : tval t = 0) (g : Graph) (e : Edge) (h : 0 ≤ e.src ∧ e.src < g.nodes.length ∧ 0 ≤ e.dst ∧ e.dst < g.nodes.length) : Con P 154 [] [.agg e.el, .fptr t.cs, .fptr g.cs] (.bool (lvE t g e)) [] := by
  refine go Tryz.func154 (by rfl) rfl rfl rfl fun hl => ?_
  refine W0 ?_
  refine ⟨by omega, _, nums_at (at0_some (l := g.nodes) (n := e.src) (by omega)), ?_⟩
  refine V0 ?_
  refine ⟨by omega, _, nums_at (at0_some (l := g.nodes) (n := e.dst) (by omega)), ?_⟩
  refine V0 ?_
  refine ⟨_, _, c97 t ht hv e.type (at0 g.nodes e.src) (at0 g.nodes e.dst), ?_⟩
  refine V0 ?_
  refine fin_frz TT ?_ rfl
  rfl
theorem c93 (t : Types) (ht : t.ok) (hv : tval t = 0) (g : Graph) (hg : gval g = 0) : Con P 93 [] [t.av, g.av] (.bool (lvsB t g)) [] := by
  have hgl := (gval_len hg).1
  refine go Tryz.func93 (by rfl) rfl rfl rfl fun hl => ?_
  refine W0 ?_
  rw [nums_len]
  refine loop (fun i : Nat => mkSt [(10, .int .i64 i), (9, .int .i64 g.nodes.length), (8, .slice 1 (nums g.nodes)), (2, .bptr 0 0), (3, .bptr 1 0)] [.box 25 t.cs, .box 29 g.cs]) (fun i => i ≤ g.nodes.length ∧ ∀ j y, j < i → g.nodes[j]? = some y → lvN t y = false) (fun i => g.nodes.length - i) 0 ⟨Nat.zero_le _, fun j y h => by omega⟩
    (le_of [0, 1] rfl rfl rfl ⟨rfl, rfl, rfl, rfl, rfl, trivial⟩ ⟨rfl, rfl, trivial⟩) ?_
  rintro i ⟨hi, hno⟩
  refine V0 ?_
  refine ⟨fun hlt => ?_, fun hge => ?_⟩
  · have hlt := of_lt hlt
    have hx : g.nodes[i]? = some g.nodes[i] := List.getElem?_eq_getElem hlt
    generalize g.nodes[i] = n at hx
    have hbad : lvN t n = true → lvsB t g = false := fun h => by rw [lvsB, List.any_eq_true.2 ⟨n, List.mem_of_getElem? hx, h⟩]; rfl
    refine V0 ?_
    refine ⟨by omega, _, nums_at hx, ?_⟩
    refine V0 ?_
    rw [ndts_len]
    refine ⟨fun h1 => ?_, fun h1 => ?_⟩
    · refine V0 ?_
      refine fin_frz TT ?_ rfl
      rw [hbad (by rw [lvN, h1]; rfl)]; rfl
    · refine V0 ?_
      refine ⟨_, _, c92 t n, ?_⟩
      refine V0 ?_
      refine ⟨fun h2 => ?_, fun h2 => ?_⟩
      · refine V0 ?_
        refine fin_frz TT ?_ rfl
        rw [hbad (by rw [lvN, h1]; exact h2)]; rfl
      · refine V0 ?_
        exact ⟨i + 1, ⟨hlt, none_upto hno hx (by rw [lvN, h1]; exact h2)⟩, by show g.nodes.length - (i + 1) < g.nodes.length - i; omega, le_of [0, 1] rfl rfl rfl ⟨step_num hlt (by omega), rfl, rfl, rfl, rfl, trivial⟩ ⟨rfl, rfl, trivial⟩⟩
  · have hge := of_ge hge
    have e : g.nodes.any (lvN t) = false := none_any hno (by omega)
    refine V0 ?_
    refine ⟨_, _, con_frz rfl rfl rfl (c102b t.cs g.cs g.edges 154 (lvE t g) (fun x hx => c154 t ht hv g x (by have := gval_edges hg x hx; omega))), ?_⟩
    refine V0 ?_
    refine fin_frz TT ?_ rfl
    rw [lvsB, e, Bool.false_or]; rfl
theorem c51 (t : Types) (ht : t.ok) (hv : tval t = 0) (g : Graph) (hg : gval g = 0) : Con P 51 [] [t.av, g.av] (.bool (lvsB t g)) [] := by
  have hgl := gval_len hg
  have htl := (tval_ok hv).2.2.1
  refine go Tryz.func51 (by rfl) rfl rfl rfl fun hl => ?_
  refine W0 ?_
  refine loop (fun i : Nat => mkSt [(5, .int .i64 i), (2, .bptr 0 0), (3, .bptr 1 0)] [.box 25 t.cs, .box 29 g.cs]) (fun i => i ≤ g.nodes.length ∧ ∀ j y, j < i → g.nodes[j]? = some y → lvN t y = false) (fun i => g.nodes.length - i) 0 ⟨Nat.zero_le _, fun j y h => by omega⟩
    (le_of [0, 1] rfl rfl rfl ⟨rfl, rfl, rfl, trivial⟩ ⟨rfl, rfl, trivial⟩) ?_
  rintro i ⟨hi, hno⟩
  refine V0 ?_
  rw [nums_len]
  refine ⟨fun hlt => ?_, fun hge => ?_⟩
  · have hlt := of_lt hlt
    have hx : g.nodes[i]? = some g.nodes[i] := List.getElem?_eq_getElem hlt
    generalize g.nodes[i] = n at hx
    have hbad : lvN t n = true → lvsB t g = false := fun h => by rw [lvsB, List.any_eq_true.2 ⟨n, List.mem_of_getElem? hx, h⟩]; rfl
    refine V0 ?_
    refine ⟨by omega, _, nums_at hx, ?_⟩
    refine V0 ?_
    rw [ndts_len]
    refine ⟨fun h1 => ?_, fun h1 => ?_⟩
    · refine V0 ?_
      refine fin_frz TT ?_ rfl
      rw [hbad (by rw [lvN, h1]; rfl)]; rfl
    · refine V0 ?_
      refine ⟨by omega, _, nums_at hx, ?_⟩
      refine V0 ?_
      refine ⟨_, _, c50 t (by omega) n, ?_⟩
      refine V0 ?_
      refine ⟨fun h2 => ?_, fun h2 => ?_⟩
      · refine V0 ?_
        refine fin_frz TT ?_ rfl
        rw [hbad (by rw [lvN, h1]; exact h2)]; rfl
      · refine V0 ?_
        exact ⟨i + 1, ⟨hlt, none_upto hno hx (by rw [lvN, h1]; exact h2)⟩, by show g.nodes.length - (i + 1) < g.nodes.length - i; omega, le_of [0, 1] rfl rfl rfl ⟨step_num hlt (by omega), rfl, rfl, trivial⟩ ⟨rfl, rfl, trivial⟩⟩
  have hge := of_ge hge
  have e : g.nodes.any (lvN t) = false := none_any hno (by omega)
  refine V0 ?_
  clear hno hi
  refine loop (fun i : Nat => mkSt [(6, .int .i64 i), (2, .bptr 0 0), (3, .bptr 1 0)] [.box 25 t.cs, .box 29 g.cs]) (fun i => i ≤ g.edges.length ∧ ∀ j y, j < i → g.edges[j]? = some y → lvE t g y = false) (fun i => g.edges.length - i) 0 ⟨Nat.zero_le _, fun j y h => by omega⟩
    (le_of [0, 1] rfl rfl rfl ⟨rfl, rfl, rfl, trivial⟩ ⟨rfl, rfl, trivial⟩) ?_
  rintro i ⟨hi, hno⟩
  refine V0 ?_
  rw [edgs_len]
  refine ⟨fun hlt => ?_, fun hge => ?_⟩
  · have hlt := of_lt hlt
    have hx : g.edges[i]? = some g.edges[i] := List.getElem?_eq_getElem hlt
    have hr := gval_edge hg hx
    generalize g.edges[i] = x at hx hr
    refine V0 ?_
    refine ⟨by omega, _, edgs_at hx, ?_⟩
    refine V0 ?_
    refine ⟨by omega, _, nums_at (at0_some (l := g.nodes) (n := x.src) (by omega)), ?_⟩
    refine V0 ?_
    refine ⟨by omega, _, nums_at (at0_some (l := g.nodes) (n := x.dst) (by omega)), ?_⟩
    refine V0 ?_
    refine ⟨_, _, c109 t ht hv x.type (at0 g.nodes x.src) (at0 g.nodes x.dst), ?_⟩
    refine V0 ?_
    refine ⟨fun h => ?_, fun h => ?_⟩
    · have h : lvE t g x = true := h
      have e2 : lvsB t g = false := by rw [lvsB, List.any_eq_true (l := g.edges).2 ⟨x, List.mem_of_getElem? hx, h⟩, Bool.or_true]; rfl
      refine V0 ?_
      refine fin_frz TT ?_ rfl
      rw [e2]; rfl
    · have h : lvE t g x = false := h
      refine V0 ?_
      exact ⟨i + 1, ⟨hlt, none_upto hno hx h⟩, by show g.edges.length - (i + 1) < g.edges.length - i; omega, le_of [0, 1] rfl rfl rfl ⟨step_num hlt (by omega), rfl, rfl, trivial⟩ ⟨rfl, rfl, trivial⟩⟩
  · have hge := of_ge hge
    have e2 : lvsB t g = true := by rw [lvsB, e, none_any hno (by omega)]; rfl
    refine V0 ?_
    refine fin_frz TT ?_ rfl
    rw [e2]; rfl
end Go.Av.Z

/- Typed rules; the identity. -/
set_option maxHeartbeats 4000000
namespace Go.Av.Z
open Go.Proofs

theorem c94 (n : Nat) (hn : n ≤ 1000000) : Con P 94 [] [.int .i64 n] (.slice 1 (nums (rng 0 n))) [] := by
  refine go Tryz.func94 (by rfl) rfl rfl rfl fun hl => ?_
  refine W0 ?_
  refine ⟨⟨rfl, by omega, by show 8 * _ ≤ _; omega, by show _ ≤ maxLen; unfold maxLen; omega⟩, ?_⟩
  refine V0 ?_
  refine loop (fun i : Nat => mkSt [(9, .int .i64 i), (8, .int .i64 n), (3, .ref 0)] [.row 3 1 (nums ((rng 0 n).take i ++ List.replicate (n - i) 0))]) (fun i => i ≤ n) (fun i => n - i) 0 (Nat.zero_le _)
    (le_of [1] rfl rfl rfl ⟨rfl, by show AV.int .i64 ((chunk 1 (n : Int).toNat (repl (n : Int).toNat [.int .i64 0])).length : Nat) = _; rw [Int.toNat_natCast, nums_make, nums_len]; simp; rfl, rfl, trivial⟩ ⟨by show Blk.row 3 1 (chunk 1 (n : Int).toNat (repl (n : Int).toNat [.int .i64 0])) = _; rw [Int.toNat_natCast, nums_make]; rfl, trivial⟩) ?_
  intro i hi
  refine V0 ?_
  refine ⟨fun hlt => ?_, fun hge => ?_⟩
  · have hlt := of_lt hlt
    have hlen : (nums ((rng 0 n).take i ++ List.replicate (n - i) 0)).length = n := by rw [nums_len]; simp [rng_len]; omega
    refine V0 ?_
    refine ⟨⟨by omega, by rw [hlen]; omega⟩, ?_⟩
    refine V0 ?_
    refine ⟨_, nums_at (show ((rng 0 n).take i ++ List.replicate (n - i) 0)[((i : Int)).toNat]? = some 0 by rw [Int.toNat_natCast, List.getElem?_append_right (by simp [rng_len]; omega), List.getElem?_replicate, if_pos (by simp [rng_len]; omega)]), ?_⟩
    refine V0 ?_
    exact ⟨i + 1, hlt, by show n - (i + 1) < n - i; omega, le_of [0] rfl rfl rfl ⟨step_num hlt (by omega), rfl, rfl, trivial⟩ ⟨by
      show Blk.row 3 1 ((nums _).set ((i : Int)).toNat [.int .i64 _]) = _
      rw [nums_set, Int.toNat_natCast, fill_set (x := (i : Int)) (by rw [rng_at hlt, Nat.zero_add]) (rng_len 0 n)]; rfl, trivial⟩⟩
  · have hge := of_ge hge
    have : i = n := by omega
    subst this
    rw [take_of_all (by simp [rng_len]), Nat.sub_self, List.replicate_zero, List.append_nil]
    refine V0 ?_
    refine fin_frz TT ?_ rfl
    rfl
theorem c42 (g : Graph) (hg : gval g = 0) : Con P 42 [] [g.av] (.tuple [(idn g).av, .int .i64 0]) [] := by
  have hl := gval_len hg
  refine go Tryz.func42 (by rfl) rfl rfl rfl fun hl => ?_
  refine W0 ?_
  refine ⟨_, _, hg ▸ c45 g, ?_⟩
  refine V0 ?_
  rw [nums_len]
  refine ⟨_, _, c94 g.nodes.length (by omega), ?_⟩
  refine V0 ?_
  rw [edgs_len]
  refine ⟨_, _, c94 g.edges.length (by omega), ?_⟩
  refine V0 ?_
  refine fin_frz TT ?_ rfl
  rfl
/-- The error of a node type that isn't abstract and has subtypes. -/
def absE (t : Types) (i : Nat) (n : NodeT) : Int := if (!n.abs && !leafB t i) = true then 13 else 0
def tydE (t : Types) (ρ : Rule) : Int :=
  if tval t ≠ 0 then tval t else if strc ρ ≠ 0 then strc ρ else if errs (absE t) 0 t.nodes ≠ 0 then errs (absE t) 0 t.nodes else if (!lvsB t ρ.left.graph || !lvsB t ρ.right.graph) = true then 13 else 0
theorem strc_gv {ρ : Rule} (h : strc ρ = 0) : gval ρ.left.graph = 0 ∧ gval ρ.right.graph = 0 := by
  unfold strc at h
  split at h
  · contradiction
  split at h
  · contradiction
  rename_i h1 h2
  exact ⟨by simpa using h1, by simpa using h2⟩
theorem c41 (t : Types) (ht : t.ok) (ρ : Rule) (hf : ρ.fine) : Con P 41 [] [t.av, ρ.av] (.int .i64 (tydE t ρ)) [] := by
  refine go Tryz.func41 (by rfl) rfl rfl rfl fun hl => ?_
  refine W0 ?_
  refine ⟨_, _, c68 t ht, ?_⟩
  refine V0 ?_
  refine ⟨fun h => ?_, fun h => ?_⟩
  · have h : tval t ≠ 0 := by simpa using h
    refine V0 ?_
    refine fin_frz TT ?_ rfl
    rw [tydE, if_pos h]; rfl
  have hv : tval t = 0 := by simpa using h
  refine V0 ?_
  refine ⟨_, _, c62 ρ hf, ?_⟩
  refine V0 ?_
  refine ⟨fun h => ?_, fun h => ?_⟩
  · have h : strc ρ ≠ 0 := by simpa using h
    refine V0 ?_
    refine fin_frz TT ?_ rfl
    rw [tydE, if_neg (by simp [hv]), if_pos h]; rfl
  have hs : strc ρ = 0 := by simpa using h
  have e : tydE t ρ = if errs (absE t) 0 t.nodes ≠ 0 then errs (absE t) 0 t.nodes else if (!lvsB t ρ.left.graph || !lvsB t ρ.right.graph) = true then 13 else 0 := by rw [tydE, if_neg (by simp [hv]), if_neg (by simp [hs])]
  have hgv := strc_gv hs
  have htl := (tval_ok hv).2.2.1
  refine V0 ?_
  rw [ndts_len]
  refine loop (fun i : Nat => mkSt [(26, .int .i64 i), (25, .int .i64 t.nodes.length), (24, .slice 4 (ndts t.nodes)), (2, .bptr 0 0), (3, .bptr 1 0)] [.box 25 t.cs, .box 41 ρ.cs]) (fun i => i ≤ t.nodes.length ∧ ∀ j y, j < i → t.nodes[j]? = some y → absE t j y = 0) (fun i => t.nodes.length - i) 0 ⟨Nat.zero_le _, fun j y h => by omega⟩
    (le_of [0, 1] rfl rfl rfl ⟨rfl, rfl, rfl, rfl, rfl, trivial⟩ ⟨rfl, rfl, trivial⟩) ?_
  rintro i ⟨hi, hno⟩
  refine V0 ?_
  refine ⟨fun hlt => ?_, fun hge => ?_⟩
  · have hlt := of_lt hlt
    have hx : t.nodes[i]? = some t.nodes[i] := List.getElem?_eq_getElem hlt
    generalize t.nodes[i] = n at hx
    have hgo : absE t i n = 0 → _ := fun h0 => zero_upto hno hx h0
    have hbad : absE t i n = 13 → tydE t ρ = 13 := fun h => by
      have e1 := errs_first hno hx (by rw [h]; decide)
      rw [e, e1, h]; rfl
    refine V0 ?_
    refine ⟨by omega, _, ndts_at hx, ?_⟩
    refine V0 ?_
    refine ⟨fun h1 => ?_, fun h1 => ?_⟩
    · refine V0 ?_
      refine ⟨_, _, c92 t i, ?_⟩
      refine V0 ?_
      refine ⟨fun h2 => ?_, fun h2 => ?_⟩
      · refine V0 ?_
        refine fin_frz TT ?_ rfl
        rw [hbad (by rw [absE, h1, h2]; rfl)]; rfl
      · refine V0 ?_
        exact ⟨i + 1, ⟨hlt, hgo (by rw [absE, h1, h2]; rfl)⟩, by show t.nodes.length - (i + 1) < t.nodes.length - i; omega, le_of [0, 1] rfl rfl rfl ⟨step_num hlt (by omega), rfl, rfl, rfl, rfl, trivial⟩ ⟨rfl, rfl, trivial⟩⟩
    · refine V0 ?_
      exact ⟨i + 1, ⟨hlt, hgo (by rw [absE, h1]; rfl)⟩, by show t.nodes.length - (i + 1) < t.nodes.length - i; omega, le_of [0, 1] rfl rfl rfl ⟨step_num hlt (by omega), rfl, rfl, rfl, rfl, trivial⟩ ⟨rfl, rfl, trivial⟩⟩
  have hge := of_ge hge
  have e1 := errs_all hno (by omega)
  rw [if_neg (by simp [e1])] at e
  refine V0 ?_
  refine ⟨_, _, c93 t ht hv ρ.left.graph hgv.1, ?_⟩
  refine V0 ?_
  refine ⟨fun h1 => ?_, fun h1 => ?_⟩
  · refine V0 ?_
    refine fin_frz TT ?_ rfl
    rw [e, h1]; rfl
  · refine V0 ?_
    refine ⟨_, _, c93 t ht hv ρ.right.graph hgv.2, ?_⟩
    refine V0 ?_
    refine ⟨fun h2 => ?_, fun h2 => ?_⟩
    · refine V0 ?_
      refine fin_frz TT ?_ rfl
      rw [e, h1, h2]; rfl
    · refine V0 ?_
      refine fin_frz TT ?_ rfl
      rw [e, h1, h2]; rfl
end Go.Av.Z

/- A graph with a further edge, in all ways. -/
set_option maxHeartbeats 4000000
namespace Go.Av.Z
open Go.Proofs

def grs (l : List Graph) : List (List AV) := l.map Graph.cs
theorem grs_len (l : List Graph) : (grs l).length = l.length := by simp [grs]
theorem grs_app (a b : List Graph) : grs (a ++ b) = grs a ++ grs b := by simp [grs]
theorem grs_at {l : List Graph} {i : Nat} {x : Graph} (h : l[i]? = some x) : (grs l)[i]? = some x.cs := by simp [grs, h]
theorem grs_one (gs : List Graph) (ns : List Int) (es : List Edge) (e : Edge) : grs (gs ++ [⟨ns, es ++ [e]⟩]) = grs gs ++ [[.slice 1 (nums ns), .slice 3 (edgs es ++ [[.int .i64 e.type, .int .i64 e.src, .int .i64 e.dst]])]] := by
  rw [grs_app, ← edgs_app]; rfl
/-- The edge that is added: it leaves a node or enters it. -/
def addE (out : Bool) (kind node other : Int) : Edge := bif out then ⟨kind, node, other⟩ else ⟨kind, other, node⟩
def tryB (t : Types) (node kind : Int) (out : Bool) (other : Int) (ns : List Int) : Bool := ftsB t kind (at0 ns (addE out kind node other).src) (at0 ns (addE out kind node other).dst)
theorem c96 (t : Types) (ht : t.ok) (hv : tval t = 0) (g : Graph) (he : g.edges.length ≤ 1000) (node kind : Int) (out : Bool) (other : Int) (ns : List Int) (h1 : 0 ≤ node) (h2 : node < ns.length) (h3 : 0 ≤ other) (h4 : other < ns.length) (gs : List Graph) (hg : gs.length ≤ 1000000) (hfit : tryB t node kind out other ns = true) :
    Con P 96 [.row 3 1 (nums ns), .box 3 [.int .i64 kind], .box 3 [.int .i64 node], .box 4 [.bool out], .box 25 t.cs, .box 100 [.ref 7], .box 29 g.cs, .row 29 2 (grs gs)] [.int .i64 other, .ref 0, .bptr 1 0, .bptr 2 0, .bptr 3 0, .bptr 4 0, .bptr 5 0, .bptr 6 0] (.tuple [])
      [.frz (.slice 1 (nums ns)), .box 3 [.int .i64 kind], .box 3 [.int .i64 node], .box 4 [.bool out], .box 25 t.cs, .box 100 [.ref 8], .box 29 g.cs, .dead, .row 29 2 (grs (gs ++ [⟨ns, g.edges ++ [addE out kind node other]⟩]))] := by
  cases out
  · have hc := c97 t ht hv kind (at0 ns other) (at0 ns node)
    rw [show ftsB t kind (at0 ns other) (at0 ns node) = true from hfit] at hc
    refine go Tryz.func96 (by rfl) rfl rfl rfl fun hl => ?_
    refine W0 ?_
    refine ⟨by kernel_rfl, ?_⟩; refine V0 ?_
    refine ⟨⟨by omega, by rw [nums_len]; omega⟩, ?_⟩
    refine V0 ?_
    refine ⟨rfl, _, nums_at (at0_some (l := ns) (n := other) (by omega)), ?_⟩
    refine V0 ?_
    refine ⟨⟨by omega, by rw [nums_len]; omega⟩, ?_⟩
    refine V0 ?_
    refine ⟨rfl, _, nums_at (at0_some (l := ns) (n := node) (by omega)), ?_⟩
    refine V0 ?_
    refine ⟨_, _, hc, ?_⟩
    refine V0 ?_
    refine ⟨_, _, c98 g.edges (by omega), ?_⟩
    refine V0 ?_
    rw [edgs_len]
    refine ⟨by show (g.edges.length + 1) * 24 ≤ _; omega, ?_⟩
    refine V0 ?_
    rw [grs_len]
    refine ⟨by show (gs.length + 1) * 48 ≤ _; omega, ?_⟩
    refine V0 ?_
    exact le_of [0, 1, 2, 3, 4, 5, 6, 7, 15] rfl rfl rfl ⟨rfl, trivial⟩ ⟨rfl, rfl, rfl, rfl, rfl, rfl, rfl, rfl, by rw [grs_one]; rfl, trivial⟩
  · have hc := c97 t ht hv kind (at0 ns node) (at0 ns other)
    rw [show ftsB t kind (at0 ns node) (at0 ns other) = true from hfit] at hc
    refine go Tryz.func96 (by rfl) rfl rfl rfl fun hl => ?_
    refine W0 ?_
    skip
    refine ⟨⟨by omega, by rw [nums_len]; omega⟩, ?_⟩
    refine V0 ?_
    refine ⟨rfl, _, nums_at (at0_some (l := ns) (n := node) (by omega)), ?_⟩
    refine V0 ?_
    refine ⟨⟨by omega, by rw [nums_len]; omega⟩, ?_⟩
    refine V0 ?_
    refine ⟨rfl, _, nums_at (at0_some (l := ns) (n := other) (by omega)), ?_⟩
    refine V0 ?_
    refine ⟨_, _, hc, ?_⟩
    refine V0 ?_
    refine ⟨_, _, c98 g.edges (by omega), ?_⟩
    refine V0 ?_
    rw [edgs_len]
    refine ⟨by show (g.edges.length + 1) * 24 ≤ _; omega, ?_⟩
    refine V0 ?_
    rw [grs_len]
    refine ⟨by show (gs.length + 1) * 48 ≤ _; omega, ?_⟩
    refine V0 ?_
    exact le_of [0, 1, 2, 3, 4, 5, 6, 7, 15] rfl rfl rfl ⟨rfl, trivial⟩ ⟨rfl, rfl, rfl, rfl, rfl, rfl, rfl, rfl, by rw [grs_one]; rfl, trivial⟩
theorem c96n (t : Types) (ht : t.ok) (hv : tval t = 0) (g : Graph) (he : g.edges.length ≤ 1000) (node kind : Int) (out : Bool) (other : Int) (ns : List Int) (h1 : 0 ≤ node) (h2 : node < ns.length) (h3 : 0 ≤ other) (h4 : other < ns.length) (gs : List Graph) (hg : gs.length ≤ 1000000) (hfit : tryB t node kind out other ns = false) :
    Con P 96 [.row 3 1 (nums ns), .box 3 [.int .i64 kind], .box 3 [.int .i64 node], .box 4 [.bool out], .box 25 t.cs, .box 100 [.ref 7], .box 29 g.cs, .row 29 2 (grs gs)] [.int .i64 other, .ref 0, .bptr 1 0, .bptr 2 0, .bptr 3 0, .bptr 4 0, .bptr 5 0, .bptr 6 0] (.tuple [])
      [.row 3 1 (nums ns), .box 3 [.int .i64 kind], .box 3 [.int .i64 node], .box 4 [.bool out], .box 25 t.cs, .box 100 [.ref 7], .box 29 g.cs, .row 29 2 (grs gs)] := by
  cases out
  · have hc := c97 t ht hv kind (at0 ns other) (at0 ns node)
    rw [show ftsB t kind (at0 ns other) (at0 ns node) = false from hfit] at hc
    refine go Tryz.func96 (by rfl) rfl rfl rfl fun hl => ?_
    refine W0 ?_
    refine ⟨by kernel_rfl, ?_⟩; refine V0 ?_
    refine ⟨⟨by omega, by rw [nums_len]; omega⟩, ?_⟩
    refine V0 ?_
    refine ⟨rfl, _, nums_at (at0_some (l := ns) (n := other) (by omega)), ?_⟩
    refine V0 ?_
    refine ⟨⟨by omega, by rw [nums_len]; omega⟩, ?_⟩
    refine V0 ?_
    refine ⟨rfl, _, nums_at (at0_some (l := ns) (n := node) (by omega)), ?_⟩
    refine V0 ?_
    refine ⟨_, _, hc, ?_⟩
    refine V0 ?_
    exact le_of [0, 1, 2, 3, 4, 5, 6, 7] rfl rfl rfl ⟨rfl, trivial⟩ ⟨rfl, rfl, rfl, rfl, rfl, rfl, rfl, rfl, trivial⟩
  · have hc := c97 t ht hv kind (at0 ns node) (at0 ns other)
    rw [show ftsB t kind (at0 ns node) (at0 ns other) = false from hfit] at hc
    refine go Tryz.func96 (by rfl) rfl rfl rfl fun hl => ?_
    refine W0 ?_
    skip
    refine ⟨⟨by omega, by rw [nums_len]; omega⟩, ?_⟩
    refine V0 ?_
    refine ⟨rfl, _, nums_at (at0_some (l := ns) (n := node) (by omega)), ?_⟩
    refine V0 ?_
    refine ⟨⟨by omega, by rw [nums_len]; omega⟩, ?_⟩
    refine V0 ?_
    refine ⟨rfl, _, nums_at (at0_some (l := ns) (n := other) (by omega)), ?_⟩
    refine V0 ?_
    refine ⟨_, _, hc, ?_⟩
    refine V0 ?_
    exact le_of [0, 1, 2, 3, 4, 5, 6, 7] rfl rfl rfl ⟨rfl, trivial⟩ ⟨rfl, rfl, rfl, rfl, rfl, rfl, rfl, rfl, trivial⟩
end Go.Av.Z

/- A graph with a further edge, in all ways: the program. -/
set_option maxHeartbeats 4000000
namespace Go.Av.Z
open Go.Proofs

def tryG (t : Types) (g : Graph) (node kind : Int) (out : Bool) (other : Int) (ns : List Int) : List Graph :=
  if tryB t node kind out other ns = true then [⟨ns, g.edges ++ [addE out kind node other]⟩] else []
/-- The graph with an edge to the i-th place: a node, or a further node of a type. -/
def cnd (t : Types) (g : Graph) (node kind : Int) (out : Bool) (i : Nat) : List Graph :=
  if i < g.nodes.length then (if (out || ((i : Int) != node)) = true then tryG t g node kind out i g.nodes else [])
  else if leafB t ((i : Int) - g.nodes.length) = true then tryG t g node kind out g.nodes.length (g.nodes ++ [(i : Int) - g.nodes.length]) else []
def lgs (t : Types) (g : Graph) (node kind : Int) (out : Bool) (m : Nat) : List Graph := (List.range m).flatMap (cnd t g node kind out)
theorem lgs_succ (t : Types) (g : Graph) (node kind : Int) (out : Bool) (m : Nat) : lgs t g node kind out (m + 1) = lgs t g node kind out m ++ cnd t g node kind out m := by
  rw [lgs, List.range_succ, List.flatMap_append]; simp [lgs]
theorem tryG_len (t : Types) (g : Graph) (node kind : Int) (out : Bool) (other : Int) (ns : List Int) : (tryG t g node kind out other ns).length ≤ 1 := by
  unfold tryG; split <;> simp
theorem cnd_len (t : Types) (g : Graph) (node kind : Int) (out : Bool) (i : Nat) : (cnd t g node kind out i).length ≤ 1 := by
  unfold cnd
  split
  · split
    · exact tryG_len ..
    · simp
  · split
    · exact tryG_len ..
    · simp
theorem lgs_len (t : Types) (g : Graph) (node kind : Int) (out : Bool) (m : Nat) : (lgs t g node kind out m).length ≤ m := by
  induction m with
  | zero => simp [lgs]
  | succ m ih => rw [lgs_succ, List.length_append]; have := cnd_len t g node kind out m; omega
theorem tryG_y {t : Types} {g : Graph} {node kind : Int} {out : Bool} {other : Int} {ns : List Int} (h : tryB t node kind out other ns = true) : tryG t g node kind out other ns = [⟨ns, g.edges ++ [addE out kind node other]⟩] := by rw [tryG, if_pos h]
theorem tryG_n {t : Types} {g : Graph} {node kind : Int} {out : Bool} {other : Int} {ns : List Int} (h : tryB t node kind out other ns = false) : tryG t g node kind out other ns = [] := by rw [tryG, if_neg (by simp [h])]
theorem c44 (t : Types) (ht : t.ok) (hv : tval t = 0) (g : Graph) (hg : gval g = 0) (node kind : Int) (out : Bool) (h1 : 0 ≤ node) (h2 : node < g.nodes.length) : Con P 44 [] [t.av, g.av, .int .i64 node, .int .i64 kind, .bool out] (.ref 0) [.row 29 2 (grs (lgs t g node kind out (g.nodes.length + t.nodes.length)))] := by
  have hgl := gval_len hg
  have htl := (tval_ok hv).2.2.1
  refine go Tryz.func44 (by rfl) rfl rfl rfl fun hl => ?_
  refine W0 ?_
  rw [nums_len]
  refine loop (fun i : Nat => mkSt [(19, .int .i64 i), (18, .int .i64 g.nodes.length), (17, .slice 1 (nums g.nodes)), (12, .fn 96 [.bptr 3 0, .bptr 2 0, .bptr 4 0, .bptr 0 0, .bptr 5 0, .bptr 1 0]), (11, .bptr 5 0), (9, .bptr 4 0), (7, .bptr 2 0), (6, .bptr 1 0), (5, .bptr 0 0)] [.box 25 t.cs, .box 29 g.cs, .box 3 [.int .i64 node], .box 3 [.int .i64 kind], .box 4 [.bool out], .box 100 [.ref 6], .row 29 2 (grs (lgs t g node kind out i))]) (fun i => i ≤ g.nodes.length) (fun i => g.nodes.length - i) 0 (Nat.zero_le _)
    (le_of [0, 1, 2, 3, 4, 6, 7] rfl rfl rfl ⟨rfl, rfl, rfl, rfl, rfl, rfl, rfl, rfl, rfl, trivial⟩ ⟨rfl, rfl, rfl, rfl, rfl, rfl, rfl, trivial⟩) ?_
  intro i hi
  refine V0 ?_
  refine ⟨fun hlt => ?_, fun hge => ?_⟩
  · have hlt := of_lt hlt
    have hll := lgs_len t g node kind out i
    have hs := lgs_succ t g node kind out i
    rw [cnd, if_pos hlt] at hs
    generalize hG : lgs t g node kind out i = G at hs hll
    generalize hG2 : lgs t g node kind out (i + 1) = G2 at hs
    have hgo : ∀ (b : Bool), (out || ((i : Int) != node)) = b → G2 = G ++ if b = true then tryG t g node kind out i g.nodes else [] := fun b h => by rw [hs, h]
    refine V0 ?_
    refine ⟨fun ho => ?_, fun ho => ?_⟩
    · have hs := hgo true (by rw [ho]; rfl)
      rw [if_pos rfl] at hs
      refine V0 ?_
      refine ⟨_, _, c46 g.nodes (by omega), ?_⟩
      refine V0 ?_
      cases hb : tryB t node kind out i g.nodes
      · rw [tryG_n hb, List.append_nil] at hs
        refine ⟨_, _, c96n t ht hv g (by omega) node kind out i g.nodes h1 h2 (by omega) (by omega) G (by omega) hb, ?_⟩
        refine V0 ?_
        exact ⟨i + 1, hlt, by show g.nodes.length - (i + 1) < g.nodes.length - i; omega, le_of [0, 1, 2, 3, 4, 5, 6] rfl rfl rfl ⟨step_num hlt (by omega), rfl, rfl, rfl, rfl, rfl, rfl, rfl, rfl, trivial⟩ ⟨rfl, rfl, rfl, rfl, rfl, rfl, by rw [hG2, hs]; rfl, trivial⟩⟩
      · rw [tryG_y hb] at hs
        refine ⟨_, _, c96 t ht hv g (by omega) node kind out i g.nodes h1 h2 (by omega) (by omega) G (by omega) hb, ?_⟩
        refine V0 ?_
        exact ⟨i + 1, hlt, by show g.nodes.length - (i + 1) < g.nodes.length - i; omega, le_of [0, 1, 2, 3, 4, 5, 9] rfl rfl rfl ⟨step_num hlt (by omega), rfl, rfl, rfl, rfl, rfl, rfl, rfl, rfl, trivial⟩ ⟨rfl, rfl, rfl, rfl, rfl, rfl, by rw [hG2, hs]; rfl, trivial⟩⟩
    · refine V0 ?_
      refine ⟨fun hne => ?_, fun hne => ?_⟩
      · have hs := hgo true (by rw [ho]; exact hne)
        rw [if_pos rfl] at hs
        refine V0 ?_
        refine ⟨_, _, c46 g.nodes (by omega), ?_⟩
        refine V0 ?_
        cases hb : tryB t node kind out i g.nodes
        · rw [tryG_n hb, List.append_nil] at hs
          refine ⟨_, _, c96n t ht hv g (by omega) node kind out i g.nodes h1 h2 (by omega) (by omega) G (by omega) hb, ?_⟩
          refine V0 ?_
          exact ⟨i + 1, hlt, by show g.nodes.length - (i + 1) < g.nodes.length - i; omega, le_of [0, 1, 2, 3, 4, 5, 6] rfl rfl rfl ⟨step_num hlt (by omega), rfl, rfl, rfl, rfl, rfl, rfl, rfl, rfl, trivial⟩ ⟨rfl, rfl, rfl, rfl, rfl, rfl, by rw [hG2, hs]; rfl, trivial⟩⟩
        · rw [tryG_y hb] at hs
          refine ⟨_, _, c96 t ht hv g (by omega) node kind out i g.nodes h1 h2 (by omega) (by omega) G (by omega) hb, ?_⟩
          refine V0 ?_
          exact ⟨i + 1, hlt, by show g.nodes.length - (i + 1) < g.nodes.length - i; omega, le_of [0, 1, 2, 3, 4, 5, 9] rfl rfl rfl ⟨step_num hlt (by omega), rfl, rfl, rfl, rfl, rfl, rfl, rfl, rfl, trivial⟩ ⟨rfl, rfl, rfl, rfl, rfl, rfl, by rw [hG2, hs]; rfl, trivial⟩⟩
      · have hs := hgo false (by rw [ho]; exact hne)
        rw [if_neg (by simp), List.append_nil] at hs
        refine V0 ?_
        exact ⟨i + 1, hlt, by show g.nodes.length - (i + 1) < g.nodes.length - i; omega, le_of [0, 1, 2, 3, 4, 5, 6] rfl rfl rfl ⟨step_num hlt (by omega), rfl, rfl, rfl, rfl, rfl, rfl, rfl, rfl, trivial⟩ ⟨rfl, rfl, rfl, rfl, rfl, rfl, by rw [hG2, hs]; rfl, trivial⟩⟩
  have hge := of_ge hge
  have hi : i = g.nodes.length := by omega
  subst hi
  refine V0 ?_
  rw [ndts_len]
  refine loop (fun k : Nat => mkSt [(38, .int .i64 k), (37, .int .i64 t.nodes.length), (17, .slice 1 (nums g.nodes)), (12, .fn 96 [.bptr 3 0, .bptr 2 0, .bptr 4 0, .bptr 0 0, .bptr 5 0, .bptr 1 0]), (11, .bptr 5 0), (9, .bptr 4 0), (7, .bptr 2 0), (6, .bptr 1 0), (5, .bptr 0 0)] [.box 25 t.cs, .box 29 g.cs, .box 3 [.int .i64 node], .box 3 [.int .i64 kind], .box 4 [.bool out], .box 100 [.ref 6], .row 29 2 (grs (lgs t g node kind out (g.nodes.length + k)))]) (fun k => k ≤ t.nodes.length) (fun k => t.nodes.length - k) 0 (Nat.zero_le _)
    (le_of [0, 1, 2, 3, 4, 5, 6] rfl rfl rfl ⟨rfl, rfl, rfl, rfl, rfl, rfl, rfl, rfl, rfl, trivial⟩ ⟨rfl, rfl, rfl, rfl, rfl, rfl, rfl, trivial⟩) ?_
  intro k hk
  refine V0 ?_
  refine ⟨fun hlt => ?_, fun hge => ?_⟩
  · have hlt := of_lt hlt
    have hll := lgs_len t g node kind out (g.nodes.length + k)
    have hs := lgs_succ t g node kind out (g.nodes.length + k)
    rw [cnd, if_neg (by omega), show ((g.nodes.length + k : Nat) : Int) - g.nodes.length = (k : Int) by omega] at hs
    generalize hG : lgs t g node kind out (g.nodes.length + k) = G at hs hll
    generalize hG2 : lgs t g node kind out (g.nodes.length + k + 1) = G2 at hs
    have hgo : ∀ (b : Bool), leafB t k = b → G2 = G ++ if b = true then tryG t g node kind out g.nodes.length (g.nodes ++ [(k : Int)]) else [] := fun b h => by rw [hs, h]
    refine V0 ?_
    refine ⟨_, _, c92 t k, ?_⟩
    refine V0 ?_
    refine ⟨fun hne => ?_, fun hne => ?_⟩
    · have hs := hgo true hne
      rw [if_pos rfl] at hs
      refine V0 ?_
      refine ⟨_, _, c46 g.nodes (by omega), ?_⟩
      refine V0 ?_
      rw [nums_len]
      refine ⟨by show (g.nodes.length + 1) * 8 ≤ _; omega, ?_⟩
      refine V0 ?_
      have hns : (g.nodes ++ [(k : Int)]).length = g.nodes.length + 1 := by simp
      cases hb : tryB t node kind out g.nodes.length (g.nodes ++ [(k : Int)])
      · rw [tryG_n hb, List.append_nil] at hs
        have hc := c96n t ht hv g (by omega) node kind out g.nodes.length (g.nodes ++ [(k : Int)]) h1 (by omega) (by omega) (by omega) G (by omega) hb
        rw [nums_app] at hc
        refine ⟨_, _, hc, ?_⟩
        refine V0 ?_
        exact ⟨k + 1, hlt, by show t.nodes.length - (k + 1) < t.nodes.length - k; omega, le_of [0, 1, 2, 3, 4, 5, 6] rfl rfl rfl ⟨step_num hlt (by omega), rfl, rfl, rfl, rfl, rfl, rfl, rfl, rfl, trivial⟩ ⟨rfl, rfl, rfl, rfl, rfl, rfl, by rw [← Nat.add_assoc, hG2, hs]; rfl, trivial⟩⟩
      · rw [tryG_y hb] at hs
        have hc := c96 t ht hv g (by omega) node kind out g.nodes.length (g.nodes ++ [(k : Int)]) h1 (by omega) (by omega) (by omega) G (by omega) hb
        rw [nums_app] at hc
        refine ⟨_, _, hc, ?_⟩
        refine V0 ?_
        exact ⟨k + 1, hlt, by show t.nodes.length - (k + 1) < t.nodes.length - k; omega, le_of [0, 1, 2, 3, 4, 5, 12] rfl rfl rfl ⟨step_num hlt (by omega), rfl, rfl, rfl, rfl, rfl, rfl, rfl, rfl, trivial⟩ ⟨rfl, rfl, rfl, rfl, rfl, rfl, by rw [← Nat.add_assoc, hG2, hs]; rfl, trivial⟩⟩
    · have hs := hgo false hne
      rw [if_neg (by simp), List.append_nil] at hs
      refine V0 ?_
      exact ⟨k + 1, hlt, by show t.nodes.length - (k + 1) < t.nodes.length - k; omega, le_of [0, 1, 2, 3, 4, 5, 6] rfl rfl rfl ⟨step_num hlt (by omega), rfl, rfl, rfl, rfl, rfl, rfl, rfl, rfl, trivial⟩ ⟨rfl, rfl, rfl, rfl, rfl, rfl, by rw [← Nat.add_assoc, hG2, hs]; rfl, trivial⟩⟩
  · have hge := of_ge hge
    have hk : k = t.nodes.length := by omega
    subst hk
    refine V0 ?_
    exact le_of [6] rfl rfl rfl ⟨rfl, trivial⟩ ⟨rfl, trivial⟩
end Go.Av.Z

/- A graph with a further edge, in all ways: the reference. -/
set_option maxHeartbeats 4000000
namespace Go.Av.Z
open Go.Proofs

theorem c53 (t : Types) (ht : t.ok) (hv : tval t = 0) (g : Graph) (hg : gval g = 0) (node kind : Int) (out : Bool) (h1 : 0 ≤ node) (h2 : node < g.nodes.length) : Con P 53 [] [t.av, g.av, .int .i64 node, .int .i64 kind, .bool out] (.ref 0) [.row 29 2 (grs (lgs t g node kind out (g.nodes.length + t.nodes.length)))] := by
  have hgl := gval_len hg
  have htl := (tval_ok hv).2.2.1
  refine go Tryz.func53 (by rfl) rfl rfl rfl fun hl => ?_
  refine W0 ?_
  refine loop (fun i : Nat => mkSt [(12, .int .i64 i), (5, .bptr 0 0), (6, .bptr 1 0), (2, .int .i64 node), (3, .int .i64 kind), (4, .bool out), (11, .ref 2)] [.box 25 t.cs, .box 29 g.cs, .row 29 2 (grs (lgs t g node kind out i))]) (fun i => i ≤ g.nodes.length + t.nodes.length) (fun i => g.nodes.length + t.nodes.length - i) 0 (Nat.zero_le _)
    (le_of [0, 1, 3] rfl rfl rfl ⟨rfl, rfl, rfl, rfl, rfl, rfl, rfl, trivial⟩ ⟨rfl, rfl, rfl, trivial⟩) ?_
  intro i hi
  refine V0 ?_
  rw [nums_len, ndts_len, wrap_small (n := (g.nodes.length : Int) + t.nodes.length) (by omega) (by omega)]
  refine ⟨fun hlt => ?_, fun hge => ?_⟩
  · have hlt : i < g.nodes.length + t.nodes.length := by have := of_decide_eq_true hlt; omega
    have hll := lgs_len t g node kind out i
    have hs := lgs_succ t g node kind out i
    rw [cnd] at hs
    generalize hG : lgs t g node kind out i = G at hs hll
    generalize hG2 : lgs t g node kind out (i + 1) = G2 at hs
    refine V0 ?_
    refine ⟨_, _, c74 g (by omega) (by omega), ?_⟩
    refine V0 ?_
    rw [nums_len]
    refine ⟨fun hn => ?_, fun hn => ?_⟩
    · have hn : g.nodes.length ≤ i := by have := of_decide_eq_true hn; omega
      rw [if_neg (by omega)] at hs
      refine V0 ?_
      rw [nums_len, wrap_small (n := (i : Int) - g.nodes.length) (by omega) (by omega)]
      refine ⟨_, _, c50 t (by omega) ((i : Int) - g.nodes.length), ?_⟩
      generalize hk : (i : Int) - g.nodes.length = k at hs
      refine V0 ?_
      refine ⟨fun hf => ?_, fun hf => ?_⟩
      · have hf : leafB t k = false := by simpa using hf
        rw [hf, if_neg (by simp), List.append_nil] at hs
        refine V0 ?_
        exact ⟨i + 1, hlt, by show g.nodes.length + t.nodes.length - (i + 1) < g.nodes.length + t.nodes.length - i; omega, le_of [0, 1, 2] rfl rfl rfl ⟨step_num hlt (by omega), rfl, rfl, rfl, rfl, rfl, rfl, trivial⟩ ⟨rfl, rfl, by rw [hG2, hs]; rfl, trivial⟩⟩
      · have hf : leafB t k = true := by simpa using hf
        rw [hf, if_pos rfl] at hs
        refine V0 ?_
        rw [nums_len, wrap_small (n := (i : Int) - g.nodes.length) (by omega) (by omega), hk]
        refine ⟨by show (g.nodes.length + 1) * 8 ≤ _; omega, ?_⟩
        refine V0 ?_
        have hnl : (g.nodes ++ [k]).length = g.nodes.length + 1 := by simp
        rw [← nums_app]
        rw [show (if ((nums g.nodes).length : Int) < (i : Int) then ((nums g.nodes).length : Int) else (i : Int)) = (g.nodes.length : Int) by rw [nums_len]; split <;> omega]
        refine ⟨fun ho2 => ?_, fun ho2 => ?_⟩
        · obtain rfl : out = false := by simpa using ho2
          refine V0 ?_
          refine ⟨⟨by omega, by rw [nums_len]; omega⟩, ?_⟩
          refine V0 ?_
          refine ⟨rfl, _, nums_at (at0_some (l := g.nodes ++ [k]) (n := (g.nodes.length : Int)) (by omega)), ?_⟩
          refine V0 ?_
          refine ⟨⟨by omega, by rw [nums_len]; omega⟩, ?_⟩
          refine V0 ?_
          refine ⟨rfl, _, nums_at (at0_some (l := g.nodes ++ [k]) (n := node) (by omega)), ?_⟩
          refine V0 ?_
          refine ⟨_, _, c109 t ht hv kind (at0 (g.nodes ++ [k]) ((g.nodes.length : Int))) (at0 (g.nodes ++ [k]) (node)), ?_⟩
          refine V0 ?_
          refine ⟨fun hb => ?_, fun hb => ?_⟩
          · have hb2 : tryB t node kind false ((g.nodes.length : Int)) (g.nodes ++ [k]) = true := hb
            rw [tryG_y hb2] at hs
            refine V0 ?_
            rw [edgs_len]
            refine ⟨by show (g.edges.length + 1) * 24 ≤ _; omega, ?_⟩
            refine V0 ?_
            rw [grs_len]
            refine ⟨by show (G.length + 1) * 48 ≤ _; omega, ?_⟩
            refine V0 ?_
            exact ⟨i + 1, hlt, by show g.nodes.length + t.nodes.length - (i + 1) < g.nodes.length + t.nodes.length - i; omega, le_of [0, 1, 17] rfl rfl rfl ⟨step_num hlt (by omega), rfl, rfl, rfl, rfl, rfl, rfl, trivial⟩ ⟨rfl, rfl, by rw [hG2, hs, grs_one]; rfl, trivial⟩⟩
          · have hb2 : tryB t node kind false ((g.nodes.length : Int)) (g.nodes ++ [k]) = false := hb
            rw [tryG_n hb2, List.append_nil] at hs
            refine V0 ?_
            exact ⟨i + 1, hlt, by show g.nodes.length + t.nodes.length - (i + 1) < g.nodes.length + t.nodes.length - i; omega, le_of [0, 1, 2] rfl rfl rfl ⟨step_num hlt (by omega), rfl, rfl, rfl, rfl, rfl, rfl, trivial⟩ ⟨rfl, rfl, by rw [hG2, hs]; rfl, trivial⟩⟩
        · obtain rfl : out = true := by simpa using ho2
          refine V0 ?_
          refine ⟨⟨by omega, by rw [nums_len]; omega⟩, ?_⟩
          refine V0 ?_
          refine ⟨rfl, _, nums_at (at0_some (l := g.nodes ++ [k]) (n := node) (by omega)), ?_⟩
          refine V0 ?_
          refine ⟨⟨by omega, by rw [nums_len]; omega⟩, ?_⟩
          refine V0 ?_
          refine ⟨rfl, _, nums_at (at0_some (l := g.nodes ++ [k]) (n := (g.nodes.length : Int)) (by omega)), ?_⟩
          refine V0 ?_
          refine ⟨_, _, c109 t ht hv kind (at0 (g.nodes ++ [k]) (node)) (at0 (g.nodes ++ [k]) ((g.nodes.length : Int))), ?_⟩
          refine V0 ?_
          refine ⟨fun hb => ?_, fun hb => ?_⟩
          · have hb2 : tryB t node kind true ((g.nodes.length : Int)) (g.nodes ++ [k]) = true := hb
            rw [tryG_y hb2] at hs
            refine V0 ?_
            rw [edgs_len]
            refine ⟨by show (g.edges.length + 1) * 24 ≤ _; omega, ?_⟩
            refine V0 ?_
            rw [grs_len]
            refine ⟨by show (G.length + 1) * 48 ≤ _; omega, ?_⟩
            refine V0 ?_
            exact ⟨i + 1, hlt, by show g.nodes.length + t.nodes.length - (i + 1) < g.nodes.length + t.nodes.length - i; omega, le_of [0, 1, 17] rfl rfl rfl ⟨step_num hlt (by omega), rfl, rfl, rfl, rfl, rfl, rfl, trivial⟩ ⟨rfl, rfl, by rw [hG2, hs, grs_one]; rfl, trivial⟩⟩
          · have hb2 : tryB t node kind true ((g.nodes.length : Int)) (g.nodes ++ [k]) = false := hb
            rw [tryG_n hb2, List.append_nil] at hs
            refine V0 ?_
            exact ⟨i + 1, hlt, by show g.nodes.length + t.nodes.length - (i + 1) < g.nodes.length + t.nodes.length - i; omega, le_of [0, 1, 2] rfl rfl rfl ⟨step_num hlt (by omega), rfl, rfl, rfl, rfl, rfl, rfl, trivial⟩ ⟨rfl, rfl, by rw [hG2, hs]; rfl, trivial⟩⟩
    · have hn : i < g.nodes.length := by have := of_decide_eq_false hn; omega
      rw [if_pos hn] at hs
      refine V0 ?_
      refine ⟨fun he => ?_, fun he => ?_⟩
      · refine V0 ?_
        refine ⟨fun ho => ?_, fun ho => ?_⟩
        · have ho : out = false := by simpa using ho
          rw [if_neg (by rw [ho, bne, show ((i : Int) == node) = true from he]; simp), List.append_nil] at hs
          refine V0 ?_
          exact ⟨i + 1, hlt, by show g.nodes.length + t.nodes.length - (i + 1) < g.nodes.length + t.nodes.length - i; omega, le_of [0, 1, 2] rfl rfl rfl ⟨step_num hlt (by omega), rfl, rfl, rfl, rfl, rfl, rfl, trivial⟩ ⟨rfl, rfl, by rw [hG2, hs]; rfl, trivial⟩⟩
        · have ho : out = true := by simpa using ho
          rw [if_pos (by rw [ho]; rfl)] at hs
          refine V0 ?_
          rw [show (if ((nums g.nodes).length : Int) < (i : Int) then ((nums g.nodes).length : Int) else (i : Int)) = (i : Int) by rw [nums_len]; split <;> omega]
          refine ⟨fun ho2 => ?_, fun ho2 => ?_⟩
          · obtain rfl : out = false := by simpa using ho2
            refine V0 ?_
            refine ⟨⟨by omega, by rw [nums_len]; omega⟩, ?_⟩
            refine V0 ?_
            refine ⟨rfl, _, nums_at (at0_some (l := g.nodes) (n := (i : Int)) (by omega)), ?_⟩
            refine V0 ?_
            refine ⟨⟨by omega, by rw [nums_len]; omega⟩, ?_⟩
            refine V0 ?_
            refine ⟨rfl, _, nums_at (at0_some (l := g.nodes) (n := node) (by omega)), ?_⟩
            refine V0 ?_
            refine ⟨_, _, c109 t ht hv kind (at0 (g.nodes) ((i : Int))) (at0 (g.nodes) (node)), ?_⟩
            refine V0 ?_
            refine ⟨fun hb => ?_, fun hb => ?_⟩
            · have hb2 : tryB t node kind false ((i : Int)) (g.nodes) = true := hb
              rw [tryG_y hb2] at hs
              refine V0 ?_
              rw [edgs_len]
              refine ⟨by show (g.edges.length + 1) * 24 ≤ _; omega, ?_⟩
              refine V0 ?_
              rw [grs_len]
              refine ⟨by show (G.length + 1) * 48 ≤ _; omega, ?_⟩
              refine V0 ?_
              exact ⟨i + 1, hlt, by show g.nodes.length + t.nodes.length - (i + 1) < g.nodes.length + t.nodes.length - i; omega, le_of [0, 1, 14] rfl rfl rfl ⟨step_num hlt (by omega), rfl, rfl, rfl, rfl, rfl, rfl, trivial⟩ ⟨rfl, rfl, by rw [hG2, hs, grs_one]; rfl, trivial⟩⟩
            · have hb2 : tryB t node kind false ((i : Int)) (g.nodes) = false := hb
              rw [tryG_n hb2, List.append_nil] at hs
              refine V0 ?_
              exact ⟨i + 1, hlt, by show g.nodes.length + t.nodes.length - (i + 1) < g.nodes.length + t.nodes.length - i; omega, le_of [0, 1, 2] rfl rfl rfl ⟨step_num hlt (by omega), rfl, rfl, rfl, rfl, rfl, rfl, trivial⟩ ⟨rfl, rfl, by rw [hG2, hs]; rfl, trivial⟩⟩
          · obtain rfl : out = true := by simpa using ho2
            refine V0 ?_
            refine ⟨⟨by omega, by rw [nums_len]; omega⟩, ?_⟩
            refine V0 ?_
            refine ⟨rfl, _, nums_at (at0_some (l := g.nodes) (n := node) (by omega)), ?_⟩
            refine V0 ?_
            refine ⟨⟨by omega, by rw [nums_len]; omega⟩, ?_⟩
            refine V0 ?_
            refine ⟨rfl, _, nums_at (at0_some (l := g.nodes) (n := (i : Int)) (by omega)), ?_⟩
            refine V0 ?_
            refine ⟨_, _, c109 t ht hv kind (at0 (g.nodes) (node)) (at0 (g.nodes) ((i : Int))), ?_⟩
            refine V0 ?_
            refine ⟨fun hb => ?_, fun hb => ?_⟩
            · have hb2 : tryB t node kind true ((i : Int)) (g.nodes) = true := hb
              rw [tryG_y hb2] at hs
              refine V0 ?_
              rw [edgs_len]
              refine ⟨by show (g.edges.length + 1) * 24 ≤ _; omega, ?_⟩
              refine V0 ?_
              rw [grs_len]
              refine ⟨by show (G.length + 1) * 48 ≤ _; omega, ?_⟩
              refine V0 ?_
              exact ⟨i + 1, hlt, by show g.nodes.length + t.nodes.length - (i + 1) < g.nodes.length + t.nodes.length - i; omega, le_of [0, 1, 14] rfl rfl rfl ⟨step_num hlt (by omega), rfl, rfl, rfl, rfl, rfl, rfl, trivial⟩ ⟨rfl, rfl, by rw [hG2, hs, grs_one]; rfl, trivial⟩⟩
            · have hb2 : tryB t node kind true ((i : Int)) (g.nodes) = false := hb
              rw [tryG_n hb2, List.append_nil] at hs
              refine V0 ?_
              exact ⟨i + 1, hlt, by show g.nodes.length + t.nodes.length - (i + 1) < g.nodes.length + t.nodes.length - i; omega, le_of [0, 1, 2] rfl rfl rfl ⟨step_num hlt (by omega), rfl, rfl, rfl, rfl, rfl, rfl, trivial⟩ ⟨rfl, rfl, by rw [hG2, hs]; rfl, trivial⟩⟩
      · rw [if_pos (by rw [bne, show ((i : Int) == node) = false from he]; simp)] at hs
        refine V0 ?_
        rw [show (if ((nums g.nodes).length : Int) < (i : Int) then ((nums g.nodes).length : Int) else (i : Int)) = (i : Int) by rw [nums_len]; split <;> omega]
        refine ⟨fun ho2 => ?_, fun ho2 => ?_⟩
        · obtain rfl : out = false := by simpa using ho2
          refine V0 ?_
          refine ⟨⟨by omega, by rw [nums_len]; omega⟩, ?_⟩
          refine V0 ?_
          refine ⟨rfl, _, nums_at (at0_some (l := g.nodes) (n := (i : Int)) (by omega)), ?_⟩
          refine V0 ?_
          refine ⟨⟨by omega, by rw [nums_len]; omega⟩, ?_⟩
          refine V0 ?_
          refine ⟨rfl, _, nums_at (at0_some (l := g.nodes) (n := node) (by omega)), ?_⟩
          refine V0 ?_
          refine ⟨_, _, c109 t ht hv kind (at0 (g.nodes) ((i : Int))) (at0 (g.nodes) (node)), ?_⟩
          refine V0 ?_
          refine ⟨fun hb => ?_, fun hb => ?_⟩
          · have hb2 : tryB t node kind false ((i : Int)) (g.nodes) = true := hb
            rw [tryG_y hb2] at hs
            refine V0 ?_
            rw [edgs_len]
            refine ⟨by show (g.edges.length + 1) * 24 ≤ _; omega, ?_⟩
            refine V0 ?_
            rw [grs_len]
            refine ⟨by show (G.length + 1) * 48 ≤ _; omega, ?_⟩
            refine V0 ?_
            exact ⟨i + 1, hlt, by show g.nodes.length + t.nodes.length - (i + 1) < g.nodes.length + t.nodes.length - i; omega, le_of [0, 1, 14] rfl rfl rfl ⟨step_num hlt (by omega), rfl, rfl, rfl, rfl, rfl, rfl, trivial⟩ ⟨rfl, rfl, by rw [hG2, hs, grs_one]; rfl, trivial⟩⟩
          · have hb2 : tryB t node kind false ((i : Int)) (g.nodes) = false := hb
            rw [tryG_n hb2, List.append_nil] at hs
            refine V0 ?_
            exact ⟨i + 1, hlt, by show g.nodes.length + t.nodes.length - (i + 1) < g.nodes.length + t.nodes.length - i; omega, le_of [0, 1, 2] rfl rfl rfl ⟨step_num hlt (by omega), rfl, rfl, rfl, rfl, rfl, rfl, trivial⟩ ⟨rfl, rfl, by rw [hG2, hs]; rfl, trivial⟩⟩
        · obtain rfl : out = true := by simpa using ho2
          refine V0 ?_
          refine ⟨⟨by omega, by rw [nums_len]; omega⟩, ?_⟩
          refine V0 ?_
          refine ⟨rfl, _, nums_at (at0_some (l := g.nodes) (n := node) (by omega)), ?_⟩
          refine V0 ?_
          refine ⟨⟨by omega, by rw [nums_len]; omega⟩, ?_⟩
          refine V0 ?_
          refine ⟨rfl, _, nums_at (at0_some (l := g.nodes) (n := (i : Int)) (by omega)), ?_⟩
          refine V0 ?_
          refine ⟨_, _, c109 t ht hv kind (at0 (g.nodes) (node)) (at0 (g.nodes) ((i : Int))), ?_⟩
          refine V0 ?_
          refine ⟨fun hb => ?_, fun hb => ?_⟩
          · have hb2 : tryB t node kind true ((i : Int)) (g.nodes) = true := hb
            rw [tryG_y hb2] at hs
            refine V0 ?_
            rw [edgs_len]
            refine ⟨by show (g.edges.length + 1) * 24 ≤ _; omega, ?_⟩
            refine V0 ?_
            rw [grs_len]
            refine ⟨by show (G.length + 1) * 48 ≤ _; omega, ?_⟩
            refine V0 ?_
            exact ⟨i + 1, hlt, by show g.nodes.length + t.nodes.length - (i + 1) < g.nodes.length + t.nodes.length - i; omega, le_of [0, 1, 14] rfl rfl rfl ⟨step_num hlt (by omega), rfl, rfl, rfl, rfl, rfl, rfl, trivial⟩ ⟨rfl, rfl, by rw [hG2, hs, grs_one]; rfl, trivial⟩⟩
          · have hb2 : tryB t node kind true ((i : Int)) (g.nodes) = false := hb
            rw [tryG_n hb2, List.append_nil] at hs
            refine V0 ?_
            exact ⟨i + 1, hlt, by show g.nodes.length + t.nodes.length - (i + 1) < g.nodes.length + t.nodes.length - i; omega, le_of [0, 1, 2] rfl rfl rfl ⟨step_num hlt (by omega), rfl, rfl, rfl, rfl, rfl, rfl, trivial⟩ ⟨rfl, rfl, by rw [hG2, hs]; rfl, trivial⟩⟩
  · have hge : ¬ i < g.nodes.length + t.nodes.length := by have := of_decide_eq_false hge; omega
    have hi : i = g.nodes.length + t.nodes.length := by omega
    subst hi
    refine V0 ?_
    exact le_of [2] rfl rfl rfl ⟨rfl, trivial⟩ ⟨rfl, trivial⟩
end Go.Av.Z

/- What can be applied: plain. -/
set_option maxHeartbeats 4000000
namespace Go.Av.Z
open Go.Proofs

def pZ : Pat := ⟨⟨[], []⟩, [], 0, []⟩
def mZ : Mor := ⟨[], []⟩
/-- 'Not: there is the graph'. -/
def kidG (g x : Graph) : Cond := .mk 2 [.mk 5 [cyes] (idn g) ⟨x, [], 0, []⟩] mZ pZ
def gsK (t : Types) (g : Graph) (i : Int) (k : Nat) : List Graph := lgs t g i k true (g.nodes.length + t.nodes.length) ++ lgs t g i k false (g.nodes.length + t.nodes.length)
def gsI (t : Types) (g : Graph) (i : Int) (n : Nat) : List Graph := (List.range n).flatMap (gsK t g i)
def gsN (t : Types) (g : Graph) (l : List Int) : List Graph := l.flatMap fun i => gsI t g i t.edges.length
theorem gsI_succ (t : Types) (g : Graph) (i : Int) (n : Nat) : gsI t g i (n + 1) = gsI t g i n ++ gsK t g i n := by
  rw [gsI, List.range_succ, List.flatMap_append]; simp [gsI]
theorem gsN_one (t : Types) (g : Graph) (l : List Int) (i : Int) : gsN t g (l ++ [i]) = gsN t g l ++ gsI t g i t.edges.length := by
  simp [gsN]
theorem gsK_len {t : Types} {g : Graph} (h1 : g.nodes.length ≤ 40) (h2 : t.nodes.length ≤ 12) (i : Int) (k : Nat) : (gsK t g i k).length ≤ 104 := by
  have a := lgs_len t g i k true (g.nodes.length + t.nodes.length)
  have b := lgs_len t g i k false (g.nodes.length + t.nodes.length)
  rw [gsK, List.length_append]; omega
theorem gsI_len {t : Types} {g : Graph} (h1 : g.nodes.length ≤ 40) (h2 : t.nodes.length ≤ 12) (i : Int) (n : Nat) : (gsI t g i n).length ≤ n * 104 := by
  induction n with
  | zero => simp [gsI]
  | succ n ih => rw [gsI_succ, List.length_append]; have := gsK_len h1 h2 i n; omega
theorem gsN_len {t : Types} {g : Graph} (h1 : g.nodes.length ≤ 40) (h2 : t.nodes.length ≤ 12) (h3 : t.edges.length ≤ 20) : ∀ l : List Int, (gsN t g l).length ≤ l.length * 2080
  | [] => by simp [gsN]
  | i :: l => by
    have := gsN_len h1 h2 h3 l
    have h := gsI_len h1 h2 i t.edges.length
    have e : gsN t g (i :: l) = gsI t g i t.edges.length ++ gsN t g l := by simp [gsN]
    rw [e, List.length_append, List.length_cons]
    omega
def cAnd (g : Graph) (G : List Graph) : Cond := .mk 3 (G.map (kidG g)) mZ pZ
/-- The applicability condition of a rule, or an error. -/
def apl (t : Types) (ρ : Rule) : Cond × Int :=
  if tydE t ρ ≠ 0 then (.zero, tydE t ρ) else if (gsN t ρ.left.graph (restL ρ.left.graph.nodes.length ρ.keep.nodes)).any (fun x => gval x != 0) = true then (.zero, 3)
  else if (gsN t ρ.left.graph (restL ρ.left.graph.nodes.length ρ.keep.nodes)).length = 0 then (cyes, 0)
  else if lrg (cAnd ρ.left.graph (gsN t ρ.left.graph (restL ρ.left.graph.nodes.length ρ.keep.nodes))) ≠ 0 then (.zero, lrg (cAnd ρ.left.graph (gsN t ρ.left.graph (restL ρ.left.graph.nodes.length ρ.keep.nodes))))
  else (cAnd ρ.left.graph (gsN t ρ.left.graph (restL ρ.left.graph.nodes.length ρ.keep.nodes)), 0)
theorem tydE_ok {t : Types} {ρ : Rule} (h : tydE t ρ = 0) : tval t = 0 ∧ strc ρ = 0 := by
  unfold tydE at h
  split at h
  · contradiction
  split at h
  · contradiction
  rename_i h1 h2
  exact ⟨by simpa using h1, by simpa using h2⟩
theorem gsN_mem {t : Types} {g : Graph} {l : List Int} {i : Int} {k : Nat} {x : Graph} (hi : i ∈ l) (hk : k < t.edges.length) (hx : x ∈ gsK t g i k) : x ∈ gsN t g l := by
  rw [gsN, List.mem_flatMap]
  exact ⟨i, hi, by rw [gsI, List.mem_flatMap]; exact ⟨k, by simpa using hk, hx⟩⟩
theorem restL_in {n i : Nat} {K : List Int} (hi : i < n) (h : (!K.contains (i : Int)) = true) : (i : Int) ∈ restL n K := by
  rw [restL_mem]; simp at h; exact ⟨by omega, h⟩
def kds (g : Graph) (D : List Graph) : List (List AV) := cnds (D.map (kidG g))
theorem kds_len (g : Graph) (D : List Graph) : (kds g D).length = D.length := by rw [kds, cnds_len, List.length_map]
theorem kds_app (g : Graph) (D : List Graph) (x : Graph) : kds g (D ++ [x]) = kds g D ++ [(kidG g x).cs] := by rw [kds, List.map_append]; exact cnds_app _ _

/-- A graph that has another one ahead. -/
def ahead (g x : Graph) : Prop := ∃ ns es, x.nodes = g.nodes ++ ns ∧ x.edges = g.edges ++ es
theorem cnd_ahead {t : Types} {g : Graph} {node kind : Int} {out : Bool} {i : Nat} {x : Graph} (h : x ∈ cnd t g node kind out i) : ahead g x := by
  have ht : ∀ (o : Int) (ns r : List Int), ns = g.nodes ++ r → x ∈ tryG t g node kind out o ns → ahead g x := fun o ns r e h => by
    unfold tryG at h
    split at h
    · rw [List.mem_singleton] at h; subst h; exact ⟨r, _, e, rfl⟩
    · cases h
  unfold cnd at h
  split at h
  · split at h
    · exact ht _ _ [] (by simp) h
    · cases h
  · split at h
    · exact ht _ _ _ rfl h
    · cases h
theorem lgs_ahead {t : Types} {g : Graph} {node kind : Int} {out : Bool} {m : Nat} {x : Graph} (h : x ∈ lgs t g node kind out m) : ahead g x := by
  rw [lgs, List.mem_flatMap] at h
  obtain ⟨_, _, h⟩ := h
  exact cnd_ahead h
theorem gsN_ahead {t : Types} {g : Graph} {l : List Int} {x : Graph} (h : x ∈ gsN t g l) : ahead g x := by
  rw [gsN, List.mem_flatMap] at h
  obtain ⟨_, _, h⟩ := h
  rw [gsI, List.mem_flatMap] at h
  obtain ⟨_, _, h⟩ := h
  rw [gsK, List.mem_append] at h
  rcases h with h | h <;> exact lgs_ahead h
theorem rng_nodup (n : Nat) : (rng 0 n).Nodup := by
  unfold rng
  rw [List.nodup_iff_pairwise_ne, List.pairwise_map]
  exact List.Pairwise.imp (fun h => by omega) (List.pairwise_lt_range (n := n))
theorem rng_get {n i : Nat} {k : Int} (h : (rng 0 n)[i]? = some k) : k = i ∧ i < n := by
  have hi := (List.getElem?_eq_some_iff.1 h).1
  rw [rng_len] at hi
  rw [rng_at hi] at h
  have := Option.some.inj h
  exact ⟨by omega, hi⟩
theorem idn_val {g x : Graph} (hg : gval g = 0) (hx : gval x = 0) (h : ahead g x) : mval g x (idn g) = 0 := by
  obtain ⟨ns, es, hn, he⟩ := h
  have e1 : errs (mnode g x) 0 (idn g).nodes = 0 := errs_zero fun j k hk => by
    obtain ⟨rfl, hj⟩ := rng_get hk
    rw [Nat.zero_add, mnode, if_neg (by rw [hn, List.length_append]; omega), if_neg]
    rw [hn, at0, at0, List.getD_eq_getElem?_getD, List.getD_eq_getElem?_getD, Int.toNat_natCast, List.getElem?_append_left hj]
    simp
  have e2 : errs (medge g x (idn g)) 0 (idn g).edges = 0 := errs_zero fun j k hk => by
    obtain ⟨rfl, hj⟩ := rng_get hk
    have hy : g.edges[j]? = some g.edges[j] := List.getElem?_eq_getElem hj
    have hr := gval_edge hg hy
    have ha : atE g.edges (j : Int) = g.edges[j] := by rw [atE, Int.toNat_natCast, List.getD_eq_getElem?_getD, hy]; rfl
    have hb : atE x.edges (j : Int) = g.edges[j] := by rw [atE, Int.toNat_natCast, List.getD_eq_getElem?_getD, he, List.getElem?_append_left hj, hy]; rfl
    rw [Nat.zero_add, medge, if_neg (by rw [he, List.length_append]; omega), ha, hb, if_neg (by simp), if_neg]
    rw [idn, at0_rng hr.1 hr.2.1, at0_rng hr.2.2.1 hr.2.2.2.1]; simp
  rw [mval, if_neg (by simp [hg]), if_neg (by simp [hx]), if_neg (by rw [idn, rng_len, rng_len]; simp), if_neg (by simp [e1]), e2]
theorem idn_inj {g x : Graph} (hg : gval g = 0) (hx : gval x = 0) (h : ahead g x) : minj g x (idn g) = true := by
  rw [minj, idn_val hg hx h, idn, decide_eq_true (rng_nodup _), decide_eq_true (rng_nodup _)]; rfl
theorem cyes_ovr (x : Graph) : ovr x cyes = 0 := by rw [ovr_eq, if_neg (by decide), if_neg (by decide)]; rfl
theorem shp_ex (g x : Graph) : shp (.mk 5 [cyes] (idn g) ⟨x, [], 0, []⟩) = 0 := by rfl
theorem shp_not (c : Cond) : shp (.mk 2 [c] mZ pZ) = 0 := by rfl
theorem shp_and (l : List Cond) (h : l.length ≠ 0) : shp (.mk 3 l mZ pZ) = 0 := by
  have h2 : 0 < l.length := by omega
  simp [shp, shpOk, unusedB, plainB, mZ, pZ, Cond.kind, Cond.kids, Cond.map, Cond.pat, h2]
  try (intro h3; subst h3; simp at h2)
theorem kid_ovr {g x : Graph} (hg : gval g = 0) (hx : gval x = 0) (h : ahead g x) : ovr g (kidG g x) = 0 := by
  have e : ovr g (.mk 5 [cyes] (idn g) ⟨x, [], 0, []⟩) = 0 := by
    rw [ovr, if_neg (by simp [shp_ex]), if_pos (by decide)]
    show (if mval g x (idn g) ≠ 0 then _ else if minj g x (idn g) = false then _ else ovrs x [cyes]) = 0
    rw [if_neg (by simp [idn_val hg hx h]), if_neg (by simp [idn_inj hg hx h]), ovrs, if_neg (by simp [cyes_ovr]), ovrs]
  rw [kidG, ovr, if_neg (by simp [shp_not]), if_neg (by decide)]
  show ovrs g [_] = 0
  rw [ovrs, if_neg (by simp [e]), ovrs]
theorem cAnd_ovr {g : Graph} (hg : gval g = 0) {G : List Graph} (hn : G.length ≠ 0) (h : ∀ x ∈ G, gval x = 0 ∧ ahead g x) : ovr g (cAnd g G) = 0 := by
  rw [cAnd, ovr, if_neg (by rw [shp_and _ (by simpa using hn)]; simp), if_neg (by decide)]
  show ovrs g (G.map (kidG g)) = 0
  rw [ovrs_errs _ _ 0]
  refine errs_zero fun j y hy => ?_
  rw [List.getElem?_map] at hy
  cases hj : G[j]? with
  | none => rw [hj] at hy; cases hy
  | some z =>
    rw [hj] at hy
    obtain rfl := Option.some.inj hy
    have := h z (List.mem_of_getElem? hj)
    exact kid_ovr hg this.1 this.2
theorem cAnd_val {g : Graph} (hg : gval g = 0) {G : List Graph} (hn : G.length ≠ 0) (h : ∀ x ∈ G, gval x = 0 ∧ ahead g x) : cval g (cAnd g G) = lrg (cAnd g G) := by
  rw [cval, if_neg (by simp [hg]), if_neg (by simp [cAnd_ovr hg hn h])]
end Go.Av.Z

/- What can be applied: the program. -/
set_option maxHeartbeats 4000000
namespace Go.Av.Z
open Go.Proofs

theorem c14 (t : Types) (ht : t.ok) (ρ : Rule) (hf : ρ.fine) : Con P 14 [] [t.av, ρ.av] (.tuple [(apl t ρ).1.av, .int .i64 (apl t ρ).2]) [] := by
  refine go Tryz.func14 (by rfl) rfl rfl rfl fun hl => ?_
  refine W0 ?_
  refine ⟨_, _, c41 t ht ρ hf, ?_⟩
  refine V0 ?_
  refine ⟨fun h => ?_, fun h => ?_⟩
  · have h : tydE t ρ ≠ 0 := by simpa using h
    refine V0 ?_
    refine fin_frz TT ?_ rfl
    rw [apl, if_pos h]; rfl
  have hy : tydE t ρ = 0 := by simpa using h
  obtain ⟨hv, hs⟩ := tydE_ok hy
  have hgv := (strc_gv hs).1
  have hgl := gval_len hgv
  have htl := (tval_ok hv).2.2
  refine V0 ?_
  refine ⟨_, _, c42 ρ.left.graph hgv, ?_⟩
  refine V0 ?_
  rw [nums_len]
  have hNl := fun l => gsN_len (t := t) (g := ρ.left.graph) (by omega) (by omega) (by omega) l
  have hIl := fun i n => gsI_len (t := t) (g := ρ.left.graph) (by omega) (by omega) i n
  have hKl := fun i k => gsK_len (t := t) (g := ρ.left.graph) (by omega) (by omega) i k
  refine loop (fun i : Nat => mkSt [(40, .int .i64 i), (39, .int .i64 ρ.left.graph.nodes.length), (38, .slice 1 (nums ρ.left.graph.nodes)), (2, .bptr 0 0), (3, .bptr 1 0), (4, .bptr 2 0), (7, .bptr 10 0), (8, .bptr 11 0), (10, .bptr 12 0)] [.box 25 t.cs, .box 41 ρ.cs, .box 39 [.int .i64 0, .ref 3, .ref 4, .ref 5, .ref 6, .ref 7, .ref 8, .int .i64 0, .ref 9], .row 39 9 [], .row 3 1 [], .row 3 1 [], .row 3 1 [], .row 133 3 [], .row 117 4 [], .row 119 5 [], .box 29 ρ.left.graph.cs, .box 36 (idn ρ.left.graph).cs, .box 39 [.int .i64 3, .ref 19, .ref 13, .ref 14, .ref 15, .ref 16, .ref 17, .int .i64 0, .ref 18], .row 3 1 [], .row 3 1 [], .row 3 1 [], .row 133 3 [], .row 117 4 [], .row 119 5 [], .row 39 9 (kds ρ.left.graph (gsN t ρ.left.graph (restL i ρ.keep.nodes)))])
      (fun i => i ≤ ρ.left.graph.nodes.length ∧ ∀ x ∈ gsN t ρ.left.graph (restL i ρ.keep.nodes), gval x = 0) (fun i => ρ.left.graph.nodes.length - i) 0 ⟨Nat.zero_le _, by intro x hx; cases hx⟩
    (le_of [0, 1, 2, 3, 4, 5, 6, 7, 8, 9, 11, 15, 18, 27, 28, 29, 30, 31, 32, 26] rfl rfl rfl ⟨rfl, rfl, rfl, rfl, rfl, rfl, rfl, rfl, rfl, trivial⟩ ⟨rfl, rfl, rfl, rfl, rfl, rfl, rfl, rfl, rfl, rfl, rfl, rfl, rfl, rfl, rfl, rfl, rfl, rfl, rfl, rfl, trivial⟩) ?_
  rintro i ⟨hi, hno⟩
  have hr := restL_len i ρ.keep.nodes
  have hD := hNl (restL i ρ.keep.nodes)
  refine V0 ?_
  refine ⟨fun hlt => ?_, fun hge => ?_⟩
  · have hlt := of_lt hlt
    refine V0 ?_
    refine ⟨_, _, c43 ρ.keep.nodes i, ?_⟩
    refine V0 ?_
    refine ⟨fun hk => ?_, fun hk => ?_⟩
    · have e := restL_no (gn := ρ.keep.nodes) (n := i) (by rw [hk]; rfl)
      refine V0 ?_
      exact ⟨i + 1, ⟨hlt, by rw [e]; exact hno⟩, by show ρ.left.graph.nodes.length - (i + 1) < ρ.left.graph.nodes.length - i; omega, le_of [0, 1, 2, 3, 4, 5, 6, 7, 8, 9, 10, 11, 12, 13, 14, 15, 16, 17, 18, 19] rfl rfl rfl ⟨step_num hlt (by omega), rfl, rfl, rfl, rfl, rfl, rfl, rfl, rfl, trivial⟩ ⟨rfl, rfl, rfl, rfl, rfl, rfl, rfl, rfl, rfl, rfl, rfl, rfl, rfl, rfl, rfl, rfl, rfl, rfl, rfl, by rw [e]; rfl, trivial⟩⟩
    have hk : (!ρ.keep.nodes.contains (i : Int)) = true := by rw [hk]; rfl
    have e := restL_yes hk
    have hin := restL_in hlt hk
    generalize hDD : gsN t ρ.left.graph (restL i ρ.keep.nodes) = D at hno hD
    have e2 : gsN t ρ.left.graph (restL (i + 1) ρ.keep.nodes) = D ++ gsI t ρ.left.graph i t.edges.length := by rw [e, gsN_one, hDD]
    refine V0 ?_
    rw [edts_len]
    refine loop (fun k : Nat => mkSt [(51, .int .i64 k), (50, .int .i64 t.edges.length), (11, .int .i64 i), (40, .int .i64 i), (39, .int .i64 ρ.left.graph.nodes.length), (38, .slice 1 (nums ρ.left.graph.nodes)), (2, .bptr 0 0), (3, .bptr 1 0), (4, .bptr 2 0), (7, .bptr 10 0), (8, .bptr 11 0), (10, .bptr 12 0)] [.box 25 t.cs, .box 41 ρ.cs, .box 39 [.int .i64 0, .ref 3, .ref 4, .ref 5, .ref 6, .ref 7, .ref 8, .int .i64 0, .ref 9], .row 39 9 [], .row 3 1 [], .row 3 1 [], .row 3 1 [], .row 133 3 [], .row 117 4 [], .row 119 5 [], .box 29 ρ.left.graph.cs, .box 36 (idn ρ.left.graph).cs, .box 39 [.int .i64 3, .ref 19, .ref 13, .ref 14, .ref 15, .ref 16, .ref 17, .int .i64 0, .ref 18], .row 3 1 [], .row 3 1 [], .row 3 1 [], .row 133 3 [], .row 117 4 [], .row 119 5 [], .row 39 9 (kds ρ.left.graph (D ++ gsI t ρ.left.graph i k))])
        (fun k => k ≤ t.edges.length ∧ ∀ x ∈ D ++ gsI t ρ.left.graph i k, gval x = 0) (fun k => t.edges.length - k) 0 ⟨Nat.zero_le _, by intro x hx; exact hno x (by simpa [gsI] using hx)⟩
      (le_of [0, 1, 2, 3, 4, 5, 6, 7, 8, 9, 10, 11, 12, 13, 14, 15, 16, 17, 18, 19] rfl rfl rfl ⟨rfl, rfl, rfl, rfl, rfl, rfl, rfl, rfl, rfl, rfl, rfl, rfl, trivial⟩ ⟨rfl, rfl, rfl, rfl, rfl, rfl, rfl, rfl, rfl, rfl, rfl, rfl, rfl, rfl, rfl, rfl, rfl, rfl, rfl, by rw [show gsI t ρ.left.graph i 0 = [] from rfl, List.append_nil]; rfl, trivial⟩) ?_
    rintro k ⟨hkk, hno2⟩
    have hDk := hIl i k
    have hk104 : k * 104 ≤ 20 * 104 := Nat.mul_le_mul_right _ (by omega)
    have hr2 : (restL i ρ.keep.nodes).length * 2080 ≤ 40 * 2080 := Nat.mul_le_mul_right _ (by omega)
    refine V0 ?_
    refine ⟨fun hlt2 => ?_, fun hge2 => ?_⟩
    · have hlt2 := of_lt hlt2
      have e3 := gsI_succ t ρ.left.graph i k
      have hKk := hKl i k
      have hm : ∀ x ∈ gsK t ρ.left.graph i k, x ∈ gsN t ρ.left.graph (restL ρ.left.graph.nodes.length ρ.keep.nodes) := fun x hx => gsN_mem hin hlt2 hx
      generalize hDI : gsI t ρ.left.graph i k = DI at hno2 hDk e3
      refine V0 ?_
      refine ⟨_, _, c44 t ht hv ρ.left.graph hgv i k true (by omega) (by omega), ?_⟩
      refine V0 ?_
      refine ⟨_, _, c44 t ht hv ρ.left.graph hgv i k false (by omega) (by omega), ?_⟩
      refine V0 ?_
      have hl1 := lgs_len t ρ.left.graph i k true (ρ.left.graph.nodes.length + t.nodes.length)
      have hl2 := lgs_len t ρ.left.graph i k false (ρ.left.graph.nodes.length + t.nodes.length)
      rw [grs_len, grs_len]
      refine ⟨by show (_ + _) * 48 ≤ _; omega, ?_⟩
      refine V0 ?_
      rw [← grs_app, grs_len, show lgs t ρ.left.graph i k true (ρ.left.graph.nodes.length + t.nodes.length) ++ lgs t ρ.left.graph i k false (ρ.left.graph.nodes.length + t.nodes.length) = gsK t ρ.left.graph i k from rfl]
      generalize gsK t ρ.left.graph i k = Gk at e3 hKk hm
      refine loop (fun m : Nat => mkSt [(66, .int .i64 m), (65, .int .i64 Gk.length), (64, .ref 20), (51, .int .i64 k), (50, .int .i64 t.edges.length), (11, .int .i64 i), (40, .int .i64 i), (39, .int .i64 ρ.left.graph.nodes.length), (38, .slice 1 (nums ρ.left.graph.nodes)), (2, .bptr 0 0), (3, .bptr 1 0), (4, .bptr 2 0), (7, .bptr 10 0), (8, .bptr 11 0), (10, .bptr 12 0)] [.box 25 t.cs, .box 41 ρ.cs, .box 39 [.int .i64 0, .ref 3, .ref 4, .ref 5, .ref 6, .ref 7, .ref 8, .int .i64 0, .ref 9], .row 39 9 [], .row 3 1 [], .row 3 1 [], .row 3 1 [], .row 133 3 [], .row 117 4 [], .row 119 5 [], .box 29 ρ.left.graph.cs, .box 36 (idn ρ.left.graph).cs, .box 39 [.int .i64 3, .ref 19, .ref 13, .ref 14, .ref 15, .ref 16, .ref 17, .int .i64 0, .ref 18], .row 3 1 [], .row 3 1 [], .row 3 1 [], .row 133 3 [], .row 117 4 [], .row 119 5 [], .row 39 9 (kds ρ.left.graph (D ++ DI ++ Gk.take m)), .row 29 2 (grs Gk)])
          (fun m => m ≤ Gk.length ∧ ∀ x ∈ D ++ DI ++ Gk.take m, gval x = 0) (fun m => Gk.length - m) 0 ⟨Nat.zero_le _, by intro x hx; exact hno2 x (by simpa using hx)⟩
        (le_of [0, 1, 2, 3, 4, 5, 6, 7, 8, 9, 10, 11, 12, 13, 14, 15, 16, 17, 18, 19, 24] rfl rfl rfl ⟨rfl, rfl, rfl, rfl, rfl, rfl, rfl, rfl, rfl, rfl, rfl, rfl, rfl, rfl, rfl, trivial⟩ ⟨rfl, rfl, rfl, rfl, rfl, rfl, rfl, rfl, rfl, rfl, rfl, rfl, rfl, rfl, rfl, rfl, rfl, rfl, rfl, by rw [List.take_zero, List.append_nil]; rfl, rfl, trivial⟩) ?_
      rintro m ⟨hmm, hno3⟩
      refine V0 ?_
      refine ⟨fun hlt3 => ?_, fun hge3 => ?_⟩
      · have hlt3 := of_lt hlt3
        have hx : Gk[m]? = some Gk[m] := List.getElem?_eq_getElem hlt3
        generalize Gk[m] = x at hx
        have hxm := hm x (List.mem_of_getElem? hx)
        refine V0 ?_
        refine ⟨⟨by omega, by rw [grs_len]; omega⟩, ?_⟩
        refine V0 ?_
        refine ⟨rfl, _, grs_at (i := ((m : Int)).toNat) hx, ?_⟩
        refine V0 ?_
        refine ⟨_, _, c45 x, ?_⟩
        refine V0 ?_
        refine ⟨fun hx0 => ?_, fun hx0 => ?_⟩
        · have e4 : (gsN t ρ.left.graph (restL ρ.left.graph.nodes.length ρ.keep.nodes)).any (fun x => gval x != 0) = true := List.any_eq_true.2 ⟨x, hxm, hx0⟩
          refine V0 ?_
          refine fin_frz TT ?_ rfl
          rw [apl, if_neg (by simp [hy]), if_pos e4]; rfl
        have hx0 : gval x = 0 := by simpa using hx0
        have e5 : D ++ DI ++ Gk.take (m + 1) = (D ++ DI ++ Gk.take m) ++ [x] := by rw [List.take_add_one, hx, ← List.append_assoc]; rfl
        have hlen : (D ++ DI ++ Gk.take m).length ≤ 100000 := by simp only [List.length_append, List.length_take]; omega
        have hno4 : ∀ y ∈ D ++ DI ++ Gk.take (m + 1), gval y = 0 := by
          rw [e5]; intro y hy
          rcases List.mem_append.1 hy with h | h
          · exact hno3 y h
          · rw [List.mem_singleton.1 h]; exact hx0
        generalize D ++ DI ++ Gk.take m = DD at e5 hlen
        refine V0 ?_
        refine ⟨_, _, c46 (idn ρ.left.graph).nodes (by rw [idn, rng_len]; omega), ?_⟩
        refine V0 ?_
        refine ⟨_, _, c46 (idn ρ.left.graph).edges (by rw [idn, rng_len]; omega), ?_⟩
        refine V0 ?_
        refine ⟨_, _, c47, ?_⟩
        refine V0 ?_
        rw [kds_len]
        refine ⟨by show (DD.length + 1) * 184 ≤ _; omega, ?_⟩
        refine V0 ?_
        exact ⟨m + 1, ⟨hlt3, hno4⟩, by show Gk.length - (m + 1) < Gk.length - m; omega, le_of [0, 1, 2, 3, 4, 5, 6, 7, 8, 9, 10, 11, 12, 13, 14, 15, 16, 17, 18, 43, 20] rfl rfl rfl ⟨step_num hlt3 (by omega), rfl, rfl, rfl, rfl, rfl, rfl, rfl, rfl, rfl, rfl, rfl, rfl, rfl, rfl, trivial⟩ ⟨rfl, rfl, rfl, rfl, rfl, rfl, rfl, rfl, rfl, rfl, rfl, rfl, rfl, rfl, rfl, rfl, rfl, rfl, rfl, by rw [e5, kds_app]; rfl, rfl, trivial⟩⟩
      · have hge3 := of_ge hge3
        rw [take_of_all hge3, List.append_assoc, ← e3] at hno3
        refine V0 ?_
        exact ⟨k + 1, ⟨hlt2, hno3⟩, by show t.edges.length - (k + 1) < t.edges.length - k; omega, le_of [0, 1, 2, 3, 4, 5, 6, 7, 8, 9, 10, 11, 12, 13, 14, 15, 16, 17, 18, 19] rfl rfl rfl ⟨step_num hlt2 (by omega), rfl, rfl, rfl, rfl, rfl, rfl, rfl, rfl, rfl, rfl, rfl, trivial⟩ ⟨rfl, rfl, rfl, rfl, rfl, rfl, rfl, rfl, rfl, rfl, rfl, rfl, rfl, rfl, rfl, rfl, rfl, rfl, rfl, by rw [take_of_all hge3, List.append_assoc, ← e3]; rfl, trivial⟩⟩
    · have hge2 := of_ge hge2
      have hk : k = t.edges.length := by omega
      subst hk
      refine V0 ?_
      exact ⟨i + 1, ⟨hlt, by rw [e2]; exact hno2⟩, by show ρ.left.graph.nodes.length - (i + 1) < ρ.left.graph.nodes.length - i; omega, le_of [0, 1, 2, 3, 4, 5, 6, 7, 8, 9, 10, 11, 12, 13, 14, 15, 16, 17, 18, 19] rfl rfl rfl ⟨step_num hlt (by omega), rfl, rfl, rfl, rfl, rfl, rfl, rfl, rfl, trivial⟩ ⟨rfl, rfl, rfl, rfl, rfl, rfl, rfl, rfl, rfl, rfl, rfl, rfl, rfl, rfl, rfl, rfl, rfl, rfl, rfl, by rw [e2]; rfl, trivial⟩⟩
  have hge := of_ge hge
  have hi : i = ρ.left.graph.nodes.length := by omega
  subst hi
  have e4 : (gsN t ρ.left.graph (restL ρ.left.graph.nodes.length ρ.keep.nodes)).any (fun x => gval x != 0) = false := by
    rw [List.any_eq_false]; intro x hx; simp [hno x hx]
  refine V0 ?_
  rw [kds_len]
  refine ⟨fun h0 => ?_, fun h0 => ?_⟩
  · have h0 : (gsN t ρ.left.graph (restL ρ.left.graph.nodes.length ρ.keep.nodes)).length = 0 := by simpa using h0
    refine V0 ?_
    refine ⟨_, _, c47, ?_⟩
    refine V0 ?_
    refine fin_frz TT ?_ rfl
    rw [apl, if_neg (by simp [hy]), if_neg (by simp [e4]), if_pos h0]; rfl
  have h0 : (gsN t ρ.left.graph (restL ρ.left.graph.nodes.length ρ.keep.nodes)).length ≠ 0 := by intro e; simp [e] at h0
  have hcv := cAnd_val hgv h0 (fun x hx => ⟨hno x hx, gsN_ahead hx⟩)
  have hA : apl t ρ = if lrg (cAnd ρ.left.graph (gsN t ρ.left.graph (restL ρ.left.graph.nodes.length ρ.keep.nodes))) ≠ 0 then (.zero, lrg (cAnd ρ.left.graph (gsN t ρ.left.graph (restL ρ.left.graph.nodes.length ρ.keep.nodes)))) else (cAnd ρ.left.graph (gsN t ρ.left.graph (restL ρ.left.graph.nodes.length ρ.keep.nodes)), 0) := by
    rw [apl, if_neg (by simp [hy]), if_neg (by simp [e4]), if_neg h0]
  generalize gsN t ρ.left.graph (restL ρ.left.graph.nodes.length ρ.keep.nodes) = G at hcv hA
  have hc := c48 ρ.left.graph (cAnd ρ.left.graph G)
  rw [hcv] at hc
  generalize lrg (cAnd ρ.left.graph G) = z at hc hA
  refine V0 ?_
  refine ⟨_, _, con_frz rfl rfl rfl hc, ?_⟩
  refine V0 ?_
  refine ⟨fun h1 => ?_, fun h1 => ?_⟩
  · have h1 : z ≠ 0 := by simpa using h1
    refine V0 ?_
    refine fin_frz TT ?_ rfl
    rw [hA, if_pos h1]; rfl
  · have h1 : z = 0 := by simpa using h1
    refine V0 ?_
    refine fin_frz TT ?_ rfl
    rw [hA, if_neg (by simp [h1])]; rfl
end Go.Av.Z

/- What can be applied: the reference. -/
set_option maxHeartbeats 4000000
namespace Go.Av.Z
open Go.Proofs

theorem cAnd_shps {g : Graph} {G : List Graph} (hn : G.length ≠ 0) : shps (cAnd g G) = 0 := by
  have e0 : shps cyes = 0 := by rw [shps_eq, if_neg (by decide)]; rfl
  have e1 : ∀ x, shps (.mk 5 [cyes] (idn g) ⟨x, [], 0, []⟩) = 0 := fun x => by
    rw [shps, if_neg (by simp [shp_ex]), shpss, if_neg (by simp [e0]), shpss]
  have e2 : ∀ x, shps (kidG g x) = 0 := fun x => by
    rw [kidG, shps, if_neg (by simp [shp_not]), shpss, if_neg (by simp [e1]), shpss]
  rw [cAnd, shps, if_neg (by rw [shp_and _ (by simpa using hn)]; simp), shpss_errs _ 0]
  refine errs_zero fun j y hy => ?_
  rw [List.getElem?_map] at hy
  cases hj : G[j]? with
  | none => rw [hj] at hy; cases hy
  | some z =>
    rw [hj] at hy
    obtain rfl := Option.some.inj hy
    exact e2 z
theorem cAnd_sz {g : Graph} (hg : gval g = 0) {G : List Graph} (hn : G.length ≠ 0) (h : ∀ x ∈ G, gval x = 0 ∧ ahead g x) : szErr (cAnd g G) = lrg (cAnd g G) := by
  rw [szErr, if_neg (by simp [cAnd_shps hn])]
theorem cAnd_fine {g : Graph} (hg : gval g = 0) {G : List Graph} (h : ∀ x ∈ G, gval x = 0) : fineA (cAnd g G) := by
  have hgl := gval_len hg
  refine (fineA_iff _).2 ⟨⟨Nat.zero_le _, Nat.zero_le _, Nat.zero_le _, Nat.zero_le _, Nat.zero_le _, Nat.zero_le _⟩, fun y hy => ?_⟩
  obtain ⟨x, hx, rfl⟩ := List.mem_map.1 hy
  have hxl := gval_len (h x hx)
  refine (fineA_iff _).2 ⟨⟨Nat.zero_le _, Nat.zero_le _, Nat.zero_le _, Nat.zero_le _, Nat.zero_le _, Nat.zero_le _⟩, fun y hy => ?_⟩
  obtain rfl := List.mem_singleton.1 hy
  refine (fineA_iff _).2 ⟨⟨by show (rng 0 _).length ≤ _; rw [rng_len]; omega, by show (rng 0 _).length ≤ _; rw [rng_len]; omega, by show x.nodes.length ≤ _; omega, by show x.edges.length ≤ _; omega, Nat.zero_le _, Nat.zero_le _⟩, fun y hy => ?_⟩
  obtain rfl := List.mem_singleton.1 hy
  exact (fineA_iff _).2 ⟨⟨Nat.zero_le _, Nat.zero_le _, Nat.zero_le _, Nat.zero_le _, Nat.zero_le _, Nat.zero_le _⟩, fun y hy => by cases hy⟩
def aplG (g : Graph) (G : List Graph) : Cond × Int :=
  if G.any (fun x => gval x != 0) = true then (.zero, 3) else if G.length = 0 then (cyes, 0) else if lrg (cAnd g G) ≠ 0 then (.zero, lrg (cAnd g G)) else (cAnd g G, 0)
theorem apl_ok {t : Types} {ρ : Rule} (h : tydE t ρ = 0) : apl t ρ = aplG ρ.left.graph (gsN t ρ.left.graph (restL ρ.left.graph.nodes.length ρ.keep.nodes)) := by rw [apl, if_neg (by simp [h])]; rfl
theorem c15 (t : Types) (ht : t.ok) (ρ : Rule) (hf : ρ.fine) : Con P 15 [] [t.av, ρ.av] (.tuple [(apl t ρ).1.av, .int .i64 (apl t ρ).2]) [] := by
  refine go Tryz.func15 (by rfl) rfl rfl rfl fun hl => ?_
  refine W0 ?_
  refine ⟨_, _, c49 t ht, ?_⟩
  refine V0 ?_
  refine ⟨fun h => ?_, fun h => ?_⟩
  · have h : tval t ≠ 0 := by simpa using h
    have e : tydE t ρ = tval t := by rw [tydE, if_pos h]
    refine V0 ?_
    refine fin_frz TT ?_ rfl
    rw [apl, if_pos (by rw [e]; exact h), e]; rfl
  have hv : tval t = 0 := by simpa using h
  refine V0 ?_
  refine ⟨_, _, c13 ρ hf, ?_⟩
  refine V0 ?_
  refine ⟨fun h => ?_, fun h => ?_⟩
  · have h : strc ρ ≠ 0 := by simpa using h
    have e : tydE t ρ = strc ρ := by rw [tydE, if_neg (by simp [hv]), if_pos h]
    refine V0 ?_
    refine fin_frz TT ?_ rfl
    rw [apl, if_pos (by rw [e]; exact h), e]; rfl
  have hs : strc ρ = 0 := by simpa using h
  have e : tydE t ρ = if errs (absE t) 0 t.nodes ≠ 0 then errs (absE t) 0 t.nodes else if (!lvsB t ρ.left.graph || !lvsB t ρ.right.graph) = true then 13 else 0 := by rw [tydE, if_neg (by simp [hv]), if_neg (by simp [hs])]
  have hgv2 := strc_gv hs
  have hgv := hgv2.1
  have hgl := gval_len hgv
  have htl := (tval_ok hv).2.2
  have h13 : tydE t ρ = 13 → apl t ρ = (.zero, 13) := fun h => by rw [apl, if_pos (by rw [h]; decide), h]
  refine V0 ?_
  refine loop (fun i : Nat => mkSt [(9, .int .i64 i), (2, .bptr 0 0), (3, .bptr 1 0), (4, .bptr 2 0)] [.box 25 t.cs, .box 41 ρ.cs, .box 39 [.int .i64 0, .ref 3, .ref 4, .ref 5, .ref 6, .ref 7, .ref 8, .int .i64 0, .ref 9], .row 39 9 [], .row 3 1 [], .row 3 1 [], .row 3 1 [], .row 133 3 [], .row 117 4 [], .row 119 5 []])
      (fun i => i ≤ t.nodes.length ∧ ∀ j y, j < i → t.nodes[j]? = some y → absE t j y = 0) (fun i => t.nodes.length - i) 0 ⟨Nat.zero_le _, fun j y h => by omega⟩
    (le_of [0, 1, 2, 3, 4, 5, 6, 7, 8, 9] rfl rfl rfl ⟨rfl, rfl, rfl, rfl, trivial⟩ ⟨rfl, rfl, rfl, rfl, rfl, rfl, rfl, rfl, rfl, rfl, trivial⟩) ?_
  rintro i ⟨hi, hno⟩
  refine V0 ?_
  rw [ndts_len]
  refine ⟨fun hlt => ?_, fun hge => ?_⟩
  · have hlt := of_lt hlt
    have hx : t.nodes[i]? = some t.nodes[i] := List.getElem?_eq_getElem hlt
    generalize t.nodes[i] = n at hx
    have hgo : absE t i n = 0 → _ := fun h0 => zero_upto hno hx h0
    have hbad : absE t i n = 13 → apl t ρ = (.zero, 13) := fun h => h13 (by
      have e1 := errs_first hno hx (by rw [h]; decide)
      rw [e, e1, h]; rfl)
    refine V0 ?_
    refine ⟨_, _, c50 t (by omega) i, ?_⟩
    refine V0 ?_
    refine ⟨fun h2 => ?_, fun h2 => ?_⟩
    · refine V0 ?_
      refine ⟨by omega, _, ndts_at hx, ?_⟩
      refine V0 ?_
      refine ⟨fun h1 => ?_, fun h1 => ?_⟩
      · refine V0 ?_
        refine fin_frz TT ?_ rfl
        rw [hbad (by rw [absE, h1, h2]; rfl)]; rfl
      · refine V0 ?_
        exact ⟨i + 1, ⟨hlt, hgo (by rw [absE, h1]; rfl)⟩, by show t.nodes.length - (i + 1) < t.nodes.length - i; omega, le_of [0, 1, 2, 3, 4, 5, 6, 7, 8, 9] rfl rfl rfl ⟨step_num hlt (by omega), rfl, rfl, rfl, trivial⟩ ⟨rfl, rfl, rfl, rfl, rfl, rfl, rfl, rfl, rfl, rfl, trivial⟩⟩
    · refine V0 ?_
      exact ⟨i + 1, ⟨hlt, hgo (by rw [absE, h2, Bool.and_false]; rfl)⟩, by show t.nodes.length - (i + 1) < t.nodes.length - i; omega, le_of [0, 1, 2, 3, 4, 5, 6, 7, 8, 9] rfl rfl rfl ⟨step_num hlt (by omega), rfl, rfl, rfl, trivial⟩ ⟨rfl, rfl, rfl, rfl, rfl, rfl, rfl, rfl, rfl, rfl, trivial⟩⟩
  have hge := of_ge hge
  have e1 := errs_all hno (by omega)
  rw [if_neg (by simp [e1])] at e
  refine V0 ?_
  refine ⟨_, _, c51 t ht hv ρ.left.graph hgv, ?_⟩
  refine V0 ?_
  refine ⟨fun h1 => ?_, fun h1 => ?_⟩
  · refine V0 ?_
    refine fin_frz TT ?_ rfl
    rw [h13 (by rw [e, h1]; rfl)]; rfl
  refine V0 ?_
  refine ⟨_, _, c51 t ht hv ρ.right.graph hgv2.2, ?_⟩
  refine V0 ?_
  refine ⟨fun h2 => ?_, fun h2 => ?_⟩
  · refine V0 ?_
    refine fin_frz TT ?_ rfl
    rw [h13 (by rw [e, h1, h2]; rfl)]; rfl
  have hy : tydE t ρ = 0 := by rw [e, h1, h2]; rfl
  clear hno hi
  refine V0 ?_
  have hI := strc_ok hs
  have hNl := fun l => gsN_len (t := t) (g := ρ.left.graph) (by omega) (by omega) (by omega) l
  have hIl := fun i n => gsI_len (t := t) (g := ρ.left.graph) (by omega) (by omega) i n
  have hKl := fun i k => gsK_len (t := t) (g := ρ.left.graph) (by omega) (by omega) i k
  have hr := restL_len ρ.left.graph.nodes.length ρ.keep.nodes
  have hmem : ∀ i ∈ restL ρ.left.graph.nodes.length ρ.keep.nodes, 0 ≤ i ∧ i < ρ.left.graph.nodes.length := fun i hi => (restL_mem.1 hi).1
  refine ⟨_, _, c52 ρ (pval_nd hI.kp).1 (by omega) (by have := aval_len (pval_ok hI.kp).2.1; omega), ?_⟩
  have hA0 := apl_ok hy
  unfold aplG at hA0
  generalize restL ρ.left.graph.nodes.length ρ.keep.nodes = l at hr hmem hA0
  refine V0 ?_
  refine loop (fun j : Nat => mkSt [(13, .int .i64 j), (12, .slice 1 (nums l)), (2, .bptr 0 0), (3, .bptr 1 0), (4, .bptr 2 0), (10, .bptr 10 0), (11, .bptr 11 0)] [.box 25 t.cs, .box 41 ρ.cs, .box 39 [.int .i64 0, .ref 3, .ref 4, .ref 5, .ref 6, .ref 7, .ref 8, .int .i64 0, .ref 9], .row 39 9 [], .row 3 1 [], .row 3 1 [], .row 3 1 [], .row 133 3 [], .row 117 4 [], .row 119 5 [], .box 29 ρ.left.graph.cs, .box 39 [.int .i64 3, .ref 18, .ref 12, .ref 13, .ref 14, .ref 15, .ref 16, .int .i64 0, .ref 17], .row 3 1 [], .row 3 1 [], .row 3 1 [], .row 133 3 [], .row 117 4 [], .row 119 5 [], .row 39 9 (kds ρ.left.graph (gsN t ρ.left.graph (l.take j)))])
      (fun j => j ≤ l.length ∧ ∀ x ∈ gsN t ρ.left.graph (l.take j), gval x = 0) (fun j => l.length - j) 0 ⟨Nat.zero_le _, by intro x hx; cases hx⟩
    (le_of [0, 1, 2, 3, 4, 5, 6, 7, 8, 9, 12, 15, 24, 25, 26, 27, 28, 29, 23] rfl rfl rfl ⟨rfl, rfl, rfl, rfl, rfl, rfl, rfl, trivial⟩ ⟨rfl, rfl, rfl, rfl, rfl, rfl, rfl, rfl, rfl, rfl, rfl, rfl, rfl, rfl, rfl, rfl, rfl, rfl, rfl, trivial⟩) ?_
  rintro j ⟨hj, hno⟩
  have hD := hNl (l.take j)
  refine V0 ?_
  rw [nums_len]
  refine ⟨fun hlt => ?_, fun hge => ?_⟩
  · have hlt := of_lt hlt
    have hx := List.getElem?_eq_getElem hlt
    have hin := hmem l[j] (List.getElem_mem hlt)
    have hin2 := List.mem_of_getElem? hx
    generalize l[j] = i at hx hin hin2
    have htk : (l.take j).length ≤ 40 := by rw [List.length_take]; omega
    have e2 : gsN t ρ.left.graph (l.take (j + 1)) = gsN t ρ.left.graph (l.take j) ++ gsI t ρ.left.graph i t.edges.length := by rw [List.take_add_one, hx]; exact gsN_one _ _ _ _
    generalize gsN t ρ.left.graph (l.take j) = D at hno hD e2
    refine V0 ?_
    refine loop (fun k : Nat => mkSt [(14, .int .i64 k), (13, .int .i64 j), (12, .slice 1 (nums l)), (2, .bptr 0 0), (3, .bptr 1 0), (4, .bptr 2 0), (10, .bptr 10 0), (11, .bptr 11 0)] [.box 25 t.cs, .box 41 ρ.cs, .box 39 [.int .i64 0, .ref 3, .ref 4, .ref 5, .ref 6, .ref 7, .ref 8, .int .i64 0, .ref 9], .row 39 9 [], .row 3 1 [], .row 3 1 [], .row 3 1 [], .row 133 3 [], .row 117 4 [], .row 119 5 [], .box 29 ρ.left.graph.cs, .box 39 [.int .i64 3, .ref 18, .ref 12, .ref 13, .ref 14, .ref 15, .ref 16, .int .i64 0, .ref 17], .row 3 1 [], .row 3 1 [], .row 3 1 [], .row 133 3 [], .row 117 4 [], .row 119 5 [], .row 39 9 (kds ρ.left.graph (D ++ gsI t ρ.left.graph i k))])
        (fun k => k ≤ t.edges.length ∧ ∀ x ∈ D ++ gsI t ρ.left.graph i k, gval x = 0) (fun k => t.edges.length - k) 0 ⟨Nat.zero_le _, by intro x hx; exact hno x (by simpa [gsI] using hx)⟩
      (le_of [0, 1, 2, 3, 4, 5, 6, 7, 8, 9, 10, 11, 12, 13, 14, 15, 16, 17, 18] rfl rfl rfl ⟨rfl, rfl, rfl, rfl, rfl, rfl, rfl, rfl, trivial⟩ ⟨rfl, rfl, rfl, rfl, rfl, rfl, rfl, rfl, rfl, rfl, rfl, rfl, rfl, rfl, rfl, rfl, rfl, rfl, by rw [show gsI t ρ.left.graph i 0 = [] from rfl, List.append_nil]; rfl, trivial⟩) ?_
    rintro k ⟨hkk, hno2⟩
    have hDk := hIl i k
    have hk104 : k * 104 ≤ 20 * 104 := Nat.mul_le_mul_right _ (by omega)
    have hr2 : (l.take j).length * 2080 ≤ 40 * 2080 := Nat.mul_le_mul_right _ htk
    refine V0 ?_
    rw [edts_len]
    refine ⟨fun hlt2 => ?_, fun hge2 => ?_⟩
    · have hlt2 := of_lt hlt2
      have e3 := gsI_succ t ρ.left.graph i k
      have hKk := hKl i k
      have hm : ∀ x ∈ gsK t ρ.left.graph i k, x ∈ gsN t ρ.left.graph l := fun x hx => gsN_mem hin2 hlt2 hx
      generalize hDI : gsI t ρ.left.graph i k = DI at hno2 hDk e3
      refine V0 ?_
      refine ⟨by omega, _, nums_at hx, ?_⟩
      refine V0 ?_
      refine ⟨_, _, c53 t ht hv ρ.left.graph hgv i k true (by omega) (by omega), ?_⟩
      refine V0 ?_
      refine ⟨by omega, _, nums_at hx, ?_⟩
      refine V0 ?_
      refine ⟨_, _, c53 t ht hv ρ.left.graph hgv i k false (by omega) (by omega), ?_⟩
      refine V0 ?_
      have hl1 := lgs_len t ρ.left.graph i k true (ρ.left.graph.nodes.length + t.nodes.length)
      have hl2 := lgs_len t ρ.left.graph i k false (ρ.left.graph.nodes.length + t.nodes.length)
      rw [grs_len, grs_len]
      refine ⟨by show (_ + _) * 48 ≤ _; omega, ?_⟩
      refine V0 ?_
      refine loop (fun m : Nat => mkSt [(16, .int .i64 m), (15, .ref 19), (14, .int .i64 k), (13, .int .i64 j), (12, .slice 1 (nums l)), (2, .bptr 0 0), (3, .bptr 1 0), (4, .bptr 2 0), (10, .bptr 10 0), (11, .bptr 11 0)] [.box 25 t.cs, .box 41 ρ.cs, .box 39 [.int .i64 0, .ref 3, .ref 4, .ref 5, .ref 6, .ref 7, .ref 8, .int .i64 0, .ref 9], .row 39 9 [], .row 3 1 [], .row 3 1 [], .row 3 1 [], .row 133 3 [], .row 117 4 [], .row 119 5 [], .box 29 ρ.left.graph.cs, .box 39 [.int .i64 3, .ref 18, .ref 12, .ref 13, .ref 14, .ref 15, .ref 16, .int .i64 0, .ref 17], .row 3 1 [], .row 3 1 [], .row 3 1 [], .row 133 3 [], .row 117 4 [], .row 119 5 [], .row 39 9 (kds ρ.left.graph (D ++ DI ++ (gsK t ρ.left.graph i k).take m)), .row 29 2 (grs (gsK t ρ.left.graph i k))])
          (fun m => m ≤ (gsK t ρ.left.graph i k).length ∧ ∀ x ∈ D ++ DI ++ (gsK t ρ.left.graph i k).take m, gval x = 0) (fun m => (gsK t ρ.left.graph i k).length - m) 0 ⟨Nat.zero_le _, by intro x hx; exact hno2 x (by simpa using hx)⟩
        (le_of [0, 1, 2, 3, 4, 5, 6, 7, 8, 9, 10, 11, 12, 13, 14, 15, 16, 17, 18, 23] rfl rfl rfl ⟨rfl, rfl, rfl, rfl, rfl, rfl, rfl, rfl, rfl, rfl, trivial⟩ ⟨rfl, rfl, rfl, rfl, rfl, rfl, rfl, rfl, rfl, rfl, rfl, rfl, rfl, rfl, rfl, rfl, rfl, rfl, by rw [List.take_zero, List.append_nil]; rfl, by rw [gsK, grs_app]; rfl, trivial⟩) ?_
      generalize gsK t ρ.left.graph i k = Gk at e3 hKk hm
      rintro m ⟨hmm, hno3⟩
      refine V0 ?_
      rw [grs_len]
      refine ⟨fun hlt3 => ?_, fun hge3 => ?_⟩
      · have hlt3 := of_lt hlt3
        have hx : Gk[m]? = some Gk[m] := List.getElem?_eq_getElem hlt3
        generalize Gk[m] = x at hx
        have hxm := hm x (List.mem_of_getElem? hx)
        refine V0 ?_
        refine ⟨⟨by omega, by rw [grs_len]; omega⟩, ?_⟩
        refine V0 ?_
        refine ⟨rfl, _, grs_at (i := ((m : Int)).toNat) hx, ?_⟩
        refine V0 ?_
        refine ⟨_, _, c36 x, ?_⟩
        refine V0 ?_
        refine ⟨fun hx0 => ?_, fun hx0 => ?_⟩
        · have e4 : (gsN t ρ.left.graph l).any (fun x => gval x != 0) = true := List.any_eq_true.2 ⟨x, hxm, hx0⟩
          refine V0 ?_
          refine fin_frz TT ?_ rfl
          rw [hA0, if_pos e4]; rfl
        have hx0 : gval x = 0 := by simpa using hx0
        have e5 : D ++ DI ++ Gk.take (m + 1) = (D ++ DI ++ Gk.take m) ++ [x] := by rw [List.take_add_one, hx, ← List.append_assoc]; rfl
        have hlen : (D ++ DI ++ Gk.take m).length ≤ 100000 := by simp only [List.length_append, List.length_take]; omega
        have hno4 : ∀ y ∈ D ++ DI ++ Gk.take (m + 1), gval y = 0 := by
          rw [e5]; intro y hy
          rcases List.mem_append.1 hy with h | h
          · exact hno3 y h
          · rw [List.mem_singleton.1 h]; exact hx0
        generalize D ++ DI ++ Gk.take m = DD at e5 hlen
        refine V0 ?_
        refine ⟨_, _, c54 ρ.left.graph (by omega) (by omega), ?_⟩
        refine V0 ?_
        refine ⟨⟨by omega, by rw [grs_len]; omega⟩, ?_⟩
        refine V0 ?_
        refine ⟨rfl, _, grs_at (i := ((m : Int)).toNat) hx, ?_⟩
        refine V0 ?_
        refine ⟨_, _, c55, ?_⟩
        refine V0 ?_
        rw [kds_len]
        refine ⟨by show (DD.length + 1) * 184 ≤ _; omega, ?_⟩
        refine V0 ?_
        exact ⟨m + 1, ⟨hlt3, hno4⟩, by show Gk.length - (m + 1) < Gk.length - m; omega, le_of [0, 1, 2, 3, 4, 5, 6, 7, 8, 9, 10, 11, 12, 13, 14, 15, 16, 17, 36, 19] rfl rfl rfl ⟨step_num hlt3 (by omega), rfl, rfl, rfl, rfl, rfl, rfl, rfl, rfl, rfl, trivial⟩ ⟨rfl, rfl, rfl, rfl, rfl, rfl, rfl, rfl, rfl, rfl, rfl, rfl, rfl, rfl, rfl, rfl, rfl, rfl, by rw [e5, kds_app]; rfl, rfl, trivial⟩⟩
      · have hge3 := of_ge hge3
        rw [take_of_all hge3, List.append_assoc, ← e3] at hno3
        refine V0 ?_
        exact ⟨k + 1, ⟨hlt2, hno3⟩, by show t.edges.length - (k + 1) < t.edges.length - k; omega, le_of [0, 1, 2, 3, 4, 5, 6, 7, 8, 9, 10, 11, 12, 13, 14, 15, 16, 17, 18] rfl rfl rfl ⟨step_num hlt2 (by omega), rfl, rfl, rfl, rfl, rfl, rfl, rfl, trivial⟩ ⟨rfl, rfl, rfl, rfl, rfl, rfl, rfl, rfl, rfl, rfl, rfl, rfl, rfl, rfl, rfl, rfl, rfl, rfl, by rw [take_of_all hge3, List.append_assoc, ← e3]; rfl, trivial⟩⟩
    · have hge2 := of_ge hge2
      have hk : k = t.edges.length := by omega
      subst hk
      refine V0 ?_
      exact ⟨j + 1, ⟨hlt, by rw [e2]; exact hno2⟩, by show l.length - (j + 1) < l.length - j; omega, le_of [0, 1, 2, 3, 4, 5, 6, 7, 8, 9, 10, 11, 12, 13, 14, 15, 16, 17, 18] rfl rfl rfl ⟨step_num hlt (by omega), rfl, rfl, rfl, rfl, rfl, rfl, trivial⟩ ⟨rfl, rfl, rfl, rfl, rfl, rfl, rfl, rfl, rfl, rfl, rfl, rfl, rfl, rfl, rfl, rfl, rfl, rfl, by rw [e2]; rfl, trivial⟩⟩
  have hge := of_ge hge
  rw [take_of_all hge] at hno ⊢
  have e4 : (gsN t ρ.left.graph l).any (fun x => gval x != 0) = false := by
    rw [List.any_eq_false]; intro x hx; simp [hno x hx]
  rw [if_neg (by simp [e4])] at hA0
  have hah := fun x (hx : x ∈ gsN t ρ.left.graph l) => gsN_ahead hx
  generalize gsN t ρ.left.graph l = G at hno hA0 hah
  refine V0 ?_
  rw [kds_len]
  refine ⟨fun h0 => ?_, fun h0 => ?_⟩
  · have h0 : G.length = 0 := by simpa using h0
    refine V0 ?_
    refine ⟨_, _, c55, ?_⟩
    refine V0 ?_
    refine fin_frz TT ?_ rfl
    rw [hA0, if_pos h0]; rfl
  have h0 : G.length ≠ 0 := by intro e; simp [e] at h0
  have hA1 : apl t ρ = (smallC (cAnd ρ.left.graph G), szErr (cAnd ρ.left.graph G)) := by
    have es := cAnd_sz hgv h0 (fun x hx => ⟨hno x hx, hah x hx⟩)
    rw [hA0, if_neg h0, smallC, es]
    by_cases hz : lrg (cAnd ρ.left.graph G) = 0 <;> simp [hz]
  have hc := c56 (cAnd ρ.left.graph G) (cAnd_fine hgv (fun x hx => hno x hx))
  refine V0 ?_
  refine ⟨_, _, con_frz rfl rfl rfl hc, ?_⟩
  generalize smallC (cAnd ρ.left.graph G) = c9 at hA1
  generalize szErr (cAnd ρ.left.graph G) = z9 at hA1
  refine V0 ?_
  refine fin_frz TT ?_ rfl
  rw [hA1]; rfl
end Go.Av.Z

/- The law of Applicable. -/
set_option maxHeartbeats 4000000
namespace Go.Av.Z
open Go.Proofs

theorem noSl_cAnd (g : Graph) (G : List Graph) : noSl (cAnd g G) := by
  refine (noSl_iff _).2 ⟨⟨rfl, rfl⟩, fun y hy => ?_⟩
  obtain ⟨x, hx, rfl⟩ := List.mem_map.1 hy
  refine (noSl_iff _).2 ⟨⟨rfl, rfl⟩, fun y hy => ?_⟩
  obtain rfl := List.mem_singleton.1 hy
  refine (noSl_iff _).2 ⟨⟨rfl, rfl⟩, fun y hy => ?_⟩
  obtain rfl := List.mem_singleton.1 hy
  exact noSl_cyes
theorem noSl_apl (t : Types) (ρ : Rule) : noSl (apl t ρ).1 := by
  unfold apl
  split
  · exact noSl_zero
  split
  · exact noSl_zero
  split
  · exact noSl_cyes
  split
  · exact noSl_zero
  · exact noSl_cAnd _ _
theorem tLawApplicable (hw : Con P 10 [] [] (.bool true) []) (t : Types) (ρ : Rule) (ht : t.ok) (hf : ρ.fine) : Con P 3 [] [t.av, ρ.av] (.bool true) [] := by
  refine go Tryz.func3 (by rfl) rfl rfl rfl fun hl => ?_
  refine W0 ?_
  refine ⟨_, _, hw, ?_⟩
  refine V0 ?_
  refine ⟨_, _, c11 t ht, ?_⟩
  refine V0 ?_
  refine ⟨fun h0 => ?_, fun h0 => ?_⟩
  · refine V0 ?_
    refine ⟨_, _, hw, ?_⟩
    refine V0 ?_
    refine fin_frz TT ?_ rfl
    rfl
  refine V0 ?_
  refine ⟨_, _, c12 ρ, ?_⟩
  refine V0 ?_
  refine ⟨fun h1 => ?_, fun h1 => ?_⟩
  · refine V0 ?_
    refine ⟨_, _, hw, ?_⟩
    refine V0 ?_
    refine fin_frz TT ?_ rfl
    rfl
  refine V0 ?_
  refine ⟨fun h2 => ?_, fun h2 => ?_⟩
  · refine V0 ?_
    refine ⟨_, _, c13 ρ hf, ?_⟩
    refine V0 ?_
    refine ⟨fun h3 => ?_, fun h3 => ?_⟩
    · refine V0 ?_
      refine ⟨_, _, hw, ?_⟩
      refine V0 ?_
      refine fin_frz TT ?_ rfl
      rfl
    refine V0 ?_
    refine ⟨_, _, c14 t ht ρ hf, ?_⟩
    refine V0 ?_
    refine ⟨_, _, c15 t ht ρ hf, ?_⟩
    refine V0 ?_
    refine ⟨fun _ => ?_, fun h => absurd h (by simp)⟩
    refine V0 ?_
    refine ⟨_, _, c16 (apl t ρ).1 (noSl_apl t ρ), ?_⟩
    refine V0 ?_
    refine fin_frz TT ?_ rfl
    rfl
  refine V0 ?_
  refine ⟨_, _, c14 t ht ρ hf, ?_⟩
  refine V0 ?_
  refine ⟨_, _, c15 t ht ρ hf, ?_⟩
  refine V0 ?_
  refine ⟨fun _ => ?_, fun h => absurd h (by simp)⟩
  refine V0 ?_
  refine ⟨_, _, c16 (apl t ρ).1 (noSl_apl t ρ), ?_⟩
  refine V0 ?_
  refine fin_frz TT ?_ rfl
  rfl
end Go.Av.Z

/- The arguments, as they are read: values that nobody writes. -/
namespace Go.Av.Z
open Go.Proofs

/-- All that lies in memory. -/
def allF (W : World) : Nat → Prop := fun g => g < W.heap.size
/-- Cells told. -/
def CV (W : World) (xs : List AV) (cs : List Value) : Prop := xs.length = cs.length ∧ ∀ (j : Nat) y, xs[j]? = some y → Val W (allF W) noSig y (cs.getD j undef)
theorem CV.one {W : World} {y : AV} {v : Value} (h : Val W (allF W) noSig y v) : CV W [y] [v] := ⟨rfl, fun j z hz => by
  cases j with
  | zero => simp at hz; subst hz; exact h
  | succ j => simp at hz⟩
theorem CV.app {W : World} {xs ys : List AV} {cs : List Value} {o s : Nat} (h1 : CV W xs ((cs.drop o).take s)) (h2 : CV W ys (cs.drop (o + s))) (hl : o + s ≤ cs.length) : CV W (xs ++ ys) (cs.drop o) := by
  obtain ⟨l1, v1⟩ := h1
  obtain ⟨l2, v2⟩ := h2
  simp only [List.length_take, List.length_drop] at l1 l2
  refine ⟨by simp only [List.length_append, List.length_drop]; omega, fun j y hy => ?_⟩
  rw [List.getElem?_append] at hy
  split at hy
  · rename_i hj
    have := v1 j y hy
    rw [List.getD_eq_getElem?_getD, List.getElem?_take, if_pos (by omega)] at this
    rw [List.getD_eq_getElem?_getD]; exact this
  · rename_i hj
    have := v2 (j - xs.length) y hy
    rw [List.getD_eq_getElem?_getD, List.getElem?_drop] at this ⊢
    rw [show o + s + (j - xs.length) = o + j by omega] at this
    exact this
theorem CV.nil {W : World} {cs : List Value} {o : Nat} (h : cs.length ≤ o) : CV W [] (cs.drop o) := ⟨by simp; omega, fun j y hy => by simp at hy⟩

section
variable {H : Type} {enc : TypeId × Value → H} {W : World} {sp : Nat → Bool} {held : Bool}
/-- What is read at type t, with n rounds, is told by cells that R speaks of. -/
def Dec (enc : TypeId × Value → H) (W : World) (sp : Nat → Bool) (held : Bool) (n : Nat) (t : TypeId) (R : List AV → Prop) : Prop :=
  ∀ (cs : List Value) (d : DataW H) (ps : List MemPlace), DataW.trod enc P W 0 sp held n t cs = some (d, ps) → YtaabmnpedhggoaaGreat.Rows.uptoBulk d ≤ 1048576 → ∃ xs, CV W xs cs ∧ R xs
theorem bulk_part {d : DataW H} {l : List (DataW H)} (h : d ∈ l) : YtaabmnpedhggoaaGreat.Rows.uptoBulk d ≤ YtaabmnpedhggoaaGreat.Rows.uptoBulkAll l := by
  induction l with
  | nil => cases h
  | cons x r ih =>
    simp only [YtaabmnpedhggoaaGreat.Rows.uptoBulkAll]
    cases List.mem_cons.1 h with
    | inl e => subst e; omega
    | inr e => have := ih e; omega
theorem bulk_one (d : DataW H) : 1 ≤ YtaabmnpedhggoaaGreat.Rows.uptoBulk d := by
  cases d with
  | lit l => cases l <;> simp [YtaabmnpedhggoaaGreat.Rows.uptoBulk]
  | _ => simp [YtaabmnpedhggoaaGreat.Rows.uptoBulk]
theorem bulk_len (l : List (DataW H)) : l.length ≤ YtaabmnpedhggoaaGreat.Rows.uptoBulkAll l := by
  induction l with
  | nil => simp [YtaabmnpedhggoaaGreat.Rows.uptoBulkAll]
  | cons x r ih => have := bulk_one x; simp only [YtaabmnpedhggoaaGreat.Rows.uptoBulkAll, List.length_cons]; omega
theorem dec_int (n : Nat) : Dec enc W sp held n 3 fun xs => ∃ m, xs = [.int .i64 m] := by
  intro cs d ps h _
  obtain ⟨m, rfl, _⟩ := DataW.trod_int Tryz.underlying3 h
  exact ⟨_, CV.one (.int _ m), m, rfl⟩
theorem dec_bool (n : Nat) : Dec enc W sp held n 4 fun xs => ∃ b, xs = [.bool b] := by
  intro cs d ps h _
  obtain ⟨b, rfl, _⟩ := DataW.trod_bool Tryz.underlying4 h
  exact ⟨_, CV.one (.bool b), b, rfl⟩
theorem dec_str (n : Nat) : Dec enc W sp held n 9 fun xs => ∃ s, xs = [.str s] := by
  intro cs d ps h _
  obtain ⟨s, rfl, _⟩ := DataW.trod_string Tryz.underlying9 h
  exact ⟨_, CV.one (.str s), s, rfl⟩
theorem exists_list {α : Type} {R : Nat → α → Prop} : ∀ n : Nat, (∀ i, i < n → ∃ x, R i x) → ∃ l : List α, l.length = n ∧ ∀ i x, l[i]? = some x → R i x
  | 0, _ => ⟨[], rfl, fun i x h => by simp at h⟩
  | n + 1, h => by
    obtain ⟨l, h1, h2⟩ := exists_list n fun i hi => h i (by omega)
    obtain ⟨x, hx⟩ := h n (by omega)
    refine ⟨l ++ [x], by simp [h1], fun i y hy => ?_⟩
    rw [List.getElem?_append] at hy
    split at hy
    · exact h2 i y hy
    · have : i = n := by
        have := (List.getElem?_eq_some_iff.1 hy).1
        simp at this; omega
      subst this
      rw [h1, Nat.sub_self] at hy
      simp at hy; subst hy; exact hx
/-- A slice. -/
theorem dec_slice {α : Type} {el : α → List AV} {G : α → Prop} {n : Nat} {t e : TypeId} {sz : Nat} (ht : P.underlying t = some (.slice e)) (hsz : P.cellsOf e = sz) (hel : ∀ x, El sz (el x))
    (hd : ∀ m, m < n → Dec enc W sp held m e fun xs => ∃ x, xs = el x ∧ G x) : Dec enc W sp held n t fun xs => ∃ l : List α, xs = [.slice sz (l.map el)] ∧ l.length ≤ 1048576 ∧ ∀ x ∈ l, G x := by
  intro cs d ps h hb
  rcases DataW.trod_slice ht h with ⟨rfl, hx⟩ | ⟨a, len, cap, elems, rest, m, hm, rfl, hx, _, hlc, hcm, hlen, hE, _, _⟩
  · exact ⟨[.slice sz []], CV.one (.slice sz [] none 0 (fun _ _ => undef) (Nat.le_refl _) (Nat.zero_le _) (by simp) (fun h => absurd rfl h) (by simp)), [], rfl, by simp, by simp⟩
  · simp only [Prod.mk.injEq] at hx
    obtain ⟨rfl, _⟩ := hx
    have hbl : elems.length ≤ 1048576 := by
      have h1 := bulk_len (elems.map (·.1))
      simp only [YtaabmnpedhggoaaGreat.Rows.uptoBulk, List.length_map] at hb h1
      omega
    have hbe : ∀ x ∈ elems, YtaabmnpedhggoaaGreat.Rows.uptoBulk x.1 ≤ 1048576 := fun x hx => by
      have h1 := bulk_part (List.mem_map_of_mem (f := (·.1)) hx)
      simp only [YtaabmnpedhggoaaGreat.Rows.uptoBulk] at hb
      omega
    obtain ⟨l, hl, hlx⟩ := exists_list (R := fun i (x : α × List Value) => (W.cells? 0 (a.add (i * sz)) sz = some x.2 ∧ CV W (el x.1) x.2) ∧ G x.1) len fun i hi => by
      have h1 := hE i hi
      rw [hsz] at h1
      have h2 : elems[i]? = some elems[i] := List.getElem?_eq_getElem (by omega)
      rw [h2] at h1
      obtain ⟨c, hc1, hc2⟩ := Option.bind_eq_some_iff.1 h1
      obtain ⟨xs, k1, x, rfl, k3⟩ := hd m (by omega) c elems[i].1 elems[i].2 hc2 (hbe _ (List.getElem_mem _))
      exact ⟨(x, c), ⟨hc1, k1⟩, k3⟩
    have hat : ∀ (j q : Nat) (y : AV), (((l.map (·.1)).map el).getD j [])[q]? = some y → ∃ x c, l[j]? = some (x, c) ∧ (el x)[q]? = some y := by
      intro j q y hy
      rw [List.getD_eq_getElem?_getD, List.getElem?_map, List.getElem?_map] at hy
      cases hj : l[j]? with
      | none => rw [hj] at hy; simp at hy
      | some x => rw [hj] at hy; exact ⟨x.1, x.2, rfl, by simpa using hy⟩
    have hcell : ∀ (j q : Nat) x c, l[j]? = some (x, c) → q < sz → W.cell? (a.add (j * sz + q)) = some (c.getD q undef) := by
      intro j q x c hj hq
      obtain ⟨⟨k1, k2⟩, _⟩ := hlx j _ hj
      have k1 : W.cells? 0 (a.add (j * sz)) sz = some c := k1
      unfold World.cells? at k1
      rw [if_pos (Nat.zero_le _)] at k1
      have h3 := mapM_some_get k1 q q (by simp [hq])
      have h4 : c.length = sz := by simpa using mapM_some_length k1
      rw [Addr.add_add] at h3
      rw [h3, List.getD_eq_getElem?_getD, List.getElem?_eq_getElem (by omega)]; rfl
    have hll : (l.map (·.1)).length = len := by rw [List.length_map, hl]
    refine ⟨[.slice sz ((l.map (·.1)).map el)], CV.one ?_, l.map (·.1), rfl, by omega, fun x hx => ?_⟩
    · have := Val.slice (w := W) (F := allF W) (σ := noSig) sz ((l.map (·.1)).map el) (some a) cap (fun j q => ((l[j]?.map (·.2)).getD []).getD q undef) (by rw [List.length_map]; omega) (by rw [List.length_map]; omega)
        (fun z hz => by obtain ⟨x, _, rfl⟩ := List.mem_map.1 hz; exact hel x)
        (fun hne => ⟨a, rfl, fun j q y hy => by
          obtain ⟨x, c, k1, k2⟩ := hat j q y hy
          have hq : q < sz := by have := (List.getElem?_eq_some_iff.1 k2).1; have := (hel x).1; omega
          have hc := hcell j q x c k1 hq
          refine ⟨?_, by rw [k1]; exact hc⟩
          unfold World.cell? at hc
          show a.block < W.heap.size
          have hblk : (a.add (j * sz + q)).block = a.block := by unfold Addr.add; split <;> rfl
          rw [hblk] at hc
          rcases Nat.lt_or_ge a.block W.heap.size with h | h
          · exact h
          · rw [Array.getElem?_eq_none h] at hc; simp at hc⟩)
        (fun j q y hy => by
          obtain ⟨x, c, k1, k2⟩ := hat j q y hy
          rw [k1]
          exact (hlx j _ k1).1.2.2 q y k2)
      rw [List.length_map, hll] at this
      exact this
    · obtain ⟨y, hy, rfl⟩ := List.mem_map.1 hx
      obtain ⟨j, hj⟩ := List.mem_iff_getElem?.1 hy
      exact (hlx j y hj).2
end
end Go.Av.Z

/- The arguments, as they are read: the program's structs. -/
namespace Go.Av.Z
open Go.Proofs

section
variable {H : Type} {enc : TypeId × Value → H} {W : World} {sp : Nat → Bool} {held : Bool}
/-- What is read at a struct, by its fields. -/
structure Flds (enc : TypeId × Value → H) (W : World) (sp : Nat → Bool) (held : Bool) (fs : Array Field) (m : Nat) (cs : List Value) : Prop where
  f : ∀ (i t o : Nat) (R : List AV → Prop), (∃ f, fs[i]? = some f ∧ f.type = t ∧ f.offset = o) → Dec enc W sp held m t R → ∃ xs, CV W xs ((cs.drop o).take (P.cellsOf t)) ∧ R xs
theorem flds {t : TypeId} {fs : Array Field} {n : Nat} {cs : List Value} {d : DataW H} {ps : List MemPlace} (ht : P.underlying t = some (.struct fs)) (h : DataW.trod enc P W 0 sp held n t cs = some (d, ps)) (hb : YtaabmnpedhggoaaGreat.Rows.uptoBulk d ≤ 1048576) :
    ∃ m, m < n ∧ cs.length = P.cellsOf t ∧ Flds enc W sp held fs m cs := by
  obtain ⟨ys, m, hn, hx, hl, hlen, hf⟩ := DataW.trod_struct ht h
  simp only [Prod.mk.injEq] at hx
  obtain ⟨rfl, _⟩ := hx
  refine ⟨m, by omega, hl, ⟨fun i t o R ⟨f, hi, ht, ho⟩ hd => ?_⟩⟩
  subst ht ho
  have h1 := hf i f hi
  have hi' : i < ys.length := by
    rw [hlen]
    exact (Array.getElem?_eq_some_iff.1 hi).1
  rw [List.getElem?_eq_getElem hi'] at h1
  refine hd _ ys[i].1 ys[i].2 h1 ?_
  have h2 := bulk_part (List.mem_map_of_mem (f := (·.1)) (List.getElem_mem hi'))
  simp only [YtaabmnpedhggoaaGreat.Rows.uptoBulk] at hb
  omega
theorem z3 : P.cellsOf 3 = 1 := by kernel_rfl
theorem z4 : P.cellsOf 4 = 1 := by kernel_rfl
theorem z9 : P.cellsOf 9 = 1 := by kernel_rfl
theorem z26 : P.cellsOf 26 = 1 := by kernel_rfl
theorem z27 : P.cellsOf 27 = 1 := by kernel_rfl
theorem z29 : P.cellsOf 29 = 2 := by kernel_rfl
theorem z30 : P.cellsOf 30 = 1 := by kernel_rfl
theorem z31 : P.cellsOf 31 = 1 := by kernel_rfl
theorem z33 : P.cellsOf 33 = 5 := by kernel_rfl
theorem z35 : P.cellsOf 35 = 2 := by kernel_rfl
theorem z36 : P.cellsOf 36 = 2 := by kernel_rfl
theorem z37 : P.cellsOf 37 = 1 := by kernel_rfl
theorem z39 : P.cellsOf 39 = 9 := by kernel_rfl
theorem z41 : P.cellsOf 41 = 25 := by kernel_rfl
theorem z115 : P.cellsOf 115 = 2 := by kernel_rfl
theorem z117 : P.cellsOf 117 = 4 := by kernel_rfl
theorem z119 : P.cellsOf 119 = 5 := by kernel_rfl
theorem z133 : P.cellsOf 133 = 3 := by kernel_rfl

theorem dec_term (n : Nat) : Dec enc W sp held n 115 fun xs => ∃ t : Term, xs = [.int .i64 t.var, .int .i64 t.add] := by
  intro cs d ps h hb
  obtain ⟨m, _, hl, hF⟩ := flds Tryz.underlying115 h hb
  obtain ⟨x0, v0, a, rfl⟩ := hF.f 0 3 0 _ ⟨_, rfl, rfl, rfl⟩ (dec_int m)
  obtain ⟨x1, v1, b, rfl⟩ := hF.f 1 3 1 _ ⟨_, rfl, rfl, rfl⟩ (dec_int m)
  rw [z115] at hl
  rw [z3] at v0 v1
  exact ⟨_, CV.app v0 (CV.app v1 (CV.nil (by omega)) (by omega)) (by omega), ⟨a, b⟩, rfl⟩
theorem dec_edge (n : Nat) : Dec enc W sp held n 133 fun xs => ∃ e : Edge, xs = e.el ∧ True := by
  intro cs d ps h hb
  obtain ⟨m, _, hl, hF⟩ := flds Tryz.underlying133 h hb
  obtain ⟨x0, v0, a, rfl⟩ := hF.f 0 3 0 _ ⟨_, rfl, rfl, rfl⟩ (dec_int m)
  obtain ⟨x1, v1, b, rfl⟩ := hF.f 1 3 1 _ ⟨_, rfl, rfl, rfl⟩ (dec_int m)
  obtain ⟨x2, v2, c, rfl⟩ := hF.f 2 3 2 _ ⟨_, rfl, rfl, rfl⟩ (dec_int m)
  rw [z133] at hl
  rw [z3] at v0 v1 v2
  exact ⟨_, CV.app v0 (CV.app v1 (CV.app v2 (CV.nil (by omega)) (by omega)) (by omega)) (by omega), ⟨a, b, c⟩, rfl, trivial⟩
theorem dec_slot (n : Nat) : Dec enc W sp held n 117 fun xs => ∃ s : Slot, xs = s.el ∧ True := by
  intro cs d ps h hb
  obtain ⟨m, _, hl, hF⟩ := flds Tryz.underlying117 h hb
  obtain ⟨x0, v0, a, rfl⟩ := hF.f 0 3 0 _ ⟨_, rfl, rfl, rfl⟩ (dec_int m)
  obtain ⟨x1, v1, b, rfl⟩ := hF.f 1 3 1 _ ⟨_, rfl, rfl, rfl⟩ (dec_int m)
  obtain ⟨x2, v2, t, rfl⟩ := hF.f 2 115 2 _ ⟨_, rfl, rfl, rfl⟩ (dec_term m)
  rw [z117] at hl
  rw [z3] at v0 v1
  rw [z115] at v2
  exact ⟨_, CV.app v0 (CV.app v1 (CV.app v2 (CV.nil (by omega)) (by omega)) (by omega)) (by omega), ⟨a, b, t⟩, rfl, trivial⟩
theorem dec_tst (n : Nat) : Dec enc W sp held n 119 fun xs => ∃ s : Tst, xs = s.el ∧ True := by
  intro cs d ps h hb
  obtain ⟨m, _, hl, hF⟩ := flds Tryz.underlying119 h hb
  obtain ⟨x0, v0, a, rfl⟩ := hF.f 0 3 0 _ ⟨_, rfl, rfl, rfl⟩ (dec_int m)
  obtain ⟨x1, v1, t, rfl⟩ := hF.f 1 115 1 _ ⟨_, rfl, rfl, rfl⟩ (dec_term m)
  obtain ⟨x2, v2, u, rfl⟩ := hF.f 2 115 3 _ ⟨_, rfl, rfl, rfl⟩ (dec_term m)
  rw [z119] at hl
  rw [z3] at v0
  rw [z115] at v1 v2
  exact ⟨_, CV.app v0 (CV.app v1 (CV.app v2 (CV.nil (by omega)) (by omega)) (by omega)) (by omega), ⟨a, t, u⟩, rfl, trivial⟩
theorem dec_nums (n : Nat) : Dec enc W sp held n 26 fun xs => ∃ l : List Int, xs = [.slice 1 (nums l)] ∧ l.length ≤ 1048576 := by
  intro cs d ps h hb
  obtain ⟨xs, h1, l, h2, h3, _⟩ := dec_slice (el := fun m : Int => [AV.int .i64 m]) (G := fun _ => True) (n := n) Tryz.underlying26 z3 (fun x => ⟨rfl, by simp [AV.cell]⟩) (fun m _ cs d ps h hb => by obtain ⟨xs, h1, m, h2⟩ := dec_int m cs d ps h hb; exact ⟨xs, h1, m, h2, trivial⟩) cs d ps h hb
  exact ⟨xs, h1, l, h2, h3⟩
theorem dec_edgs (n : Nat) : Dec enc W sp held n 27 fun xs => ∃ l : List Edge, xs = [.slice 3 (edgs l)] ∧ l.length ≤ 1048576 := by
  intro cs d ps h hb
  obtain ⟨xs, h1, l, h2, h3, _⟩ := dec_slice (el := Edge.el) (G := fun _ => True) (n := n) Tryz.underlying27 z133 (fun x => ⟨rfl, by simp [AV.cell, Edge.el]⟩) (fun m _ => dec_edge m) cs d ps h hb
  exact ⟨xs, h1, l, h2, h3⟩
theorem dec_slts (n : Nat) : Dec enc W sp held n 30 fun xs => ∃ l : List Slot, xs = [.slice 4 (slts l)] ∧ l.length ≤ 1048576 := by
  intro cs d ps h hb
  obtain ⟨xs, h1, l, h2, h3, _⟩ := dec_slice (el := Slot.el) (G := fun _ => True) (n := n) Tryz.underlying30 z117 (fun x => ⟨rfl, by simp [AV.cell, Slot.el]⟩) (fun m _ => dec_slot m) cs d ps h hb
  exact ⟨xs, h1, l, h2, h3⟩
theorem dec_tsts (n : Nat) : Dec enc W sp held n 31 fun xs => ∃ l : List Tst, xs = [.slice 5 (tsts l)] ∧ l.length ≤ 1048576 := by
  intro cs d ps h hb
  obtain ⟨xs, h1, l, h2, h3, _⟩ := dec_slice (el := Tst.el) (G := fun _ => True) (n := n) Tryz.underlying31 z119 (fun x => ⟨rfl, by simp [AV.cell, Tst.el]⟩) (fun m _ => dec_tst m) cs d ps h hb
  exact ⟨xs, h1, l, h2, h3⟩
theorem dec_graph (n : Nat) : Dec enc W sp held n 29 fun xs => ∃ g : Graph, xs = g.cs := by
  intro cs d ps h hb
  obtain ⟨m, _, hl, hF⟩ := flds Tryz.underlying29 h hb
  obtain ⟨x0, v0, a, rfl, _⟩ := hF.f 0 26 0 _ ⟨_, rfl, rfl, rfl⟩ (dec_nums m)
  obtain ⟨x1, v1, b, rfl, _⟩ := hF.f 1 27 1 _ ⟨_, rfl, rfl, rfl⟩ (dec_edgs m)
  rw [z29] at hl
  rw [z26] at v0
  rw [z27] at v1
  exact ⟨_, CV.app v0 (CV.app v1 (CV.nil (by omega)) (by omega)) (by omega), ⟨a, b⟩, rfl⟩
theorem dec_part (n : Nat) : Dec enc W sp held n 35 fun xs => ∃ g : Mor, xs = g.cs := by
  intro cs d ps h hb
  obtain ⟨m, _, hl, hF⟩ := flds Tryz.underlying35 h hb
  obtain ⟨x0, v0, a, rfl, _⟩ := hF.f 0 26 0 _ ⟨_, rfl, rfl, rfl⟩ (dec_nums m)
  obtain ⟨x1, v1, b, rfl, _⟩ := hF.f 1 26 1 _ ⟨_, rfl, rfl, rfl⟩ (dec_nums m)
  rw [z35] at hl
  rw [z26] at v0 v1
  exact ⟨_, CV.app v0 (CV.app v1 (CV.nil (by omega)) (by omega)) (by omega), ⟨a, b⟩, rfl⟩
theorem dec_mor (n : Nat) : Dec enc W sp held n 36 fun xs => ∃ g : Mor, xs = g.cs := by
  intro cs d ps h hb
  obtain ⟨m, _, hl, hF⟩ := flds Tryz.underlying36 h hb
  obtain ⟨x0, v0, a, rfl, _⟩ := hF.f 0 26 0 _ ⟨_, rfl, rfl, rfl⟩ (dec_nums m)
  obtain ⟨x1, v1, b, rfl, _⟩ := hF.f 1 26 1 _ ⟨_, rfl, rfl, rfl⟩ (dec_nums m)
  rw [z36] at hl
  rw [z26] at v0 v1
  exact ⟨_, CV.app v0 (CV.app v1 (CV.nil (by omega)) (by omega)) (by omega), ⟨a, b⟩, rfl⟩
theorem dec_pat (n : Nat) : Dec enc W sp held n 33 fun xs => ∃ p : Pat, xs = p.cs ∧ p.slots.length ≤ 1048576 ∧ p.tests.length ≤ 1048576 := by
  intro cs d ps h hb
  obtain ⟨m, _, hl, hF⟩ := flds Tryz.underlying33 h hb
  obtain ⟨x0, v0, g, rfl⟩ := hF.f 0 29 0 _ ⟨_, rfl, rfl, rfl⟩ (dec_graph m)
  obtain ⟨x1, v1, s, rfl, hs⟩ := hF.f 1 30 2 _ ⟨_, rfl, rfl, rfl⟩ (dec_slts m)
  obtain ⟨x2, v2, k, rfl⟩ := hF.f 2 3 3 _ ⟨_, rfl, rfl, rfl⟩ (dec_int m)
  obtain ⟨x3, v3, t, rfl, ht⟩ := hF.f 3 31 4 _ ⟨_, rfl, rfl, rfl⟩ (dec_tsts m)
  rw [z33] at hl
  rw [z29] at v0
  rw [z30] at v1
  rw [z3] at v2
  rw [z31] at v3
  exact ⟨_, CV.app v0 (CV.app v1 (CV.app v2 (CV.app v3 (CV.nil (by omega)) (by omega)) (by omega)) (by omega)) (by omega), ⟨g, s, k, t⟩, rfl, hs, ht⟩
theorem cs_el (c : Cond) : El 9 c.el := by rw [Cond.el_cs]; exact ⟨rfl, by simp [AV.cell, Cond.cs]⟩
theorem dec_cond : ∀ n : Nat, Dec enc W sp held n 39 fun xs => ∃ c : Cond, xs = c.el ∧ kb c := by
  intro n
  induction n using Nat.strongRecOn with
  | ind n ih =>
    intro cs d ps h hb
    obtain ⟨m, hm, hl, hF⟩ := flds Tryz.underlying39 h hb
    obtain ⟨x0, v0, a, rfl⟩ := hF.f 0 3 0 _ ⟨_, rfl, rfl, rfl⟩ (dec_int m)
    obtain ⟨x1, v1, l, rfl, hl1, hl2⟩ := hF.f 1 37 1 _ ⟨_, rfl, rfl, rfl⟩ (dec_slice (n := m) (el := Cond.el) (G := kb) Tryz.underlying37 z39 cs_el (fun k hk => ih k (by omega)))
    obtain ⟨x2, v2, f, rfl⟩ := hF.f 2 36 2 _ ⟨_, rfl, rfl, rfl⟩ (dec_mor m)
    obtain ⟨x3, v3, p, rfl, _⟩ := hF.f 3 33 4 _ ⟨_, rfl, rfl, rfl⟩ (dec_pat m)
    rw [z39] at hl
    rw [z3] at v0
    rw [z37] at v1
    rw [z36] at v2
    rw [z33] at v3
    refine ⟨_, CV.app v0 (CV.app v1 (CV.app v2 (CV.app v3 (CV.nil (by omega)) (by omega)) (by omega)) (by omega)) (by omega), .mk a l f p, ?_, (kb_iff _).2 ⟨hl1, hl2⟩⟩
    rw [← cnds_map, Cond.el_cs]; rfl
theorem dec_rule (n : Nat) : Dec enc W sp held n 41 fun xs => ∃ r : Rule, xs = r.cs ∧ r.fine := by
  intro cs d ps h hb
  obtain ⟨m, hm, hl, hF⟩ := flds Tryz.underlying41 h hb
  obtain ⟨x0, v0, a, rfl⟩ := hF.f 0 9 0 _ ⟨_, rfl, rfl, rfl⟩ (dec_str m)
  obtain ⟨x1, v1, p, rfl, p1, p2⟩ := hF.f 1 33 1 _ ⟨_, rfl, rfl, rfl⟩ (dec_pat m)
  obtain ⟨x2, v2, q, rfl, q1, q2⟩ := hF.f 2 33 6 _ ⟨_, rfl, rfl, rfl⟩ (dec_pat m)
  obtain ⟨x3, v3, k, rfl⟩ := hF.f 3 35 11 _ ⟨_, rfl, rfl, rfl⟩ (dec_part m)
  obtain ⟨x4, v4, i, rfl⟩ := hF.f 4 36 13 _ ⟨_, rfl, rfl, rfl⟩ (dec_mor m)
  obtain ⟨x5, v5, b, rfl⟩ := hF.f 5 4 15 _ ⟨_, rfl, rfl, rfl⟩ (dec_bool m)
  obtain ⟨x6, v6, c, rfl, _⟩ := hF.f 6 39 16 _ ⟨_, rfl, rfl, rfl⟩ (dec_cond m)
  rw [z41] at hl
  rw [z9] at v0
  rw [z33] at v1 v2
  rw [z35] at v3
  rw [z36] at v4
  rw [z4] at v5
  rw [z39] at v6
  refine ⟨_, CV.app v0 (CV.app v1 (CV.app v2 (CV.app v3 (CV.app v4 (CV.app v5 (CV.app v6 (CV.nil (by omega)) (by omega)) (by omega)) (by omega)) (by omega)) (by omega)) (by omega)) (by omega), ⟨a, p, q, k, i, b, c⟩, ?_, by unfold Rule.fine; simp only; omega⟩
  rw [Cond.el_cs]; rfl
end
end Go.Av.Z

/- The arguments, as they are read: type graphs. -/
namespace Go.Av.Z
open Go.Proofs

section
variable {H : Type} {enc : TypeId × Value → H} {W : World} {sp : Nat → Bool} {held : Bool}
theorem dec_string (n : Nat) : Dec enc W sp held n 9 fun xs => ∃ s : ByteArray, xs = [.str s] ∧ s.size ≤ 1048576 := by
  intro cs d ps h hb
  obtain ⟨s, rfl, hx, _⟩ := DataW.trod_string Tryz.underlying9 h
  simp only [Prod.mk.injEq] at hx
  obtain ⟨rfl, _⟩ := hx
  simp only [YtaabmnpedhggoaaGreat.Rows.uptoBulk] at hb
  exact ⟨_, CV.one (.str s), s, rfl, by rw [← bytes_size]; omega⟩
theorem dec_strings (n : Nat) : Dec enc W sp held n 85 fun xs => ∃ l : List ByteArray, xs = [.slice 1 (strs l)] ∧ l.length ≤ 1048576 ∧ ∀ s ∈ l, s.size ≤ 1048576 :=
  dec_slice (el := fun s : ByteArray => [AV.str s]) (G := fun s => s.size ≤ 1048576) Tryz.underlying85 z9 (fun x => ⟨rfl, by simp [AV.cell]⟩) (fun m _ => dec_string m)
theorem zAttr : P.cellsOf 87 = 4 := by kernel_rfl
theorem zStrs : P.cellsOf 85 = 1 := by kernel_rfl
theorem zNodeT : P.cellsOf 82 = 4 := by kernel_rfl
theorem zEdgeT : P.cellsOf 84 = 7 := by kernel_rfl
theorem zAttrs : P.cellsOf 80 = 1 := by kernel_rfl
theorem zNodes : P.cellsOf 22 = 1 := by kernel_rfl
theorem zEdges : P.cellsOf 23 = 1 := by kernel_rfl
theorem zTypes : P.cellsOf 25 = 2 := by kernel_rfl
theorem dec_attr (n : Nat) : Dec enc W sp held n 87 fun xs => ∃ a : Attr, xs = a.el ∧ a.ok := by
  intro cs d ps h hb
  obtain ⟨m, _, hl, hF⟩ := flds Tryz.underlying87 h hb
  obtain ⟨x0, v0, a, rfl, g0⟩ := hF.f 0 9 0 _ ⟨_, rfl, rfl, rfl⟩ (dec_string m)
  obtain ⟨x1, v1, b, rfl⟩ := hF.f 1 3 1 _ ⟨_, rfl, rfl, rfl⟩ (dec_int m)
  obtain ⟨x2, v2, c, rfl⟩ := hF.f 2 3 2 _ ⟨_, rfl, rfl, rfl⟩ (dec_int m)
  obtain ⟨x3, v3, l, rfl, g1, g2⟩ := hF.f 3 85 3 _ ⟨_, rfl, rfl, rfl⟩ (dec_strings m)
  rw [zAttr] at hl
  rw [z9] at v0
  rw [z3] at v1 v2
  rw [zStrs] at v3
  exact ⟨_, CV.app v0 (CV.app v1 (CV.app v2 (CV.app v3 (CV.nil (by omega)) (by omega)) (by omega)) (by omega)) (by omega), ⟨a, b, c, l⟩, rfl, g0, g2, g1⟩
theorem dec_nodeT (n : Nat) : Dec enc W sp held n 82 fun xs => ∃ a : NodeT, xs = a.el ∧ a.ok := by
  intro cs d ps h hb
  obtain ⟨m, _, hl, hF⟩ := flds Tryz.underlying82 h hb
  obtain ⟨x0, v0, a, rfl, g0⟩ := hF.f 0 9 0 _ ⟨_, rfl, rfl, rfl⟩ (dec_string m)
  obtain ⟨x1, v1, b, rfl⟩ := hF.f 1 3 1 _ ⟨_, rfl, rfl, rfl⟩ (dec_int m)
  obtain ⟨x2, v2, c, rfl⟩ := hF.f 2 4 2 _ ⟨_, rfl, rfl, rfl⟩ (dec_bool m)
  obtain ⟨x3, v3, l, rfl, g1, g2⟩ := hF.f 3 80 3 _ ⟨_, rfl, rfl, rfl⟩ (dec_slice (n := m) (el := Attr.el) (G := Attr.ok) Tryz.underlying80 zAttr (fun x => ⟨rfl, by simp [AV.cell, Attr.el]⟩) (fun m _ => dec_attr m))
  rw [zNodeT] at hl
  rw [z9] at v0
  rw [z3] at v1
  rw [z4] at v2
  rw [zAttrs] at v3
  exact ⟨_, CV.app v0 (CV.app v1 (CV.app v2 (CV.app v3 (CV.nil (by omega)) (by omega)) (by omega)) (by omega)) (by omega), ⟨a, b, c, l⟩, rfl, g0, g1, g2⟩
theorem dec_edgeT (n : Nat) : Dec enc W sp held n 84 fun xs => ∃ a : EdgeT, xs = a.el ∧ a.name.size ≤ 1048576 := by
  intro cs d ps h hb
  obtain ⟨m, _, hl, hF⟩ := flds Tryz.underlying84 h hb
  obtain ⟨x0, v0, a, rfl, g0⟩ := hF.f 0 9 0 _ ⟨_, rfl, rfl, rfl⟩ (dec_string m)
  obtain ⟨x1, v1, b1, rfl⟩ := hF.f 1 3 1 _ ⟨_, rfl, rfl, rfl⟩ (dec_int m)
  obtain ⟨x2, v2, b2, rfl⟩ := hF.f 2 3 2 _ ⟨_, rfl, rfl, rfl⟩ (dec_int m)
  obtain ⟨x3, v3, b3, rfl⟩ := hF.f 3 3 3 _ ⟨_, rfl, rfl, rfl⟩ (dec_int m)
  obtain ⟨x4, v4, b4, rfl⟩ := hF.f 4 3 4 _ ⟨_, rfl, rfl, rfl⟩ (dec_int m)
  obtain ⟨x5, v5, b5, rfl⟩ := hF.f 5 3 5 _ ⟨_, rfl, rfl, rfl⟩ (dec_int m)
  obtain ⟨x6, v6, b6, rfl⟩ := hF.f 6 3 6 _ ⟨_, rfl, rfl, rfl⟩ (dec_int m)
  rw [zEdgeT] at hl
  rw [z9] at v0
  rw [z3] at v1 v2 v3 v4 v5 v6
  exact ⟨_, CV.app v0 (CV.app v1 (CV.app v2 (CV.app v3 (CV.app v4 (CV.app v5 (CV.app v6 (CV.nil (by omega)) (by omega)) (by omega)) (by omega)) (by omega)) (by omega)) (by omega)) (by omega), ⟨a, b1, b2, b3, b4, b5, b6⟩, rfl, g0⟩
theorem dec_types (n : Nat) : Dec enc W sp held n 25 fun xs => ∃ t : Types, xs = t.cs ∧ t.ok := by
  intro cs d ps h hb
  obtain ⟨m, _, hl, hF⟩ := flds Tryz.underlying25 h hb
  obtain ⟨x0, v0, l0, rfl, g0, k0⟩ := hF.f 0 22 0 _ ⟨_, rfl, rfl, rfl⟩ (dec_slice (n := m) (el := NodeT.el) (G := NodeT.ok) Tryz.underlying22 zNodeT (fun x => ⟨rfl, by simp [AV.cell, NodeT.el]⟩) (fun m _ => dec_nodeT m))
  obtain ⟨x1, v1, l1, rfl, g1, k1⟩ := hF.f 1 23 1 _ ⟨_, rfl, rfl, rfl⟩ (dec_slice (n := m) (el := EdgeT.el) (G := fun e => e.name.size ≤ 1048576) Tryz.underlying23 zEdgeT (fun x => ⟨rfl, by simp [AV.cell, EdgeT.el]⟩) (fun m _ => dec_edgeT m))
  rw [zTypes] at hl
  rw [zNodes] at v0
  rw [zEdges] at v1
  exact ⟨_, CV.app v0 (CV.app v1 (CV.nil (by omega)) (by omega)) (by omega), ⟨l0, l1⟩, rfl, k0, k1⟩
end
end Go.Av.Z

/- The row, the example's answer given. -/
namespace Go.Av.Z
open Go.Proofs Go.ChangeShapes Go.WideShapes Go.ChangeAt Go.RowKit
open YtaabmnpedhggoaaGreat

theorem own : ownKnob Tryz.prog.godebug = none := by kernel_rfl

section
variable {H : Type} {enc : TypeId × Value → H} {P : Program}
/-- What holds behind a call that leaves what was there as it was: '∀ a' of the kit's lemma is asked of what was trodden alone. -/
theorem post_below {f : Func} {s : ChangeSpec} {apart fresh handsOn again : Bool} {W W' : World} {args : Array Value} {v : Value} {ds gs : List (DataW H)} {before pa pv : List MemPlace}
    (hW : DataW.Whole enc P f.params.toList s.vars apart W args.toList ds gs before)
    (hres : ∀ (b : Nat) (sp : Nat → Bool) (hd : Bool), DataW.TrodAll enc P W' b sp hd f.resultTypes.toList (v.resultList f.resultTypes.size) (s.fn H (ds ++ gs)).results [])
    (hargs : ∀ sp : Nat → Bool, (∀ p ∈ before, sp p.block = true) → DataW.TrodAll enc P W' 0 sp true f.params.toList args.toList (s.fn H (ds ++ gs)).args pa)
    (hvars : ∀ sp : Nat → Bool, (∀ p ∈ before, sp p.block = true) → DataW.TrodVars enc P W' sp s.vars (s.fn H (ds ++ gs)).vars pv)
    (hps : before = pa ++ pv) (hb : Below W.heap.size W W')
    (hok : ∀ (j : Nat) (t : TypeId) (r : Value), f.resultTypes[j]? = some t → (v.resultList f.resultTypes.size)[j]? = some r → Value.okWide P W' .any 0 t r) :
    s.post enc P f apart fresh handsOn again W args v W' := by
  have hold : ∀ p ∈ before, (fun b => decide (b < W.heap.size)) p.block = true := fun p hp => by simpa using hW.lt p hp
  refine ⟨ds, gs, before, [], pa, pv, hW, hres _ _ _, hargs _ hold, hvars _ hold, World.keptBut_mono (fun p hp => ⟨hp, ?_⟩) (hb.frame _), fun _ => ?_⟩
  · rw [hps, List.mem_append] at hp
    exact Or.inr hp
  · have hlt := fun p hp => hW.lt (p := p) hp
    obtain ⟨_, _, _, _, _, hz, hn⟩ := hW
    refine ⟨hok, _, _, ([] ++ pa) ++ pv, ⟨[] ++ pa, pv, trodAll_append (hargs _ (fun _ _ => rfl)) (hres _ _ _), hvars _ (fun _ _ => rfl), rfl, ?_, ?_⟩, ?_⟩
    · intro b off hp
      have hm : MemPlace.cell b off ∈ before := by rw [hps]; simpa using hp
      rw [hb.frozen (p := ⟨b, off, none⟩) (hlt _ hm)]
      exact hz b off hm
    · intro ha
      have := hn ha
      rw [hps] at this
      simpa using this
    · intro p hp _
      rw [hps]
      simpa using hp
end

/-- A struct, told. -/
theorem CV.agg {W : World} {xs : List AV} {cs : Array Value} (h : CV W xs cs.toList) : Val W (allF W) noSig (.agg xs) (.agg cs) := by
  refine .agg _ _ (by have := h.1; simp at this; omega) fun j y hy => ?_
  have := h.2 j y hy
  rw [List.getD_eq_getElem?_getD] at this
  simpa [Array.getD_eq_getD_getElem?] using this

theorem simx0 (W : World) : SimX ⟨W, allF W, blocksOf noSig []⟩ noTM (hpOf []) act0 W noSig (allF W) :=
  ⟨rfl, fun t x h => (by cases h), fun id b h => by simp [hpOf] at h, fun id id' b b' sv sv' g h => by simp [hpOf] at h, fun id b sv g h => by simp [hpOf] at h, fun _ h => h, fun _ h => h, fun _ h _ => .inl h, rfl, rfl, rfl, Nat.le_refl _, fun _ _ _ => rfl⟩
/-- What is read is nothing: witnesses. -/
def wS : Value := .slice none 0 0
def wZ : Value := .int .i64 0
def wM {H : Type} : DataW H := .agg [.nil, .nil]
def wP {H : Type} : DataW H := .agg [wM, .nil, .lit (.int .i64 0), .nil]
def wC {H : Type} : DataW H := .agg [.lit (.int .i64 0), .nil, wM, wP]
def wR {H : Type} : DataW H := .agg [.lit (.string []), wP, wP, wM, wM, .lit (.bool false), wC]

def wT {H : Type} : DataW H := .agg [.nil, .nil]
end Go.Av.Z

/- The row of TransportApplicable, its contract given. -/
namespace Go.Av.Z.TransportApplicable
open Go.Proofs Go.ChangeShapes Go.WideShapes Go.ChangeAt Go.RowKit
open YtaabmnpedhggoaaGreat

theorem contract (hlaw : ∀ (T : Types) (ρ : Rule), T.ok → ρ.fine → Con P 3 [] [T.av, ρ.av] (.bool true) []) (H : Type) (enc : TypeId × Value → H) (W : World) (base : Nat) (args : Array Value) (ds gs : List (DataW H)) (before : List MemPlace)
    (hval : ∀ (j : Nat) t v, Tryz.f3.params[j]? = some t → args[j]? = some v → Value.okWide Tryz.prog W .any base t v)
    (hW : DataW.Whole enc Tryz.prog Tryz.f3.params.toList Rows.transportApplicableSpec.vars false W args.toList ds gs before)
    (hk : Rows.uptoSmall H (ds ++ gs) = true) :
    Calls Tryz.prog 3 args W fun e W' => ∃ v, e = .returned v ∧ Rows.transportApplicableSpec.post enc Tryz.prog Tryz.f3 false true false false W args v W' := by
  have hW' := hW
  obtain ⟨p, q, hA0, hV, rfl, hfz, hnd⟩ := hW
  have hA : DataW.TrodAll enc Tryz.prog W 0 (fun _ => true) true Tryz.f3.params.toList args.toList ds p := hA0
  rw [Tryz.params3] at hA hval
  obtain ⟨v0, v1, d0, d1, p0, p1, rfl, rfl, rfl, h0, h1⟩ := trodAll_two hA
  obtain ⟨rfl, rfl⟩ := trodVars_none hV
  have hsm : Rows.uptoBulk d0 ≤ 1048576 ∧ Rows.uptoBulk d1 ≤ 1048576 := by
    have := of_decide_eq_true hk
    simp only [List.append_nil, Rows.uptoBulkAll] at this
    omega
  have k0 := hval 0 25 v0 rfl rfl
  unfold Value.okWide at k0
  rw [Tryz.underlying25] at k0
  obtain ⟨cs0, rfl, _, _⟩ := k0
  have h0k := h0
  obtain ⟨n0, h0⟩ := h0
  have k1 := hval 1 41 v1 rfl rfl
  unfold Value.okWide at k1
  rw [Tryz.underlying41] at k1
  obtain ⟨cs1, rfl, _, _⟩ := k1
  have h1k := h1
  obtain ⟨n1, h1⟩ := h1
  obtain ⟨x0, e0, T, rfl, g00⟩ := dec_types n0 _ _ _ h0 hsm.1
  obtain ⟨x1, e1, ρ, rfl, g10⟩ := dec_rule n1 _ _ _ h1 hsm.2
  have hargs : AllVal W (allF W) noSig [T.av, ρ.av] #[.agg cs0, .agg cs1] := by
    refine ⟨rfl, fun j x hx => ?_⟩
    match j, hx with
    | 0, hx => simp at hx; subst hx; exact e0.agg
    | 1, hx => simp at hx; subst hx; exact e1.agg
  refine ((hlaw T ρ g00 g10).spec W (allF W) noSig _ (simx0 W) (fun _ _ => rfl) hargs).mono fun e W' he => ?_
  obtain ⟨v, σ', F', rfl, _, _, hv, hS⟩ := he
  obtain rfl := hv.unbool
  have hb : Below W.heap.size W W' := ⟨hS.os, hS.tape, hS.output, hS.size, fun k hk => hS.bel k hk (fun ⟨i, b, sv, h1, _⟩ => by simp at h1)⟩
  simp only [List.append_nil] at hW'
  have hlt := fun x (hx : x ∈ _) => hW'.lt (p := x) hx
  simp only [List.mem_append] at hlt
  refine ⟨_, rfl, post_below (pv := []) hW' (fun _ _ _ => (trodAll_cons_mk (shut_bool Tryz.underlying4 _) trodAll_mk0)) (fun sp hsp => ?_) (fun _ _ => rfl) (List.append_nil _).symm hb (ok_one (by kernel_rfl) rfl (okWide_bool_mk Tryz.underlying4 _))⟩
  simp only [List.mem_append] at hsp
  have t0 := WideElems.Trod_stays (sp' := sp) (t := 25) (by kernel_rfl) (by kernel_rfl) (of_decide_eq_true (by kernel_rfl)) h0k (fun x hx => hb.same (hlt x (by simp [hx]))) (fun x hx => hsp x (by simp [hx]))
  have t1 := WideElems.Trod_stays (sp' := sp) (t := 41) (by kernel_rfl) (by kernel_rfl) (of_decide_eq_true (by kernel_rfl)) h1k (fun x hx => hb.same (hlt x (by simp [hx]))) (fun x hx => hsp x (by simp [hx]))
  rw [Tryz.params3]
  have : DataW.TrodAll enc Tryz.prog W' 0 sp true [25, 41] [.agg cs0, .agg cs1] [d0, d1] (p0 ++ p1) := by simpa using trodAll_cons_mk t0 (trodAll_cons_mk t1 trodAll_mk0)
  exact this
def wit : Input := ⟨#[], #[.agg #[wS, wS], .agg #[.string ⟨#[]⟩, wS, wS, wS, wZ, wS, wS, wS, wS, wZ, wS, wS, wS, wS, wS, .bool false, wZ, wS, wS, wS, wS, wS, wS, wZ, wS]], []⟩
theorem lifted (hlaw : ∀ (T : Types) (ρ : Rule), T.ok → ρ.fine → Con P 3 [] [T.av, ρ.av] (.bool true) []) (os : Os) (started : os.Started) (H : Type) (enc : TypeId × Value → H) (F : Stop.Interp) :
    ReturnsInHanded {} Tryz.checked os 3 .any ((Rows.OpenSpec.upto Rows.transportApplicableSpec).pre6 enc Tryz.prog Tryz.f3 Rows.transportApplicableUptoRow.domain false) (((Rows.OpenSpec.upto Rows.transportApplicableSpec).at F).post enc Tryz.prog Tryz.f3 false true false false) := by
  refine returnsInHanded_of_cond (C := Tryz.checked) (s := Rows.OpenSpec.upto Rows.transportApplicableSpec) (k := Rows.uptoSmall) rfl own started (by kernel_rfl) Tryz.func3
    (OpenSpec.witness (enc := enc) (C := Tryz.checked) (s := Rows.OpenSpec.upto Rows.transportApplicableSpec) (k := Rows.uptoSmall) rfl false wit 8 (by kernel_rfl) (by kernel_rfl) (by kernel_rfl)
      (x := ([wT, wR], [], [])) (by kernel_rfl) rfl (by kernel_rfl)) ?_
  intro W base args ds gs before hval hW _ hk _
  exact contract hlaw H enc W base args ds gs before hval hW hk
noncomputable abbrev P : Program := Tryz.pinned.checked.prog
abbrev f : FuncId := 3
noncomputable abbrev fn : Func := Tryz.f3
noncomputable abbrev s : ChangeSpec := (Rows.OpenSpec.upto Rows.transportApplicableSpec).bare
noncomputable abbrev c : OpenClaim := Rows.transportApplicableUptoRow
theorem k0 : (c.wf (OpenSpec.ofChange s)) = true := by kernel_rfl
theorem k1 : (laidOutB P) = true := by kernel_rfl
theorem k2 : (mapsRowed P) = true := by kernel_rfl
theorem k3 : (fn.params.all (P.readableRec ·)) = true := by kernel_rfl
theorem k4 : (namedTie P c.named s.vars) = true := by kernel_rfl
theorem k5 : ((c.stops == [])) = true := by kernel_rfl
theorem k6 : ((P.stops == [])) = true := by kernel_rfl
theorem k7 : ((c.knobs == [])) = true := by kernel_rfl
theorem k8 : ((P.stopKnobs == [])) = true := by kernel_rfl
theorem k9 : ((c.inPlace == P.inPlace f)) = true := by kernel_rfl
theorem k10 : ((c.unfollowed == P.unfollowed f)) = true := by kernel_rfl
theorem k11 : ((c.recurses == P.recurses f)) = true := by kernel_rfl
theorem k12 : ((c.named == P.varsNamed f)) = true := by kernel_rfl
theorem k13 : ((c.maps == (fn.params.toList ++ s.plain.varTypes P).any (P.mapsRec ·))) = true := by kernel_rfl
theorem k14 : ((c.ifaces == (fn.params.toList ++ s.plain.varTypes P).any (P.ifacesRec ·))) = true := by kernel_rfl
theorem k15 : ((c.mapsOut == P.mapsAmong fn.resultTypes.toList)) = true := by kernel_rfl
theorem k16 : ((c.loops == (fn.params.toList ++ s.plain.varTypes P).any (P.loopsFrom ·))) = true := by kernel_rfl
theorem k17 : ((c.wideKeys == (fn.params.toList ++ s.plain.varTypes P ++ fn.resultTypes.toList).any (P.wideKeysFrom ·))) = true := by kernel_rfl
theorem k18 : (s.vars.all (P.varReadable ·)) = true := by kernel_rfl
theorem k19 : (fn.resultTypes.all (fun t => P.readableRec t && decide (t < P.types.size))) = true := by kernel_rfl
theorem k20 : ((c.ifacesOut == fn.resultTypes.toList.any (P.ifacesRec ·))) = true := by kernel_rfl
theorem k21 : ((c.loopsOut == fn.resultTypes.toList.any (P.loopsFrom ·))) = true := by kernel_rfl
theorem k22 : ((c.plainKeys == P.plainKeys)) = true := by kernel_rfl
theorem k23 : (c.shortTexts.isNone) = true := by kernel_rfl
theorem k24 : (P.stopsHeard) = true := by kernel_rfl
theorem k25 : (P.mayEnter) = true := by kernel_rfl
theorem k26 : ((c.lifted == P.liftsFinal)) = true := by kernel_rfl
theorem k27 : ((P.make == some c.make)) = true := by kernel_rfl
theorem k28 : ((c.kinds == (if c.domain.isEmpty then [] else fn.params.toList.map fun t => match P.underlying t with | some (.int k) => some k | _ => none))) = true := by kernel_rfl
theorem k29 : ((c.pinned == c.pinnedBy)) = true := by kernel_rfl
theorem k30 : ((c.veiled == (fn.params.toList ++ s.plain.varTypes P ++ fn.resultTypes.toList).any (P.veiledRec ·))) = true := by kernel_rfl
theorem k31 : (c.veiledFits P fn.params.toList (fn.params.toList ++ s.plain.varTypes P ++ fn.resultTypes.toList)) = true := by kernel_rfl
theorem and_t {a b : Bool} (h : a = true) (h' : b = true) : (a && b) = true := by rw [h, h']; rfl
theorem closed : joinedFacts Tryz.pinned.checked.prog 3 Tryz.f3 (Rows.OpenSpec.upto Rows.transportApplicableSpec).bare Rows.transportApplicableUptoRow = true := and_t (and_t (and_t (and_t (and_t (and_t (and_t (and_t (and_t (and_t (and_t (and_t (and_t (and_t (and_t (and_t (and_t (and_t (and_t (and_t (and_t (and_t (and_t (and_t (and_t (and_t (and_t (and_t (and_t (and_t (and_t k0 k1) k2) k3) k4) k5) k6) k7) k8) k9) k10) k11) k12) k13) k14) k15) k16) k17) k18) k19) k20) k21) k22) k23) k24) k25) k26) k27) k28) k29) k30) k31
theorem over (hlaw : ∀ (T : Types) (ρ : Rule), T.ok → ρ.fine → Con P 3 [] [T.av, ρ.av] (.bool true) []) : Rows.transportApplicableUptoRow.holds Tryz.pinned (Rows.OpenSpec.upto Rows.transportApplicableSpec) :=
  OpenClaim.holds_of_cond 3 Tryz.f3 rfl rfl rfl rfl rfl rfl rfl ⟨rfl, rfl, rfl, rfl, rfl⟩ rfl rfl rfl rfl rfl (by kernel_rfl) Tryz.func3 closed
    (of_decide_eq_true (by kernel_rfl)) (by unfold Func.isWrapper; first | (rw [if_pos (by decide +kernel)]; kernel_rfl) | (rw [if_neg (by decide +kernel)]; exact ⟨rfl, rfl⟩))
    (fun os started H enc _ F => lifted hlaw os started H enc F)
end Go.Av.Z.TransportApplicable

/- The example: names. -/
namespace Go.Av.Z
open Go.Proofs

def sA : ByteArray := ⟨#[65]⟩
def se : ByteArray := ⟨#[101]⟩
/-- A name of the example. -/
def Nm (s : ByteArray) : Prop := s = sA ∨ s = se
def byt (s : ByteArray) : Int := (s[0]?.getD 0).toNat
theorem xc279 (s : ByteArray) (hs : Nm s) : Con P 279 [] [.int .u8 (byt s)] (.bool true) [] := by
  rcases hs with rfl | rfl
  all_goals
    refine go Tryz.func279 (by rfl) rfl rfl rfl fun hl => ?_
    refine W0 ?_
    refine fin_frz TT ?_ rfl
    rfl
theorem xc281 (s : ByteArray) (hs : Nm s) : Con P 281 [] [.int .u8 (byt s)] (.bool true) [] := by
  refine go Tryz.func281 (by rfl) rfl rfl rfl fun hl => ?_
  refine W0 ?_
  refine ⟨_, _, xc279 s hs, ?_⟩
  refine W0 ?_
  refine fin_frz TT ?_ rfl
  rfl
theorem xc280 (s : ByteArray) (hs : Nm s) : Con P 280 [] [.str s, .fn 281 []] (.int .i64 1) [] := by
  have h := xc281 s hs
  rcases hs with rfl | rfl
  all_goals
    refine go Tryz.func280 (by rfl) rfl rfl rfl fun hl => ?_
    refine W0 ?_
    refine R0 ?_
    refine ⟨_, _, h, ?_⟩
    refine R0 ?_
    refine fin_frz TT ?_ rfl
    rfl
theorem xc258 (s : ByteArray) (hs : Nm s) : Con P 258 [] [.str s] (.tuple [.int .i64 1, .int .i64 1, .int .i64 0]) [] := by
  have h := xc279 s hs
  have h2 := xc280 s hs
  rcases hs with rfl | rfl
  all_goals
    refine go Tryz.func258 (by rfl) rfl rfl rfl fun hl => ?_
    refine W0 ?_
    refine R0 ?_
    refine ⟨_, _, h, ?_⟩
    refine R0 ?_
    refine ⟨_, _, h2, ?_⟩
    refine R0 ?_
    refine fin_frz TT ?_ rfl
    rfl
theorem nm_ne (s : ByteArray) (hs : Nm s) : ¬ (s.toList == (⟨#[]⟩ : ByteArray).toList) = true := by
  have h1 : s.size = 1 := by rcases hs with rfl | rfl <;> rfl
  have h2 : ∃ b, s.toList = [b] := by
    unfold ByteArray.toList
    rw [ByteArray.toList.loop, if_pos (by omega), ByteArray.toList.loop, if_neg (by omega)]
    exact ⟨_, rfl⟩
  have h3 : (⟨#[]⟩ : ByteArray).toList = [] := by
    unfold ByteArray.toList
    rw [ByteArray.toList.loop, if_neg (by decide)]; rfl
  obtain ⟨b, h2⟩ := h2
  rw [h2, h3]
  exact Bool.false_ne_true
theorem xc224 (s : ByteArray) (hs : Nm s) : Con P 224 [] [.agg [.int .i64 1, .str s, .int .i64 0]] (.tuple [.str s, .bool true]) [] := by
  have h := xc258 s hs
  have h2 := nm_ne s hs
  rcases hs with rfl | rfl
  all_goals
    refine go Tryz.func224 (by rfl) rfl rfl rfl fun hl => ?_
    refine W0 ?_
    refine R0 ?_
    refine ⟨fun h => absurd h h2, fun _ => ?_⟩
    refine R0 ?_
    refine ⟨_, _, h, ?_⟩
    refine R0 ?_
    refine fin_frz TT ?_ rfl
    rfl
theorem xc177 (s : ByteArray) (hs : Nm s) : Con P 177 [] [.str s] (.bool true) [] := by
  refine go Tryz.func177 (by rfl) rfl rfl rfl fun hl => ?_
  refine W0 ?_
  refine ⟨_, _, xc224 s hs, ?_⟩
  refine R0 ?_
  refine fin_frz TT ?_ rfl
  rfl

/-- The type graph of the example. -/
def T0 : Types := ⟨[⟨sA, -1, false, []⟩], [⟨se, 0, 0, 0, -1, 0, -1⟩]⟩
def T0.av : AV := .agg T0.cs
theorem xc179 : Con P 179 [] [T0.av, .int .i64 0] (.slice 4 []) [] := by
  refine go Tryz.func179 (by rfl) rfl rfl rfl fun hl => ?_
  refine W0 ?_
  refine R0 ?_
  refine fin_frz TT ?_ rfl
  rfl
def N0 : NodeT := ⟨sA, -1, false, []⟩
def E0 : EdgeT := ⟨se, 0, 0, 0, -1, 0, -1⟩
theorem xc123 : Con P 123 [] [T0.av, .int .i64 0] (.int .i64 0) [] := by
  refine go Tryz.func123 (by rfl) rfl rfl rfl fun hl => ?_
  refine W0 ?_
  refine R0 ?_
  refine ⟨_, _, xc177 sA (.inl rfl), ?_⟩
  refine R0 ?_
  refine ⟨_, _, con_frz rfl rfl rfl (c152a N0.el [] 178 (fun _ => false) (fun x hx => by cases hx)), ?_⟩
  refine R0 ?_
  refine ⟨_, _, xc179, ?_⟩
  refine R0 ?_
  refine fin_frz TT ?_ rfl
  rfl
theorem xc181 : Con P 181 [] [.int .i64 0, .fptr T0.cs] (.bool true) [] := by
  refine go Tryz.func181 (by rfl) rfl rfl rfl fun hl => ?_
  refine W0 ?_
  refine R0 ?_
  refine fin_frz TT ?_ rfl
  rfl
theorem xc184 : Con P 184 [] [.int .i64 0, .int .i64 (-1)] (.bool true) [] := by
  refine go Tryz.func184 (by rfl) rfl rfl rfl fun hl => ?_
  refine W0 ?_
  refine R0 ?_
  refine fin_frz TT ?_ rfl
  rfl
theorem xc124 : Con P 124 [] [T0.av, .int .i64 0] (.int .i64 0) [] := by
  refine go Tryz.func124 (by rfl) rfl rfl rfl fun hl => ?_
  refine W0 ?_
  refine R0 ?_
  refine ⟨_, _, xc177 se (.inr rfl), ?_⟩
  refine R0 ?_
  refine ⟨_, _, con_frz rfl rfl rfl (c182a E0.el [] 183 (fun _ => false) (fun x hx => by cases hx)), ?_⟩
  refine R0 ?_
  refine ⟨_, _, con_frz rfl rfl rfl xc181, ?_⟩
  refine R0 ?_
  refine ⟨_, _, xc181, ?_⟩
  refine R0 ?_
  refine ⟨_, _, xc184, ?_⟩
  refine R0 ?_
  refine ⟨_, _, xc184, ?_⟩
  refine R0 ?_
  refine fin_frz TT ?_ rfl
  rfl
theorem xc68 : Con P 68 [] [T0.av] (.tuple [.str ⟨#[]⟩, .int .i64 0]) [] := by
  refine go Tryz.func68 (by rfl) rfl rfl rfl fun hl => ?_
  refine W0 ?_
  refine R0 ?_
  refine ⟨_, _, xc123, ?_⟩
  refine R0 ?_
  refine ⟨_, _, xc124, ?_⟩
  refine R0 ?_
  refine fin_frz TT ?_ rfl
  rfl
theorem xc153 : Con P 153 [] [.agg N0.el, .fptr [.int .i64 0]] (.bool false) [] := by
  refine go Tryz.func153 (by rfl) rfl rfl rfl fun hl => ?_
  refine W0 ?_
  refine R0 ?_
  refine fin_frz TT ?_ rfl
  rfl
theorem xc92 : Con P 92 [] [T0.av, .int .i64 0] (.bool true) [] := by
  refine go Tryz.func92 (by rfl) rfl rfl rfl fun hl => ?_
  refine W0 ?_
  refine R0 ?_
  refine ⟨_, _, con_frz rfl rfl rfl (c152a [.int .i64 0] [N0] 153 (fun _ => false) (fun x hx => by
    rw [List.mem_singleton] at hx
    subst hx; exact xc153)), ?_⟩
  refine R0 ?_
  refine fin_frz TT ?_ rfl
  rfl
theorem xc203 : Con P 203 [] [.int .i64 0, .fptr T0.cs] (.bool false) [] := by
  refine go Tryz.func203 (by rfl) rfl rfl rfl fun hl => ?_
  refine W0 ?_
  refine R0 ?_
  refine fin_frz TT ?_ rfl
  rfl
end Go.Av.Z

/- The example: the type graph's words, on. -/
namespace Go.Av.Z
open Go.Proofs

theorem c157x : Con P 157 [] [.slice 1 (nums [0, 0]), .fn 203 [.fptr T0.cs]] (.int .i64 (-1)) [] := by
  refine go Tryz.func157 (by rfl) rfl rfl rfl fun hl => ?_
  refine W0 ?_
  refine R0 ?_
  refine ⟨_, _, xc203, ?_⟩
  refine R0 ?_
  refine ⟨_, _, xc203, ?_⟩
  refine R0 ?_
  refine fin_frz TT ?_ rfl
  rfl
theorem c99x : Con P 99 [] [.slice 1 (nums [0, 0]), .fn 203 [.fptr T0.cs]] (.bool false) [] := by
  refine go Tryz.func99 (by rfl) rfl rfl rfl fun hl => ?_
  refine W0 ?_
  refine R0 ?_
  refine ⟨_, _, c157x, ?_⟩
  refine R0 ?_
  refine fin_frz TT ?_ rfl
  rfl
theorem xc155 : Con P 155 [] [T0.av, .slice 1 (nums [0, 0])] (.int .i64 0) [] := by
  refine go Tryz.func155 (by rfl) rfl rfl rfl fun hl => ?_
  refine W0 ?_
  refine R0 ?_
  refine ⟨_, _, xc68, ?_⟩
  refine R0 ?_
  refine ⟨_, _, con_frz rfl rfl rfl c99x, ?_⟩
  refine R0 ?_
  refine fin_frz TT ?_ rfl
  rfl
theorem c249x : Con P 249 [.row 3 1 (nums [0])] [.ref 0] (.tuple []) [.row 3 1 (nums [0])] := by
  refine go Tryz.func249 (by rfl) rfl rfl rfl fun hl => ?_
  refine W0 ?_
  refine R0 ?_
  exact le_of [0] rfl rfl rfl ⟨rfl, trivial⟩ ⟨rfl, trivial⟩
theorem xc204 : Con P 204 [] [T0.av, .int .i64 0] (.slice 1 (nums [0])) [] := by
  refine go Tryz.func204 (by rfl) rfl rfl rfl fun hl => ?_
  refine W0 ?_
  refine R0 ?_
  refine ⟨_, _, c249x, ?_⟩
  refine R0 ?_
  refine fin_frz TT ?_ rfl
  rfl
theorem xc156 : Con P 156 [] [T0.av, .int .i64 0, .int .i64 0] (.bool true) [] := by
  refine go Tryz.func156 (by rfl) rfl rfl rfl fun hl => ?_
  refine W0 ?_
  refine R0 ?_
  refine ⟨_, _, xc204, ?_⟩
  refine R0 ?_
  refine ⟨_, _, c43 [0] 0, ?_⟩
  refine R0 ?_
  refine fin_frz TT ?_ rfl
  rfl
theorem xc97 : Con P 97 [] [T0.av, .int .i64 0, .int .i64 0, .int .i64 0] (.bool true) [] := by
  refine go Tryz.func97 (by rfl) rfl rfl rfl fun hl => ?_
  refine W0 ?_
  refine R0 ?_
  refine ⟨_, _, con_frz rfl rfl rfl xc155, ?_⟩
  refine R0 ?_
  refine ⟨_, _, xc156, ?_⟩
  refine R0 ?_
  refine ⟨_, _, xc156, ?_⟩
  refine R0 ?_
  refine fin_frz TT ?_ rfl
  rfl
def g1 : Graph := ⟨[0], []⟩
def g2 : Graph := ⟨[0, 0], []⟩
theorem c93a : Con P 93 [] [T0.av, g1.av] (.bool true) [] := by
  refine go Tryz.func93 (by rfl) rfl rfl rfl fun hl => ?_
  refine W0 ?_
  refine R0 ?_
  refine ⟨_, _, xc92, ?_⟩
  refine R0 ?_
  refine ⟨_, _, con_frz rfl rfl rfl (c102b T0.cs g1.cs [] 154 (fun _ => false) (fun x hx => by cases hx)), ?_⟩
  refine R0 ?_
  refine fin_frz TT ?_ rfl
  rfl
theorem c93b : Con P 93 [] [T0.av, g2.av] (.bool true) [] := by
  refine go Tryz.func93 (by rfl) rfl rfl rfl fun hl => ?_
  refine W0 ?_
  refine R0 ?_
  refine ⟨_, _, xc92, ?_⟩
  refine R0 ?_
  refine ⟨_, _, xc92, ?_⟩
  refine R0 ?_
  refine ⟨_, _, con_frz rfl rfl rfl (c102b T0.cs g2.cs [] 154 (fun _ => false) (fun x hx => by cases hx)), ?_⟩
  refine R0 ?_
  refine fin_frz TT ?_ rfl
  rfl
def p1 : Pat := ⟨g1, [], 0, []⟩
def p2 : Pat := ⟨g2, [], 0, []⟩
def m0 : Mor := ⟨[0], []⟩
/-- The rule of the example: it deletes a node. -/
def D0 : Rule := ⟨⟨#[]⟩, p2, p1, m0, m0, true, .zero⟩
theorem D0_fine : D0.fine := by unfold Rule.fine; decide
theorem D0_strc : strc D0 = 0 := by decide
theorem xc41 : Con P 41 [] [T0.av, D0.av] (.int .i64 0) [] := by
  refine go Tryz.func41 (by rfl) rfl rfl rfl fun hl => ?_
  refine W0 ?_
  refine R0 ?_
  refine ⟨_, _, xc68, ?_⟩
  refine R0 ?_
  refine ⟨_, _, c62 D0 D0_fine, ?_⟩
  rw [D0_strc]
  refine R0 ?_
  refine ⟨_, _, xc92, ?_⟩
  refine R0 ?_
  refine ⟨_, _, c93b, ?_⟩
  refine R0 ?_
  refine ⟨_, _, c93a, ?_⟩
  refine R0 ?_
  refine fin_frz TT ?_ rfl
  rfl
end Go.Av.Z

/- The example: what can be applied. -/
namespace Go.Av.Z
open Go.Proofs

theorem xc94a : Con P 94 [] [.int .i64 2] (.slice 1 (nums [0, 1])) [] := by
  refine go Tryz.func94 (by rfl) rfl rfl rfl fun hl => ?_
  refine W0 ?_
  refine R0 ?_
  refine fin_frz TT ?_ rfl
  rfl
theorem xc94b : Con P 94 [] [.int .i64 0] (.slice 1 (nums [])) [] := by
  refine go Tryz.func94 (by rfl) rfl rfl rfl fun hl => ?_
  refine W0 ?_
  refine R0 ?_
  refine fin_frz TT ?_ rfl
  rfl
theorem g2_val : gval g2 = 0 := by decide
def i2 : Mor := ⟨[0, 1], []⟩
theorem xc42 : Con P 42 [] [g2.av] (.tuple [i2.av, .int .i64 0]) [] := by
  refine go Tryz.func42 (by rfl) rfl rfl rfl fun hl => ?_
  refine W0 ?_
  refine R0 ?_
  refine ⟨_, _, c45 g2, ?_⟩
  rw [g2_val]
  refine R0 ?_
  refine ⟨_, _, xc94a, ?_⟩
  refine R0 ?_
  refine ⟨_, _, xc94b, ?_⟩
  refine R0 ?_
  refine fin_frz TT ?_ rfl
  rfl

/-- The edge that is added: a node's, ahead or behind. -/
def eAt (out : Bool) (i : Int) : Edge := bif out then ⟨0, 1, i⟩ else ⟨0, i, 1⟩
def gAt (out : Bool) (i : Int) (ns : List Int) : Graph := ⟨ns, [eAt out i]⟩
def xgrs (l : List Graph) : List (List AV) := l.map Graph.cs
theorem xc96 (out : Bool) (i : Int) (ns : List Int) (h : (out, i, ns) ∈ [(true, 0, [0, 0]), (true, 1, [0, 0]), (true, 2, [0, 0, 0]), (false, 0, [0, 0]), (false, 2, [0, 0, 0])]) (gs : List (List AV)) (hg : gs.length ≤ 100) :
    Con P 96 [.row 3 1 (nums ns), .box 3 [.int .i64 0], .box 3 [.int .i64 1], .box 4 [.bool out], .box 25 T0.cs, .box 100 [.ref 7], .box 29 g2.cs, .row 29 2 gs] [.int .i64 i, .ref 0, .bptr 1 0, .bptr 2 0, .bptr 3 0, .bptr 4 0, .bptr 5 0, .bptr 6 0] (.tuple [])
      [.frz (.slice 1 (nums ns)), .box 3 [.int .i64 0], .box 3 [.int .i64 1], .box 4 [.bool out], .box 25 T0.cs, .box 100 [.ref 8], .box 29 g2.cs, .dead, .row 29 2 (gs ++ [(gAt out i ns).cs])] := by
  simp only [List.mem_cons, Prod.mk.injEq, List.not_mem_nil, or_false] at h
  rcases h with ⟨rfl, rfl, rfl⟩ | ⟨rfl, rfl, rfl⟩ | ⟨rfl, rfl, rfl⟩ | ⟨rfl, rfl, rfl⟩ | ⟨rfl, rfl, rfl⟩
  all_goals
    refine go Tryz.func96 (by rfl) rfl rfl rfl fun hl => ?_
    refine W0 ?_
    refine R0 ?_
    try (refine ⟨by kernel_rfl, ?_⟩; refine R0 ?_)
    refine ⟨_, _, xc97, ?_⟩
    refine R0 ?_
    refine ⟨by kernel_rfl, ?_⟩
    refine R0 ?_
    refine ⟨_, _, c98 [] (by decide), ?_⟩
    refine R0 ?_
    refine ⟨by show (gs.length + 1) * 48 ≤ _; omega, ?_⟩
    refine R0 ?_
    refine ⟨by kernel_rfl, ?_⟩
    refine R0 ?_
    exact le_of [0, 1, 2, 3, 4, 5, 6, 7, 15] rfl rfl rfl ⟨rfl, trivial⟩ ⟨rfl, rfl, rfl, rfl, rfl, rfl, rfl, rfl, rfl, trivial⟩
end Go.Av.Z

/- The example: the larger graphs. -/
namespace Go.Av.Z
open Go.Proofs

def Gt : List Graph := [gAt true 0 [0, 0], gAt true 1 [0, 0], gAt true 2 [0, 0, 0]]
def Gf : List Graph := [gAt false 0 [0, 0], gAt false 2 [0, 0, 0]]
theorem xc44t : Con P 44 [] [T0.av, g2.av, .int .i64 1, .int .i64 0, .bool true] (.ref 0) [.row 29 2 (xgrs Gt)] := by
  refine go Tryz.func44 (by rfl) rfl rfl rfl fun hl => ?_
  refine W0 ?_
  refine R0 ?_
  refine ⟨_, _, c46 [0, 0] (by decide), ?_⟩
  refine R0 ?_
  refine ⟨_, _, xc96 true 0 [0, 0] (by simp) [] (by decide), ?_⟩
  refine R0 ?_
  refine ⟨_, _, c46 [0, 0] (by decide), ?_⟩
  refine R0 ?_
  refine ⟨_, _, xc96 true 1 [0, 0] (by simp) _ (by decide), ?_⟩
  refine R0 ?_
  refine ⟨_, _, xc92, ?_⟩
  refine R0 ?_
  refine ⟨_, _, c46 [0, 0] (by decide), ?_⟩
  refine R0 ?_
  refine ⟨_, _, xc96 true 2 [0, 0, 0] (by simp) _ (by decide), ?_⟩
  refine R0 ?_
  exact le_of [21] rfl rfl rfl ⟨rfl, trivial⟩ ⟨rfl, trivial⟩
theorem xc44f : Con P 44 [] [T0.av, g2.av, .int .i64 1, .int .i64 0, .bool false] (.ref 0) [.row 29 2 (xgrs Gf)] := by
  refine go Tryz.func44 (by rfl) rfl rfl rfl fun hl => ?_
  refine W0 ?_
  refine R0 ?_
  refine ⟨_, _, c46 [0, 0] (by decide), ?_⟩
  refine R0 ?_
  refine ⟨_, _, xc96 false 0 [0, 0] (by simp) [] (by decide), ?_⟩
  refine R0 ?_
  refine ⟨_, _, xc92, ?_⟩
  refine R0 ?_
  refine ⟨_, _, c46 [0, 0] (by decide), ?_⟩
  refine R0 ?_
  refine ⟨_, _, xc96 false 2 [0, 0, 0] (by simp) _ (by decide), ?_⟩
  refine R0 ?_
  first
  | exact le_of [17] rfl rfl rfl ⟨rfl, trivial⟩ ⟨rfl, trivial⟩
  | exact le_of [16] rfl rfl rfl ⟨rfl, trivial⟩ ⟨rfl, trivial⟩
  | exact le_of [15] rfl rfl rfl ⟨rfl, trivial⟩ ⟨rfl, trivial⟩
  | exact le_of [14] rfl rfl rfl ⟨rfl, trivial⟩ ⟨rfl, trivial⟩
  | exact le_of [18] rfl rfl rfl ⟨rfl, trivial⟩ ⟨rfl, trivial⟩
  | exact le_of [19] rfl rfl rfl ⟨rfl, trivial⟩ ⟨rfl, trivial⟩
end Go.Av.Z

/- The example: Applicable. -/
namespace Go.Av.Z
open Go.Proofs

theorem con_args {f : FuncId} {M M' : List Blk} {args args' : List AV} {r : AV} (e : args = args') (c : Con P f M args' r M') : Con P f M args r M' := e ▸ c
theorem gv1 : gval (gAt true 0 [0, 0]) = 0 := by decide
theorem gv2 : gval (gAt true 1 [0, 0]) = 0 := by decide
theorem gv3 : gval (gAt true 2 [0, 0, 0]) = 0 := by decide
theorem gv4 : gval (gAt false 0 [0, 0]) = 0 := by decide
theorem gv5 : gval (gAt false 2 [0, 0, 0]) = 0 := by decide
/-- 'Not: there is the graph'. -/
def kid (g : Graph) : Cond := .mk 2 [.mk 5 [cyes] i2 ⟨g, [], 0, []⟩] ⟨[], []⟩ ⟨⟨[], []⟩, [], 0, []⟩
def C5 : Cond := .mk 3 ((Gt ++ Gf).map kid) ⟨[], []⟩ ⟨⟨[], []⟩, [], 0, []⟩
theorem C5_val : cval g2 C5 = 0 := by decide
theorem xc14 : Con P 14 [] [T0.av, D0.av] (.tuple [C5.av, .int .i64 0]) [] := by
  refine go Tryz.func14 (by rfl) rfl rfl rfl fun hl => ?_
  refine W0 ?_
  refine R0 ?_
  refine ⟨_, _, xc41, ?_⟩
  refine R0 ?_
  refine ⟨_, _, xc42, ?_⟩
  refine R0 ?_
  refine ⟨_, _, c43 [0] 0, ?_⟩
  refine R0 ?_
  refine ⟨_, _, c43 [0] 1, ?_⟩
  refine R0 ?_
  refine ⟨_, _, xc44t, ?_⟩
  refine R0 ?_
  refine ⟨_, _, xc44f, ?_⟩
  refine R0 ?_
  refine ⟨_, _, c45 (gAt true 0 [0, 0]), ?_⟩
  refine R0 ?_
  refine ⟨_, _, c46 [0, 1] (by decide), ?_⟩
  refine R0 ?_
  refine ⟨_, _, c46 [] (by decide), ?_⟩
  refine R0 ?_
  refine ⟨_, _, c47, ?_⟩
  refine R0 ?_
  refine ⟨_, _, c45 (gAt true 1 [0, 0]), ?_⟩
  refine R0 ?_
  refine ⟨_, _, c46 [0, 1] (by decide), ?_⟩
  refine R0 ?_
  refine ⟨_, _, c46 [] (by decide), ?_⟩
  refine R0 ?_
  refine ⟨_, _, c47, ?_⟩
  refine R0 ?_
  refine ⟨_, _, c45 (gAt true 2 [0, 0, 0]), ?_⟩
  refine R0 ?_
  refine ⟨_, _, c46 [0, 1] (by decide), ?_⟩
  refine R0 ?_
  refine ⟨_, _, c46 [] (by decide), ?_⟩
  refine R0 ?_
  refine ⟨_, _, c47, ?_⟩
  refine R0 ?_
  refine ⟨_, _, c45 (gAt false 0 [0, 0]), ?_⟩
  refine R0 ?_
  refine ⟨_, _, c46 [0, 1] (by decide), ?_⟩
  refine R0 ?_
  refine ⟨_, _, c46 [] (by decide), ?_⟩
  refine R0 ?_
  refine ⟨_, _, c47, ?_⟩
  refine R0 ?_
  refine ⟨_, _, c45 (gAt false 2 [0, 0, 0]), ?_⟩
  refine R0 ?_
  refine ⟨_, _, c46 [0, 1] (by decide), ?_⟩
  refine R0 ?_
  refine ⟨_, _, c46 [] (by decide), ?_⟩
  refine R0 ?_
  refine ⟨_, _, c47, ?_⟩
  refine R0 ?_
  refine ⟨.int .i64 0, _, con_frz rfl rfl rfl (con_args (args' := [g2.av, C5.av]) (by kernel_rfl) (C5_val ▸ c48 g2 C5)), ?_⟩
  refine R0 ?_
  refine fin_frz TT ?_ rfl
  kernel_rfl
end Go.Av.Z

/- The example. -/
namespace Go.Av.Z
open Go.Proofs

theorem c31a : Con P 31 [] [.int .i64 2] g2.av [] := by
  refine go Tryz.func31 (by rfl) rfl rfl rfl fun hl => ?_
  refine W0 ?_
  refine R0 ?_
  refine fin_frz TT ?_ rfl
  rfl
theorem c31b : Con P 31 [] [.int .i64 1] g1.av [] := by
  refine go Tryz.func31 (by rfl) rfl rfl rfl fun hl => ?_
  refine W0 ?_
  refine R0 ?_
  refine fin_frz TT ?_ rfl
  rfl
theorem c32 : Con P 32 [] [] D0.av [] := by
  refine go Tryz.func32 (by rfl) rfl rfl rfl fun hl => ?_
  refine W0 ?_
  refine R0 ?_
  refine ⟨_, _, c31a, ?_⟩
  refine R0 ?_
  refine ⟨_, _, c31b, ?_⟩
  refine R0 ?_
  refine fin_frz TT ?_ rfl
  kernel_rfl
def C0 : Cond := .mk 5 [cyes] m0 p2
theorem C0_kb : kb C0 := (kb_iff _).2 ⟨by decide, fun x hx => by
  have : x = cyes := by simpa [C0, Cond.kids] using hx
  subst this
  exact (kb_iff _).2 ⟨by decide, fun x hx => by simp [cyes, Cond.kids] at hx⟩⟩
theorem kpt0 : kpt m0 = m0 := by simp [kpt, srt, m0]
def z0 : Mor := cpart g1 g2 m0 m0
def s0 : Span := ⟨ext g2 m0, g2, ext g2 z0, m0, gmor m0 m0 z0⟩
theorem s0_eq : sOf g2 g1 g2 m0 m0 m0 = s0 := by unfold sOf zOf; rw [kpt0]; rfl
theorem s0_err : poErr s0 = 0 := by decide
theorem trn_yes (y x : Graph) (k i : Mor) : trn y x k i cyes = (cyes, 0) := by
  unfold cyes
  rw [trn, if_neg (by decide), trns, if_neg (by decide)]
def L0 : Cond := .mk 5 [cyes] (poL s0) ⟨poG s0, [], 0, []⟩
theorem trn0 : trn g2 g1 m0 m0 C0 = (L0, 0) := by
  have h1 : ¬ (cerr g1 g2 m0 m0 ≠ 0) := by decide
  unfold C0
  rw [trn, if_pos (by decide), kpt0]
  show (if cerr g1 g2 m0 m0 ≠ 0 then _ else if poErr (sOf g2 g1 g2 m0 m0 m0) ≠ 0 then _ else trnK (poL (sOf g2 g1 g2 m0 m0 m0)) (poG (sOf g2 g1 g2 m0 m0 m0)) _ _ _ _) = _
  rw [if_neg h1, s0_eq, if_neg (by rw [s0_err]; decide), trnK, trn_yes, if_neg (by decide)]
  rfl
theorem L0_lrg : lrg L0 = 0 := by decide
theorem L0_nodes : L0.pat.graph.nodes.length = 3 := by decide
theorem lft0 : lft D0 C0 = (L0, 0) := by
  have h2 : cval g1 C0 = 0 := by decide
  rw [lft, if_neg (by rw [D0_strc]; decide)]
  show mvd g2 g1 m0 m0 C0 = _
  rw [mvd, h2, trn0]
  show (if (0 : Int) ≠ 0 then _ else if (0 : Int) ≠ 0 then _ else if lrg L0 ≠ 0 then _ else _) = _
  rw [L0_lrg]
  rfl
theorem c10 : Con P 10 [] [] (.bool true) [] := by
  have h7 := c25 D0 C0 D0_fine C0_kb
  rw [lft0] at h7
  refine go Tryz.func10 (by rfl) rfl rfl rfl fun hl => ?_
  refine W0 ?_
  refine R0 ?_
  refine ⟨_, _, c31a, ?_⟩
  refine R0 ?_
  refine ⟨_, _, c32, ?_⟩
  refine R0 ?_
  refine ⟨.tuple [L0.av, .int .i64 0], _, con_frz rfl rfl rfl (con_args (args' := [D0.av, C0.av]) (by kernel_rfl) h7), ?_⟩
  refine R0 ?_
  refine ⟨_, _, c32, ?_⟩
  refine R0 ?_
  refine ⟨.tuple [C5.av, .int .i64 0], _, con_frz rfl rfl rfl (con_args (args' := [T0.av, D0.av]) (by kernel_rfl) xc14), ?_⟩
  refine R0 ?_
  refine fin_frz TT ?_ rfl
  kernel_rfl
end Go.Av.Z

/- The statement: for all types and rules of bulk at most 1048576 the law of Applicable answers true, and its arguments read behind the call as before. -/
namespace Go.Proofs.YtaabmnpedhggoaaGreat
theorem transport_applicable : Rows.TransportApplicableUptoSaid := Go.Av.Z.TransportApplicable.over (Go.Av.Z.tLawApplicable Go.Av.Z.c10)
end Go.Proofs.YtaabmnpedhggoaaGreat
