/- Part 3 of 7 of a proof: the logic Av, contracts of functions. -/
import Derived.Test.YtbkbaphmpkapmaaGreatAvB
set_option linter.unusedVariables false
set_option maxRecDepth 100000
/- The program's values in plain Lean, and how they are told. -/
namespace Go.Av.Z

def I (n : Int) : AV := .int .i64 n
def B (b : Bool) : AV := .bool b
structure Edge where
  type : Int
  src : Int
  dst : Int
  deriving DecidableEq, Inhabited
def Edge.el (e : Edge) : List AV := [.int .i64 e.type, .int .i64 e.src, .int .i64 e.dst]
def Edge.av (e : Edge) : AV := .agg e.el
structure Graph where
  nodes : List Int
  edges : List Edge
  deriving DecidableEq, Inhabited
def edgs (l : List Edge) : List (List AV) := l.map Edge.el
def Graph.cs (g : Graph) : List AV := [.slice 1 (nums g.nodes), .slice 3 (edgs g.edges)]
def Graph.av (g : Graph) : AV := .agg g.cs
/-- A part, or a morphism: numbers of nodes and of edges. -/
structure Mor where
  nodes : List Int
  edges : List Int
  deriving DecidableEq, Inhabited
def Mor.cs (m : Mor) : List AV := [.slice 1 (nums m.nodes), .slice 1 (nums m.edges)]
def Mor.av (m : Mor) : AV := .agg m.cs
structure Term where
  var : Int
  add : Int
  deriving DecidableEq, Inhabited
structure Slot where
  node : Int
  attr : Int
  term : Term
  deriving DecidableEq, Inhabited
def Slot.el (s : Slot) : List AV := [.int .i64 s.node, .int .i64 s.attr, .int .i64 s.term.var, .int .i64 s.term.add]
structure Tst where
  kind : Int
  left : Term
  right : Term
  deriving DecidableEq, Inhabited
def Tst.el (s : Tst) : List AV := [.int .i64 s.kind, .int .i64 s.left.var, .int .i64 s.left.add, .int .i64 s.right.var, .int .i64 s.right.add]
def slts (l : List Slot) : List (List AV) := l.map Slot.el
def tsts (l : List Tst) : List (List AV) := l.map Tst.el
structure Pat where
  graph : Graph
  slots : List Slot
  vars : Int
  tests : List Tst
  deriving DecidableEq, Inhabited
def Pat.cs (p : Pat) : List AV := [.slice 1 (nums p.graph.nodes), .slice 3 (edgs p.graph.edges), .slice 4 (slts p.slots), .int .i64 p.vars, .slice 5 (tsts p.tests)]
def Pat.av (p : Pat) : AV := .agg p.cs
inductive Cond where
  | mk (kind : Int) (kids : List Cond) (map : Mor) (pat : Pat)
  deriving Inhabited
def Cond.kind : Cond → Int | .mk k _ _ _ => k
def Cond.kids : Cond → List Cond | .mk _ k _ _ => k
def Cond.map : Cond → Mor | .mk _ _ m _ => m
def Cond.pat : Cond → Pat | .mk _ _ _ p => p
mutual
def Cond.el : Cond → List AV
  | .mk kind kids map pat => [.int .i64 kind, .slice 9 (cnds kids), .slice 1 (nums map.nodes), .slice 1 (nums map.edges), .slice 1 (nums pat.graph.nodes), .slice 3 (edgs pat.graph.edges), .slice 4 (slts pat.slots), .int .i64 pat.vars, .slice 5 (tsts pat.tests)]
def cnds : List Cond → List (List AV)
  | [] => []
  | c :: r => c.el :: cnds r
end
theorem cnds_map : ∀ l : List Cond, cnds l = l.map Cond.el
  | [] => by simp [cnds]
  | c :: r => by simp [cnds, cnds_map r]
/-- A condition's cells, told by its parts. -/
def Cond.cs (c : Cond) : List AV := [.int .i64 c.kind, .slice 9 (cnds c.kids), .slice 1 (nums c.map.nodes), .slice 1 (nums c.map.edges), .slice 1 (nums c.pat.graph.nodes), .slice 3 (edgs c.pat.graph.edges), .slice 4 (slts c.pat.slots), .int .i64 c.pat.vars, .slice 5 (tsts c.pat.tests)]
theorem Cond.el_cs (c : Cond) : c.el = c.cs := by cases c; simp [Cond.el, Cond.cs, Cond.kind, Cond.kids, Cond.map, Cond.pat]
def Cond.av (c : Cond) : AV := .agg c.cs
structure Rule where
  name : ByteArray
  left : Pat
  right : Pat
  keep : Mor
  into : Mor
  inj : Bool
  cond : Cond
def Rule.cs (r : Rule) : List AV := [.str r.name,
  .slice 1 (nums r.left.graph.nodes), .slice 3 (edgs r.left.graph.edges), .slice 4 (slts r.left.slots), .int .i64 r.left.vars, .slice 5 (tsts r.left.tests),
  .slice 1 (nums r.right.graph.nodes), .slice 3 (edgs r.right.graph.edges), .slice 4 (slts r.right.slots), .int .i64 r.right.vars, .slice 5 (tsts r.right.tests),
  .slice 1 (nums r.keep.nodes), .slice 1 (nums r.keep.edges), .slice 1 (nums r.into.nodes), .slice 1 (nums r.into.edges), .bool r.inj,
  .int .i64 r.cond.kind, .slice 9 (cnds r.cond.kids), .slice 1 (nums r.cond.map.nodes), .slice 1 (nums r.cond.map.edges), .slice 1 (nums r.cond.pat.graph.nodes), .slice 3 (edgs r.cond.pat.graph.edges), .slice 4 (slts r.cond.pat.slots), .int .i64 r.cond.pat.vars, .slice 5 (tsts r.cond.pat.tests)]
def Rule.av (r : Rule) : AV := .agg r.cs
def strs (l : List ByteArray) : List (List AV) := l.map fun s => [.str s]
structure Attr where
  name : ByteArray
  low : Int
  high : Int
  names : List ByteArray
  deriving Inhabited
def Attr.el (a : Attr) : List AV := [.str a.name, .int .i64 a.low, .int .i64 a.high, .slice 1 (strs a.names)]
def atts (l : List Attr) : List (List AV) := l.map Attr.el
structure NodeT where
  name : ByteArray
  parent : Int
  abs : Bool
  attrs : List Attr
  deriving Inhabited
def NodeT.el (n : NodeT) : List AV := [.str n.name, .int .i64 n.parent, .bool n.abs, .slice 4 (atts n.attrs)]
def ndts (l : List NodeT) : List (List AV) := l.map NodeT.el
structure EdgeT where
  name : ByteArray
  src : Int
  dst : Int
  outLow : Int
  outHigh : Int
  inLow : Int
  inHigh : Int
  deriving Inhabited
def EdgeT.el (e : EdgeT) : List AV := [.str e.name, .int .i64 e.src, .int .i64 e.dst, .int .i64 e.outLow, .int .i64 e.outHigh, .int .i64 e.inLow, .int .i64 e.inHigh]
def edts (l : List EdgeT) : List (List AV) := l.map EdgeT.el
structure Types where
  nodes : List NodeT
  edges : List EdgeT
def Types.cs (t : Types) : List AV := [.slice 4 (ndts t.nodes), .slice 7 (edts t.edges)]

section
variable {i : Nat}
theorem edgs_at {l : List Edge} {x : Edge} (h : l[i]? = some x) : (edgs l)[i]? = some x.el := by simp [edgs, h]
theorem slts_at {l : List Slot} {x : Slot} (h : l[i]? = some x) : (slts l)[i]? = some x.el := by simp [slts, h]
theorem tsts_at {l : List Tst} {x : Tst} (h : l[i]? = some x) : (tsts l)[i]? = some x.el := by simp [tsts, h]
theorem cnds_at {l : List Cond} {x : Cond} (h : l[i]? = some x) : (cnds l)[i]? = some x.cs := by simp [cnds_map, h, Cond.el_cs]
theorem ndts_at {l : List NodeT} {x : NodeT} (h : l[i]? = some x) : (ndts l)[i]? = some x.el := by simp [ndts, h]
theorem edts_at {l : List EdgeT} {x : EdgeT} (h : l[i]? = some x) : (edts l)[i]? = some x.el := by simp [edts, h]
theorem atts_at {l : List Attr} {x : Attr} (h : l[i]? = some x) : (atts l)[i]? = some x.el := by simp [atts, h]
theorem strs_at {l : List ByteArray} {x : ByteArray} (h : l[i]? = some x) : (strs l)[i]? = some [.str x] := by simp [strs, h]
end
theorem edgs_len (l : List Edge) : (edgs l).length = l.length := by simp [edgs]
theorem slts_len (l : List Slot) : (slts l).length = l.length := by simp [slts]
theorem tsts_len (l : List Tst) : (tsts l).length = l.length := by simp [tsts]
theorem cnds_len (l : List Cond) : (cnds l).length = l.length := by simp [cnds_map]
theorem ndts_len (l : List NodeT) : (ndts l).length = l.length := by simp [ndts]
theorem edts_len (l : List EdgeT) : (edts l).length = l.length := by simp [edts]
theorem atts_len (l : List Attr) : (atts l).length = l.length := by simp [atts]
theorem strs_len (l : List ByteArray) : (strs l).length = l.length := by simp [strs]

/-- The first place at which p holds, or -1. -/
def idx {α : Type} (p : α → Bool) (l : List α) : Int := match l.findIdx? p with
  | some i => i
  | none => -1
theorem idx_none {α : Type} {p : α → Bool} {l : List α} (h : ∀ x ∈ l, p x = false) : idx p l = -1 := by
  have : l.findIdx? p = none := by rw [List.findIdx?_eq_none_iff]; exact h
  simp [idx, this]
theorem idx_some {α : Type} {p : α → Bool} {l : List α} {i : Nat} {x : α} (h : ∀ j y, j < i → l[j]? = some y → p y = false) (hx : l[i]? = some x) (hp : p x = true) : idx p l = i := by
  have : l.findIdx? p = some i := by
    rw [List.findIdx?_eq_some_iff_getElem]
    obtain ⟨h1, h2⟩ := List.getElem?_eq_some_iff.1 hx
    exact ⟨h1, by rw [h2]; exact hp, fun j hj => by simpa using h j l[j] hj (List.getElem?_eq_getElem _)⟩
  simp [idx, this]
theorem idx_any {α : Type} (p : α → Bool) (l : List α) : decide (0 ≤ idx p l) = l.any p := by
  unfold idx
  cases h : l.findIdx? p with
  | none =>
    rw [List.findIdx?_eq_none_iff] at h
    have : l.any p = false := by rw [List.any_eq_false]; intro x hx; simp [h x hx]
    rw [this]; rfl
  | some i =>
    rw [List.findIdx?_eq_some_iff_getElem] at h
    obtain ⟨h1, h2, _⟩ := h
    have : l.any p = true := List.any_eq_true.2 ⟨l[i], List.getElem_mem h1, h2⟩
    rw [this]; simp
/-- Nothing so far, and nothing here: nothing up to here. -/
theorem none_upto {α : Type} {p : α → Bool} {l : List α} {i : Nat} {x : α} (h : ∀ j y, j < i → l[j]? = some y → p y = false) (hx : l[i]? = some x) (hp : p x = false) : ∀ j y, j < i + 1 → l[j]? = some y → p y = false := by
  intro j y hj hy
  rcases Nat.lt_or_ge j i with h' | h'
  · exact h j y h' hy
  · have : j = i := by omega
    subst this; rw [hx] at hy; cases hy; exact hp
theorem none_all {α : Type} {p : α → Bool} {l : List α} {i : Nat} (h : ∀ j y, j < i → l[j]? = some y → p y = false) (hi : l.length ≤ i) : ∀ x ∈ l, p x = false := by
  intro x hx
  obtain ⟨j, hj⟩ := List.mem_iff_getElem?.1 hx
  exact h j x (by have := (List.getElem?_eq_some_iff.1 hj).1; omega) hj
theorem step_num {i n : Nat} (h : i < n) (hn : n ≤ 9223372036854775807) : AV.int .i64 (IntKind.i64.wrap ((i : Int) + 1)) = AV.int .i64 ((i + 1 : Nat) : Int) := by
  rw [wrap_small (by omega) (by omega)]; simp
end Go.Av.Z

/- The searches of Go's library in lists. -/
namespace Go.Av.Z
open Go.Proofs

theorem c103 (l : List Int) (f : Nat) (p : Int → Bool) (hp : ∀ x ∈ l, Con P f [] [AV.int .i64 x] (.bool (p x)) []) : Con P 103 [] [.slice 1 (nums l), .fn f []] (.int .i64 (idx p l)) [] := by
  refine go Tryz.func103 (by rfl) rfl rfl rfl fun hl => ?_
  have hn : l.length ≤ 9223372036854775807 := by
    have := hl (nums l).length (by simp [lensL, lens])
    rwa [nums_len] at this
  (conv => whnf); repeat (refine w ?_; conv => whnf)
  refine loop (fun i : Nat => mkSt [(8, .int .i64 i), (7, .int .i64 l.length), (0, .slice 1 (nums l)), (1, .fn f [])] []) (fun i => i ≤ l.length ∧ ∀ j y, j < i → l[j]? = some y → p y = false) (fun i => l.length - i) 0 ⟨Nat.zero_le _, fun j y h => by omega⟩
    (le_of [] rfl rfl rfl ⟨rfl, by rw [nums_len]; rfl, rfl, rfl, trivial⟩ trivial) ?_
  rintro i ⟨hi, hno⟩
  (conv => whnf); repeat (refine w ?_; conv => whnf)
  refine ⟨fun hlt => ?_, fun hge => ?_⟩
  · have hlt : i < l.length := by simpa using hlt
    have hx : l[i]? = some l[i] := List.getElem?_eq_getElem hlt
    (conv => whnf); repeat (refine w ?_; conv => whnf)
    refine ⟨by omega, _, nums_at hx, ?_⟩
    (conv => whnf); repeat (refine w ?_; conv => whnf)
    refine ⟨_, _, hp l[i] (List.getElem_mem hlt), ?_⟩
    (conv => whnf); repeat (refine w ?_; conv => whnf)
    refine ⟨fun ht => ?_, fun hf => ?_⟩
    · (conv => whnf); repeat (refine w ?_; conv => whnf)
      refine fin_frz TT ?_ rfl
      rw [idx_some hno hx ht]; rfl
    · (conv => whnf); repeat (refine w ?_; conv => whnf)
      exact ⟨i + 1, ⟨hlt, none_upto hno hx hf⟩, by show l.length - (i + 1) < l.length - i; omega, le_of [] rfl rfl rfl ⟨step_num hlt hn, rfl, rfl, rfl, trivial⟩ trivial⟩
  · have hge : ¬ i < l.length := by simpa using hge
    (conv => whnf); repeat (refine w ?_; conv => whnf)
    refine fin_frz TT ?_ rfl
    rw [idx_none (none_all hno (by omega))]; rfl
theorem c66 (l : List Int) (f : Nat) (p : Int → Bool) (hp : ∀ x ∈ l, Con P f [] [AV.int .i64 x] (.bool (p x)) []) : Con P 66 [] [.slice 1 (nums l), .fn f []] (.bool (l.any p)) [] := by
  refine go Tryz.func66 (by rfl) rfl rfl rfl fun hl => ?_
  (conv => whnf); repeat (refine w ?_; conv => whnf)
  refine ⟨_, _, c103 l f p hp, ?_⟩
  (conv => whnf); repeat (refine w ?_; conv => whnf)
  refine fin_frz TT ?_ rfl
  rw [← idx_any]; rfl

theorem c104 (l : List Edge) (f : Nat) (p : Edge → Bool) (hp : ∀ x ∈ l, Con P f [] [AV.agg x.el] (.bool (p x)) []) : Con P 104 [] [.slice 3 (edgs l), .fn f []] (.int .i64 (idx p l)) [] := by
  refine go Tryz.func104 (by rfl) rfl rfl rfl fun hl => ?_
  have hn : l.length ≤ 9223372036854775807 := by
    have := hl (edgs l).length (by simp [lensL, lens])
    rwa [edgs_len] at this
  (conv => whnf); repeat (refine w ?_; conv => whnf)
  refine loop (fun i : Nat => mkSt [(8, .int .i64 i), (7, .int .i64 l.length), (0, .slice 3 (edgs l)), (1, .fn f [])] []) (fun i => i ≤ l.length ∧ ∀ j y, j < i → l[j]? = some y → p y = false) (fun i => l.length - i) 0 ⟨Nat.zero_le _, fun j y h => by omega⟩
    (le_of [] rfl rfl rfl ⟨rfl, by rw [edgs_len]; rfl, rfl, rfl, trivial⟩ trivial) ?_
  rintro i ⟨hi, hno⟩
  (conv => whnf); repeat (refine w ?_; conv => whnf)
  refine ⟨fun hlt => ?_, fun hge => ?_⟩
  · have hlt : i < l.length := by simpa using hlt
    have hx : l[i]? = some l[i] := List.getElem?_eq_getElem hlt
    (conv => whnf); repeat (refine w ?_; conv => whnf)
    refine ⟨by omega, _, edgs_at hx, ?_⟩
    (conv => whnf); repeat (refine w ?_; conv => whnf)
    refine ⟨_, _, hp l[i] (List.getElem_mem hlt), ?_⟩
    (conv => whnf); repeat (refine w ?_; conv => whnf)
    refine ⟨fun ht => ?_, fun hf => ?_⟩
    · (conv => whnf); repeat (refine w ?_; conv => whnf)
      refine fin_frz TT ?_ rfl
      rw [idx_some hno hx ht]; rfl
    · (conv => whnf); repeat (refine w ?_; conv => whnf)
      exact ⟨i + 1, ⟨hlt, none_upto hno hx hf⟩, by show l.length - (i + 1) < l.length - i; omega, le_of [] rfl rfl rfl ⟨step_num hlt hn, rfl, rfl, rfl, trivial⟩ trivial⟩
  · have hge : ¬ i < l.length := by simpa using hge
    (conv => whnf); repeat (refine w ?_; conv => whnf)
    refine fin_frz TT ?_ rfl
    rw [idx_none (none_all hno (by omega))]; rfl
theorem c69 (l : List Edge) (f : Nat) (p : Edge → Bool) (hp : ∀ x ∈ l, Con P f [] [AV.agg x.el] (.bool (p x)) []) : Con P 69 [] [.slice 3 (edgs l), .fn f []] (.bool (l.any p)) [] := by
  refine go Tryz.func69 (by rfl) rfl rfl rfl fun hl => ?_
  (conv => whnf); repeat (refine w ?_; conv => whnf)
  refine ⟨_, _, c104 l f p hp, ?_⟩
  (conv => whnf); repeat (refine w ?_; conv => whnf)
  refine fin_frz TT ?_ rfl
  rw [← idx_any]; rfl

theorem c104a (cs : List AV) (l : List Edge) (f : Nat) (p : Edge → Bool) (hp : ∀ x ∈ l, Con P f [] (AV.agg x.el :: [.fptr cs]) (.bool (p x)) []) : Con P 104 [] [.slice 3 (edgs l), .fn f [.fptr cs]] (.int .i64 (idx p l)) [] := by
  refine go Tryz.func104 (by rfl) rfl rfl rfl fun hl => ?_
  have hn : l.length ≤ 9223372036854775807 := by
    have := hl (edgs l).length (by simp [lensL, lens])
    rwa [edgs_len] at this
  (conv => whnf); repeat (refine w ?_; conv => whnf)
  refine loop (fun i : Nat => mkSt [(8, .int .i64 i), (7, .int .i64 l.length), (0, .slice 3 (edgs l)), (1, .fn f [.fptr cs])] []) (fun i => i ≤ l.length ∧ ∀ j y, j < i → l[j]? = some y → p y = false) (fun i => l.length - i) 0 ⟨Nat.zero_le _, fun j y h => by omega⟩
    (le_of [] rfl rfl rfl ⟨rfl, by rw [edgs_len]; rfl, rfl, rfl, trivial⟩ trivial) ?_
  rintro i ⟨hi, hno⟩
  (conv => whnf); repeat (refine w ?_; conv => whnf)
  refine ⟨fun hlt => ?_, fun hge => ?_⟩
  · have hlt : i < l.length := by simpa using hlt
    have hx : l[i]? = some l[i] := List.getElem?_eq_getElem hlt
    (conv => whnf); repeat (refine w ?_; conv => whnf)
    refine ⟨by omega, _, edgs_at hx, ?_⟩
    (conv => whnf); repeat (refine w ?_; conv => whnf)
    refine ⟨_, _, hp l[i] (List.getElem_mem hlt), ?_⟩
    (conv => whnf); repeat (refine w ?_; conv => whnf)
    refine ⟨fun ht => ?_, fun hf => ?_⟩
    · (conv => whnf); repeat (refine w ?_; conv => whnf)
      refine fin_frz TT ?_ rfl
      rw [idx_some hno hx ht]; rfl
    · (conv => whnf); repeat (refine w ?_; conv => whnf)
      exact ⟨i + 1, ⟨hlt, none_upto hno hx hf⟩, by show l.length - (i + 1) < l.length - i; omega, le_of [] rfl rfl rfl ⟨step_num hlt hn, rfl, rfl, rfl, trivial⟩ trivial⟩
  · have hge : ¬ i < l.length := by simpa using hge
    (conv => whnf); repeat (refine w ?_; conv => whnf)
    refine fin_frz TT ?_ rfl
    rw [idx_none (none_all hno (by omega))]; rfl
theorem c69a (cs : List AV) (l : List Edge) (f : Nat) (p : Edge → Bool) (hp : ∀ x ∈ l, Con P f [] (AV.agg x.el :: [.fptr cs]) (.bool (p x)) []) : Con P 69 [] [.slice 3 (edgs l), .fn f [.fptr cs]] (.bool (l.any p)) [] := by
  refine go Tryz.func69 (by rfl) rfl rfl rfl fun hl => ?_
  (conv => whnf); repeat (refine w ?_; conv => whnf)
  refine ⟨_, _, c104a cs l f p hp, ?_⟩
  (conv => whnf); repeat (refine w ?_; conv => whnf)
  refine fin_frz TT ?_ rfl
  rw [← idx_any]; rfl

theorem c104b (cs ds : List AV) (l : List Edge) (f : Nat) (p : Edge → Bool) (hp : ∀ x ∈ l, Con P f [] (AV.agg x.el :: [.fptr cs, .fptr ds]) (.bool (p x)) []) : Con P 104 [] [.slice 3 (edgs l), .fn f [.fptr cs, .fptr ds]] (.int .i64 (idx p l)) [] := by
  refine go Tryz.func104 (by rfl) rfl rfl rfl fun hl => ?_
  have hn : l.length ≤ 9223372036854775807 := by
    have := hl (edgs l).length (by simp [lensL, lens])
    rwa [edgs_len] at this
  (conv => whnf); repeat (refine w ?_; conv => whnf)
  refine loop (fun i : Nat => mkSt [(8, .int .i64 i), (7, .int .i64 l.length), (0, .slice 3 (edgs l)), (1, .fn f [.fptr cs, .fptr ds])] []) (fun i => i ≤ l.length ∧ ∀ j y, j < i → l[j]? = some y → p y = false) (fun i => l.length - i) 0 ⟨Nat.zero_le _, fun j y h => by omega⟩
    (le_of [] rfl rfl rfl ⟨rfl, by rw [edgs_len]; rfl, rfl, rfl, trivial⟩ trivial) ?_
  rintro i ⟨hi, hno⟩
  (conv => whnf); repeat (refine w ?_; conv => whnf)
  refine ⟨fun hlt => ?_, fun hge => ?_⟩
  · have hlt : i < l.length := by simpa using hlt
    have hx : l[i]? = some l[i] := List.getElem?_eq_getElem hlt
    (conv => whnf); repeat (refine w ?_; conv => whnf)
    refine ⟨by omega, _, edgs_at hx, ?_⟩
    (conv => whnf); repeat (refine w ?_; conv => whnf)
    refine ⟨_, _, hp l[i] (List.getElem_mem hlt), ?_⟩
    (conv => whnf); repeat (refine w ?_; conv => whnf)
    refine ⟨fun ht => ?_, fun hf => ?_⟩
    · (conv => whnf); repeat (refine w ?_; conv => whnf)
      refine fin_frz TT ?_ rfl
      rw [idx_some hno hx ht]; rfl
    · (conv => whnf); repeat (refine w ?_; conv => whnf)
      exact ⟨i + 1, ⟨hlt, none_upto hno hx hf⟩, by show l.length - (i + 1) < l.length - i; omega, le_of [] rfl rfl rfl ⟨step_num hlt hn, rfl, rfl, rfl, trivial⟩ trivial⟩
  · have hge : ¬ i < l.length := by simpa using hge
    (conv => whnf); repeat (refine w ?_; conv => whnf)
    refine fin_frz TT ?_ rfl
    rw [idx_none (none_all hno (by omega))]; rfl
theorem c69b (cs ds : List AV) (l : List Edge) (f : Nat) (p : Edge → Bool) (hp : ∀ x ∈ l, Con P f [] (AV.agg x.el :: [.fptr cs, .fptr ds]) (.bool (p x)) []) : Con P 69 [] [.slice 3 (edgs l), .fn f [.fptr cs, .fptr ds]] (.bool (l.any p)) [] := by
  refine go Tryz.func69 (by rfl) rfl rfl rfl fun hl => ?_
  (conv => whnf); repeat (refine w ?_; conv => whnf)
  refine ⟨_, _, c104b cs ds l f p hp, ?_⟩
  (conv => whnf); repeat (refine w ?_; conv => whnf)
  refine fin_frz TT ?_ rfl
  rw [← idx_any]; rfl

theorem c137 (l : List NodeT) (f : Nat) (p : NodeT → Bool) (hp : ∀ x ∈ l, Con P f [] [AV.agg x.el] (.bool (p x)) []) : Con P 137 [] [.slice 4 (ndts l), .fn f []] (.int .i64 (idx p l)) [] := by
  refine go Tryz.func137 (by rfl) rfl rfl rfl fun hl => ?_
  have hn : l.length ≤ 9223372036854775807 := by
    have := hl (ndts l).length (by simp [lensL, lens])
    rwa [ndts_len] at this
  (conv => whnf); repeat (refine w ?_; conv => whnf)
  refine loop (fun i : Nat => mkSt [(8, .int .i64 i), (7, .int .i64 l.length), (0, .slice 4 (ndts l)), (1, .fn f [])] []) (fun i => i ≤ l.length ∧ ∀ j y, j < i → l[j]? = some y → p y = false) (fun i => l.length - i) 0 ⟨Nat.zero_le _, fun j y h => by omega⟩
    (le_of [] rfl rfl rfl ⟨rfl, by rw [ndts_len]; rfl, rfl, rfl, trivial⟩ trivial) ?_
  rintro i ⟨hi, hno⟩
  (conv => whnf); repeat (refine w ?_; conv => whnf)
  refine ⟨fun hlt => ?_, fun hge => ?_⟩
  · have hlt : i < l.length := by simpa using hlt
    have hx : l[i]? = some l[i] := List.getElem?_eq_getElem hlt
    (conv => whnf); repeat (refine w ?_; conv => whnf)
    refine ⟨by omega, _, ndts_at hx, ?_⟩
    (conv => whnf); repeat (refine w ?_; conv => whnf)
    refine ⟨_, _, hp l[i] (List.getElem_mem hlt), ?_⟩
    (conv => whnf); repeat (refine w ?_; conv => whnf)
    refine ⟨fun ht => ?_, fun hf => ?_⟩
    · (conv => whnf); repeat (refine w ?_; conv => whnf)
      refine fin_frz TT ?_ rfl
      rw [idx_some hno hx ht]; rfl
    · (conv => whnf); repeat (refine w ?_; conv => whnf)
      exact ⟨i + 1, ⟨hlt, none_upto hno hx hf⟩, by show l.length - (i + 1) < l.length - i; omega, le_of [] rfl rfl rfl ⟨step_num hlt hn, rfl, rfl, rfl, trivial⟩ trivial⟩
  · have hge : ¬ i < l.length := by simpa using hge
    (conv => whnf); repeat (refine w ?_; conv => whnf)
    refine fin_frz TT ?_ rfl
    rw [idx_none (none_all hno (by omega))]; rfl
theorem c98 (l : List NodeT) (f : Nat) (p : NodeT → Bool) (hp : ∀ x ∈ l, Con P f [] [AV.agg x.el] (.bool (p x)) []) : Con P 98 [] [.slice 4 (ndts l), .fn f []] (.bool (l.any p)) [] := by
  refine go Tryz.func98 (by rfl) rfl rfl rfl fun hl => ?_
  (conv => whnf); repeat (refine w ?_; conv => whnf)
  refine ⟨_, _, c137 l f p hp, ?_⟩
  (conv => whnf); repeat (refine w ?_; conv => whnf)
  refine fin_frz TT ?_ rfl
  rw [← idx_any]; rfl

theorem c137a (cs : List AV) (l : List NodeT) (f : Nat) (p : NodeT → Bool) (hp : ∀ x ∈ l, Con P f [] (AV.agg x.el :: [.fptr cs]) (.bool (p x)) []) : Con P 137 [] [.slice 4 (ndts l), .fn f [.fptr cs]] (.int .i64 (idx p l)) [] := by
  refine go Tryz.func137 (by rfl) rfl rfl rfl fun hl => ?_
  have hn : l.length ≤ 9223372036854775807 := by
    have := hl (ndts l).length (by simp [lensL, lens])
    rwa [ndts_len] at this
  (conv => whnf); repeat (refine w ?_; conv => whnf)
  refine loop (fun i : Nat => mkSt [(8, .int .i64 i), (7, .int .i64 l.length), (0, .slice 4 (ndts l)), (1, .fn f [.fptr cs])] []) (fun i => i ≤ l.length ∧ ∀ j y, j < i → l[j]? = some y → p y = false) (fun i => l.length - i) 0 ⟨Nat.zero_le _, fun j y h => by omega⟩
    (le_of [] rfl rfl rfl ⟨rfl, by rw [ndts_len]; rfl, rfl, rfl, trivial⟩ trivial) ?_
  rintro i ⟨hi, hno⟩
  (conv => whnf); repeat (refine w ?_; conv => whnf)
  refine ⟨fun hlt => ?_, fun hge => ?_⟩
  · have hlt : i < l.length := by simpa using hlt
    have hx : l[i]? = some l[i] := List.getElem?_eq_getElem hlt
    (conv => whnf); repeat (refine w ?_; conv => whnf)
    refine ⟨by omega, _, ndts_at hx, ?_⟩
    (conv => whnf); repeat (refine w ?_; conv => whnf)
    refine ⟨_, _, hp l[i] (List.getElem_mem hlt), ?_⟩
    (conv => whnf); repeat (refine w ?_; conv => whnf)
    refine ⟨fun ht => ?_, fun hf => ?_⟩
    · (conv => whnf); repeat (refine w ?_; conv => whnf)
      refine fin_frz TT ?_ rfl
      rw [idx_some hno hx ht]; rfl
    · (conv => whnf); repeat (refine w ?_; conv => whnf)
      exact ⟨i + 1, ⟨hlt, none_upto hno hx hf⟩, by show l.length - (i + 1) < l.length - i; omega, le_of [] rfl rfl rfl ⟨step_num hlt hn, rfl, rfl, rfl, trivial⟩ trivial⟩
  · have hge : ¬ i < l.length := by simpa using hge
    (conv => whnf); repeat (refine w ?_; conv => whnf)
    refine fin_frz TT ?_ rfl
    rw [idx_none (none_all hno (by omega))]; rfl
theorem c98a (cs : List AV) (l : List NodeT) (f : Nat) (p : NodeT → Bool) (hp : ∀ x ∈ l, Con P f [] (AV.agg x.el :: [.fptr cs]) (.bool (p x)) []) : Con P 98 [] [.slice 4 (ndts l), .fn f [.fptr cs]] (.bool (l.any p)) [] := by
  refine go Tryz.func98 (by rfl) rfl rfl rfl fun hl => ?_
  (conv => whnf); repeat (refine w ?_; conv => whnf)
  refine ⟨_, _, c137a cs l f p hp, ?_⟩
  (conv => whnf); repeat (refine w ?_; conv => whnf)
  refine fin_frz TT ?_ rfl
  rw [← idx_any]; rfl

theorem c137b (cs ds : List AV) (l : List NodeT) (f : Nat) (p : NodeT → Bool) (hp : ∀ x ∈ l, Con P f [] (AV.agg x.el :: [.fptr cs, .fptr ds]) (.bool (p x)) []) : Con P 137 [] [.slice 4 (ndts l), .fn f [.fptr cs, .fptr ds]] (.int .i64 (idx p l)) [] := by
  refine go Tryz.func137 (by rfl) rfl rfl rfl fun hl => ?_
  have hn : l.length ≤ 9223372036854775807 := by
    have := hl (ndts l).length (by simp [lensL, lens])
    rwa [ndts_len] at this
  (conv => whnf); repeat (refine w ?_; conv => whnf)
  refine loop (fun i : Nat => mkSt [(8, .int .i64 i), (7, .int .i64 l.length), (0, .slice 4 (ndts l)), (1, .fn f [.fptr cs, .fptr ds])] []) (fun i => i ≤ l.length ∧ ∀ j y, j < i → l[j]? = some y → p y = false) (fun i => l.length - i) 0 ⟨Nat.zero_le _, fun j y h => by omega⟩
    (le_of [] rfl rfl rfl ⟨rfl, by rw [ndts_len]; rfl, rfl, rfl, trivial⟩ trivial) ?_
  rintro i ⟨hi, hno⟩
  (conv => whnf); repeat (refine w ?_; conv => whnf)
  refine ⟨fun hlt => ?_, fun hge => ?_⟩
  · have hlt : i < l.length := by simpa using hlt
    have hx : l[i]? = some l[i] := List.getElem?_eq_getElem hlt
    (conv => whnf); repeat (refine w ?_; conv => whnf)
    refine ⟨by omega, _, ndts_at hx, ?_⟩
    (conv => whnf); repeat (refine w ?_; conv => whnf)
    refine ⟨_, _, hp l[i] (List.getElem_mem hlt), ?_⟩
    (conv => whnf); repeat (refine w ?_; conv => whnf)
    refine ⟨fun ht => ?_, fun hf => ?_⟩
    · (conv => whnf); repeat (refine w ?_; conv => whnf)
      refine fin_frz TT ?_ rfl
      rw [idx_some hno hx ht]; rfl
    · (conv => whnf); repeat (refine w ?_; conv => whnf)
      exact ⟨i + 1, ⟨hlt, none_upto hno hx hf⟩, by show l.length - (i + 1) < l.length - i; omega, le_of [] rfl rfl rfl ⟨step_num hlt hn, rfl, rfl, rfl, trivial⟩ trivial⟩
  · have hge : ¬ i < l.length := by simpa using hge
    (conv => whnf); repeat (refine w ?_; conv => whnf)
    refine fin_frz TT ?_ rfl
    rw [idx_none (none_all hno (by omega))]; rfl
theorem c98b (cs ds : List AV) (l : List NodeT) (f : Nat) (p : NodeT → Bool) (hp : ∀ x ∈ l, Con P f [] (AV.agg x.el :: [.fptr cs, .fptr ds]) (.bool (p x)) []) : Con P 98 [] [.slice 4 (ndts l), .fn f [.fptr cs, .fptr ds]] (.bool (l.any p)) [] := by
  refine go Tryz.func98 (by rfl) rfl rfl rfl fun hl => ?_
  (conv => whnf); repeat (refine w ?_; conv => whnf)
  refine ⟨_, _, c137b cs ds l f p hp, ?_⟩
  (conv => whnf); repeat (refine w ?_; conv => whnf)
  refine fin_frz TT ?_ rfl
  rw [← idx_any]; rfl

theorem c178 (l : List Attr) (f : Nat) (p : Attr → Bool) (hp : ∀ x ∈ l, Con P f [] [AV.agg x.el] (.bool (p x)) []) : Con P 178 [] [.slice 4 (atts l), .fn f []] (.int .i64 (idx p l)) [] := by
  refine go Tryz.func178 (by rfl) rfl rfl rfl fun hl => ?_
  have hn : l.length ≤ 9223372036854775807 := by
    have := hl (atts l).length (by simp [lensL, lens])
    rwa [atts_len] at this
  (conv => whnf); repeat (refine w ?_; conv => whnf)
  refine loop (fun i : Nat => mkSt [(8, .int .i64 i), (7, .int .i64 l.length), (0, .slice 4 (atts l)), (1, .fn f [])] []) (fun i => i ≤ l.length ∧ ∀ j y, j < i → l[j]? = some y → p y = false) (fun i => l.length - i) 0 ⟨Nat.zero_le _, fun j y h => by omega⟩
    (le_of [] rfl rfl rfl ⟨rfl, by rw [atts_len]; rfl, rfl, rfl, trivial⟩ trivial) ?_
  rintro i ⟨hi, hno⟩
  (conv => whnf); repeat (refine w ?_; conv => whnf)
  refine ⟨fun hlt => ?_, fun hge => ?_⟩
  · have hlt : i < l.length := by simpa using hlt
    have hx : l[i]? = some l[i] := List.getElem?_eq_getElem hlt
    (conv => whnf); repeat (refine w ?_; conv => whnf)
    refine ⟨by omega, _, atts_at hx, ?_⟩
    (conv => whnf); repeat (refine w ?_; conv => whnf)
    refine ⟨_, _, hp l[i] (List.getElem_mem hlt), ?_⟩
    (conv => whnf); repeat (refine w ?_; conv => whnf)
    refine ⟨fun ht => ?_, fun hf => ?_⟩
    · (conv => whnf); repeat (refine w ?_; conv => whnf)
      refine fin_frz TT ?_ rfl
      rw [idx_some hno hx ht]; rfl
    · (conv => whnf); repeat (refine w ?_; conv => whnf)
      exact ⟨i + 1, ⟨hlt, none_upto hno hx hf⟩, by show l.length - (i + 1) < l.length - i; omega, le_of [] rfl rfl rfl ⟨step_num hlt hn, rfl, rfl, rfl, trivial⟩ trivial⟩
  · have hge : ¬ i < l.length := by simpa using hge
    (conv => whnf); repeat (refine w ?_; conv => whnf)
    refine fin_frz TT ?_ rfl
    rw [idx_none (none_all hno (by omega))]; rfl
theorem c155 (l : List Attr) (f : Nat) (p : Attr → Bool) (hp : ∀ x ∈ l, Con P f [] [AV.agg x.el] (.bool (p x)) []) : Con P 155 [] [.slice 4 (atts l), .fn f []] (.bool (l.any p)) [] := by
  refine go Tryz.func155 (by rfl) rfl rfl rfl fun hl => ?_
  (conv => whnf); repeat (refine w ?_; conv => whnf)
  refine ⟨_, _, c178 l f p hp, ?_⟩
  (conv => whnf); repeat (refine w ?_; conv => whnf)
  refine fin_frz TT ?_ rfl
  rw [← idx_any]; rfl

theorem c178a (cs : List AV) (l : List Attr) (f : Nat) (p : Attr → Bool) (hp : ∀ x ∈ l, Con P f [] (AV.agg x.el :: [.fptr cs]) (.bool (p x)) []) : Con P 178 [] [.slice 4 (atts l), .fn f [.fptr cs]] (.int .i64 (idx p l)) [] := by
  refine go Tryz.func178 (by rfl) rfl rfl rfl fun hl => ?_
  have hn : l.length ≤ 9223372036854775807 := by
    have := hl (atts l).length (by simp [lensL, lens])
    rwa [atts_len] at this
  (conv => whnf); repeat (refine w ?_; conv => whnf)
  refine loop (fun i : Nat => mkSt [(8, .int .i64 i), (7, .int .i64 l.length), (0, .slice 4 (atts l)), (1, .fn f [.fptr cs])] []) (fun i => i ≤ l.length ∧ ∀ j y, j < i → l[j]? = some y → p y = false) (fun i => l.length - i) 0 ⟨Nat.zero_le _, fun j y h => by omega⟩
    (le_of [] rfl rfl rfl ⟨rfl, by rw [atts_len]; rfl, rfl, rfl, trivial⟩ trivial) ?_
  rintro i ⟨hi, hno⟩
  (conv => whnf); repeat (refine w ?_; conv => whnf)
  refine ⟨fun hlt => ?_, fun hge => ?_⟩
  · have hlt : i < l.length := by simpa using hlt
    have hx : l[i]? = some l[i] := List.getElem?_eq_getElem hlt
    (conv => whnf); repeat (refine w ?_; conv => whnf)
    refine ⟨by omega, _, atts_at hx, ?_⟩
    (conv => whnf); repeat (refine w ?_; conv => whnf)
    refine ⟨_, _, hp l[i] (List.getElem_mem hlt), ?_⟩
    (conv => whnf); repeat (refine w ?_; conv => whnf)
    refine ⟨fun ht => ?_, fun hf => ?_⟩
    · (conv => whnf); repeat (refine w ?_; conv => whnf)
      refine fin_frz TT ?_ rfl
      rw [idx_some hno hx ht]; rfl
    · (conv => whnf); repeat (refine w ?_; conv => whnf)
      exact ⟨i + 1, ⟨hlt, none_upto hno hx hf⟩, by show l.length - (i + 1) < l.length - i; omega, le_of [] rfl rfl rfl ⟨step_num hlt hn, rfl, rfl, rfl, trivial⟩ trivial⟩
  · have hge : ¬ i < l.length := by simpa using hge
    (conv => whnf); repeat (refine w ?_; conv => whnf)
    refine fin_frz TT ?_ rfl
    rw [idx_none (none_all hno (by omega))]; rfl
theorem c155a (cs : List AV) (l : List Attr) (f : Nat) (p : Attr → Bool) (hp : ∀ x ∈ l, Con P f [] (AV.agg x.el :: [.fptr cs]) (.bool (p x)) []) : Con P 155 [] [.slice 4 (atts l), .fn f [.fptr cs]] (.bool (l.any p)) [] := by
  refine go Tryz.func155 (by rfl) rfl rfl rfl fun hl => ?_
  (conv => whnf); repeat (refine w ?_; conv => whnf)
  refine ⟨_, _, c178a cs l f p hp, ?_⟩
  (conv => whnf); repeat (refine w ?_; conv => whnf)
  refine fin_frz TT ?_ rfl
  rw [← idx_any]; rfl

theorem c178b (cs ds : List AV) (l : List Attr) (f : Nat) (p : Attr → Bool) (hp : ∀ x ∈ l, Con P f [] (AV.agg x.el :: [.fptr cs, .fptr ds]) (.bool (p x)) []) : Con P 178 [] [.slice 4 (atts l), .fn f [.fptr cs, .fptr ds]] (.int .i64 (idx p l)) [] := by
  refine go Tryz.func178 (by rfl) rfl rfl rfl fun hl => ?_
  have hn : l.length ≤ 9223372036854775807 := by
    have := hl (atts l).length (by simp [lensL, lens])
    rwa [atts_len] at this
  (conv => whnf); repeat (refine w ?_; conv => whnf)
  refine loop (fun i : Nat => mkSt [(8, .int .i64 i), (7, .int .i64 l.length), (0, .slice 4 (atts l)), (1, .fn f [.fptr cs, .fptr ds])] []) (fun i => i ≤ l.length ∧ ∀ j y, j < i → l[j]? = some y → p y = false) (fun i => l.length - i) 0 ⟨Nat.zero_le _, fun j y h => by omega⟩
    (le_of [] rfl rfl rfl ⟨rfl, by rw [atts_len]; rfl, rfl, rfl, trivial⟩ trivial) ?_
  rintro i ⟨hi, hno⟩
  (conv => whnf); repeat (refine w ?_; conv => whnf)
  refine ⟨fun hlt => ?_, fun hge => ?_⟩
  · have hlt : i < l.length := by simpa using hlt
    have hx : l[i]? = some l[i] := List.getElem?_eq_getElem hlt
    (conv => whnf); repeat (refine w ?_; conv => whnf)
    refine ⟨by omega, _, atts_at hx, ?_⟩
    (conv => whnf); repeat (refine w ?_; conv => whnf)
    refine ⟨_, _, hp l[i] (List.getElem_mem hlt), ?_⟩
    (conv => whnf); repeat (refine w ?_; conv => whnf)
    refine ⟨fun ht => ?_, fun hf => ?_⟩
    · (conv => whnf); repeat (refine w ?_; conv => whnf)
      refine fin_frz TT ?_ rfl
      rw [idx_some hno hx ht]; rfl
    · (conv => whnf); repeat (refine w ?_; conv => whnf)
      exact ⟨i + 1, ⟨hlt, none_upto hno hx hf⟩, by show l.length - (i + 1) < l.length - i; omega, le_of [] rfl rfl rfl ⟨step_num hlt hn, rfl, rfl, rfl, trivial⟩ trivial⟩
  · have hge : ¬ i < l.length := by simpa using hge
    (conv => whnf); repeat (refine w ?_; conv => whnf)
    refine fin_frz TT ?_ rfl
    rw [idx_none (none_all hno (by omega))]; rfl
theorem c155b (cs ds : List AV) (l : List Attr) (f : Nat) (p : Attr → Bool) (hp : ∀ x ∈ l, Con P f [] (AV.agg x.el :: [.fptr cs, .fptr ds]) (.bool (p x)) []) : Con P 155 [] [.slice 4 (atts l), .fn f [.fptr cs, .fptr ds]] (.bool (l.any p)) [] := by
  refine go Tryz.func155 (by rfl) rfl rfl rfl fun hl => ?_
  (conv => whnf); repeat (refine w ?_; conv => whnf)
  refine ⟨_, _, c178b cs ds l f p hp, ?_⟩
  (conv => whnf); repeat (refine w ?_; conv => whnf)
  refine fin_frz TT ?_ rfl
  rw [← idx_any]; rfl

theorem c158 (l : List EdgeT) (f : Nat) (p : EdgeT → Bool) (hp : ∀ x ∈ l, Con P f [] [AV.agg x.el] (.bool (p x)) []) : Con P 158 [] [.slice 7 (edts l), .fn f []] (.int .i64 (idx p l)) [] := by
  refine go Tryz.func158 (by rfl) rfl rfl rfl fun hl => ?_
  have hn : l.length ≤ 9223372036854775807 := by
    have := hl (edts l).length (by simp [lensL, lens])
    rwa [edts_len] at this
  (conv => whnf); repeat (refine w ?_; conv => whnf)
  refine loop (fun i : Nat => mkSt [(8, .int .i64 i), (7, .int .i64 l.length), (0, .slice 7 (edts l)), (1, .fn f [])] []) (fun i => i ≤ l.length ∧ ∀ j y, j < i → l[j]? = some y → p y = false) (fun i => l.length - i) 0 ⟨Nat.zero_le _, fun j y h => by omega⟩
    (le_of [] rfl rfl rfl ⟨rfl, by rw [edts_len]; rfl, rfl, rfl, trivial⟩ trivial) ?_
  rintro i ⟨hi, hno⟩
  (conv => whnf); repeat (refine w ?_; conv => whnf)
  refine ⟨fun hlt => ?_, fun hge => ?_⟩
  · have hlt : i < l.length := by simpa using hlt
    have hx : l[i]? = some l[i] := List.getElem?_eq_getElem hlt
    (conv => whnf); repeat (refine w ?_; conv => whnf)
    refine ⟨by omega, _, edts_at hx, ?_⟩
    (conv => whnf); repeat (refine w ?_; conv => whnf)
    refine ⟨_, _, hp l[i] (List.getElem_mem hlt), ?_⟩
    (conv => whnf); repeat (refine w ?_; conv => whnf)
    refine ⟨fun ht => ?_, fun hf => ?_⟩
    · (conv => whnf); repeat (refine w ?_; conv => whnf)
      refine fin_frz TT ?_ rfl
      rw [idx_some hno hx ht]; rfl
    · (conv => whnf); repeat (refine w ?_; conv => whnf)
      exact ⟨i + 1, ⟨hlt, none_upto hno hx hf⟩, by show l.length - (i + 1) < l.length - i; omega, le_of [] rfl rfl rfl ⟨step_num hlt hn, rfl, rfl, rfl, trivial⟩ trivial⟩
  · have hge : ¬ i < l.length := by simpa using hge
    (conv => whnf); repeat (refine w ?_; conv => whnf)
    refine fin_frz TT ?_ rfl
    rw [idx_none (none_all hno (by omega))]; rfl
theorem c134 (l : List EdgeT) (f : Nat) (p : EdgeT → Bool) (hp : ∀ x ∈ l, Con P f [] [AV.agg x.el] (.bool (p x)) []) : Con P 134 [] [.slice 7 (edts l), .fn f []] (.bool (l.any p)) [] := by
  refine go Tryz.func134 (by rfl) rfl rfl rfl fun hl => ?_
  (conv => whnf); repeat (refine w ?_; conv => whnf)
  refine ⟨_, _, c158 l f p hp, ?_⟩
  (conv => whnf); repeat (refine w ?_; conv => whnf)
  refine fin_frz TT ?_ rfl
  rw [← idx_any]; rfl

theorem c158a (cs : List AV) (l : List EdgeT) (f : Nat) (p : EdgeT → Bool) (hp : ∀ x ∈ l, Con P f [] (AV.agg x.el :: [.fptr cs]) (.bool (p x)) []) : Con P 158 [] [.slice 7 (edts l), .fn f [.fptr cs]] (.int .i64 (idx p l)) [] := by
  refine go Tryz.func158 (by rfl) rfl rfl rfl fun hl => ?_
  have hn : l.length ≤ 9223372036854775807 := by
    have := hl (edts l).length (by simp [lensL, lens])
    rwa [edts_len] at this
  (conv => whnf); repeat (refine w ?_; conv => whnf)
  refine loop (fun i : Nat => mkSt [(8, .int .i64 i), (7, .int .i64 l.length), (0, .slice 7 (edts l)), (1, .fn f [.fptr cs])] []) (fun i => i ≤ l.length ∧ ∀ j y, j < i → l[j]? = some y → p y = false) (fun i => l.length - i) 0 ⟨Nat.zero_le _, fun j y h => by omega⟩
    (le_of [] rfl rfl rfl ⟨rfl, by rw [edts_len]; rfl, rfl, rfl, trivial⟩ trivial) ?_
  rintro i ⟨hi, hno⟩
  (conv => whnf); repeat (refine w ?_; conv => whnf)
  refine ⟨fun hlt => ?_, fun hge => ?_⟩
  · have hlt : i < l.length := by simpa using hlt
    have hx : l[i]? = some l[i] := List.getElem?_eq_getElem hlt
    (conv => whnf); repeat (refine w ?_; conv => whnf)
    refine ⟨by omega, _, edts_at hx, ?_⟩
    (conv => whnf); repeat (refine w ?_; conv => whnf)
    refine ⟨_, _, hp l[i] (List.getElem_mem hlt), ?_⟩
    (conv => whnf); repeat (refine w ?_; conv => whnf)
    refine ⟨fun ht => ?_, fun hf => ?_⟩
    · (conv => whnf); repeat (refine w ?_; conv => whnf)
      refine fin_frz TT ?_ rfl
      rw [idx_some hno hx ht]; rfl
    · (conv => whnf); repeat (refine w ?_; conv => whnf)
      exact ⟨i + 1, ⟨hlt, none_upto hno hx hf⟩, by show l.length - (i + 1) < l.length - i; omega, le_of [] rfl rfl rfl ⟨step_num hlt hn, rfl, rfl, rfl, trivial⟩ trivial⟩
  · have hge : ¬ i < l.length := by simpa using hge
    (conv => whnf); repeat (refine w ?_; conv => whnf)
    refine fin_frz TT ?_ rfl
    rw [idx_none (none_all hno (by omega))]; rfl
theorem c134a (cs : List AV) (l : List EdgeT) (f : Nat) (p : EdgeT → Bool) (hp : ∀ x ∈ l, Con P f [] (AV.agg x.el :: [.fptr cs]) (.bool (p x)) []) : Con P 134 [] [.slice 7 (edts l), .fn f [.fptr cs]] (.bool (l.any p)) [] := by
  refine go Tryz.func134 (by rfl) rfl rfl rfl fun hl => ?_
  (conv => whnf); repeat (refine w ?_; conv => whnf)
  refine ⟨_, _, c158a cs l f p hp, ?_⟩
  (conv => whnf); repeat (refine w ?_; conv => whnf)
  refine fin_frz TT ?_ rfl
  rw [← idx_any]; rfl

theorem c158b (cs ds : List AV) (l : List EdgeT) (f : Nat) (p : EdgeT → Bool) (hp : ∀ x ∈ l, Con P f [] (AV.agg x.el :: [.fptr cs, .fptr ds]) (.bool (p x)) []) : Con P 158 [] [.slice 7 (edts l), .fn f [.fptr cs, .fptr ds]] (.int .i64 (idx p l)) [] := by
  refine go Tryz.func158 (by rfl) rfl rfl rfl fun hl => ?_
  have hn : l.length ≤ 9223372036854775807 := by
    have := hl (edts l).length (by simp [lensL, lens])
    rwa [edts_len] at this
  (conv => whnf); repeat (refine w ?_; conv => whnf)
  refine loop (fun i : Nat => mkSt [(8, .int .i64 i), (7, .int .i64 l.length), (0, .slice 7 (edts l)), (1, .fn f [.fptr cs, .fptr ds])] []) (fun i => i ≤ l.length ∧ ∀ j y, j < i → l[j]? = some y → p y = false) (fun i => l.length - i) 0 ⟨Nat.zero_le _, fun j y h => by omega⟩
    (le_of [] rfl rfl rfl ⟨rfl, by rw [edts_len]; rfl, rfl, rfl, trivial⟩ trivial) ?_
  rintro i ⟨hi, hno⟩
  (conv => whnf); repeat (refine w ?_; conv => whnf)
  refine ⟨fun hlt => ?_, fun hge => ?_⟩
  · have hlt : i < l.length := by simpa using hlt
    have hx : l[i]? = some l[i] := List.getElem?_eq_getElem hlt
    (conv => whnf); repeat (refine w ?_; conv => whnf)
    refine ⟨by omega, _, edts_at hx, ?_⟩
    (conv => whnf); repeat (refine w ?_; conv => whnf)
    refine ⟨_, _, hp l[i] (List.getElem_mem hlt), ?_⟩
    (conv => whnf); repeat (refine w ?_; conv => whnf)
    refine ⟨fun ht => ?_, fun hf => ?_⟩
    · (conv => whnf); repeat (refine w ?_; conv => whnf)
      refine fin_frz TT ?_ rfl
      rw [idx_some hno hx ht]; rfl
    · (conv => whnf); repeat (refine w ?_; conv => whnf)
      exact ⟨i + 1, ⟨hlt, none_upto hno hx hf⟩, by show l.length - (i + 1) < l.length - i; omega, le_of [] rfl rfl rfl ⟨step_num hlt hn, rfl, rfl, rfl, trivial⟩ trivial⟩
  · have hge : ¬ i < l.length := by simpa using hge
    (conv => whnf); repeat (refine w ?_; conv => whnf)
    refine fin_frz TT ?_ rfl
    rw [idx_none (none_all hno (by omega))]; rfl
theorem c134b (cs ds : List AV) (l : List EdgeT) (f : Nat) (p : EdgeT → Bool) (hp : ∀ x ∈ l, Con P f [] (AV.agg x.el :: [.fptr cs, .fptr ds]) (.bool (p x)) []) : Con P 134 [] [.slice 7 (edts l), .fn f [.fptr cs, .fptr ds]] (.bool (l.any p)) [] := by
  refine go Tryz.func134 (by rfl) rfl rfl rfl fun hl => ?_
  (conv => whnf); repeat (refine w ?_; conv => whnf)
  refine ⟨_, _, c158b cs ds l f p hp, ?_⟩
  (conv => whnf); repeat (refine w ?_; conv => whnf)
  refine fin_frz TT ?_ rfl
  rw [← idx_any]; rfl

end Go.Av.Z

/- Graphs: what is valid. -/
namespace Go.Av.Z
open Go.Proofs

def within (n most : Int) : Bool := decide (0 ≤ n) && decide (n ≤ most)
theorem c68 (n m : Int) : Con P 68 [] [.int .i64 n, .int .i64 m] (.bool (within n m)) [] := by
  refine go Tryz.func68 (by rfl) rfl rfl rfl fun _ => ?_
  (conv => whnf); repeat (refine w ?_; conv => whnf)
  refine ⟨fun h => ?_, fun h => ?_⟩
  · (conv => whnf); repeat (refine w ?_; conv => whnf)
    refine fin_frz TT ?_ rfl
    have h : 0 ≤ n := by simpa using h
    simp [within, h]; rfl
  · (conv => whnf); repeat (refine w ?_; conv => whnf)
    refine fin_frz TT ?_ rfl
    have h : ¬ 0 ≤ n := by simpa using h
    simp [within, h]; rfl
theorem c67 (n : Int) : Con P 67 [] [.int .i64 n] (.bool (!within n 99)) [] := by
  refine go Tryz.func67 (by rfl) rfl rfl rfl fun _ => ?_
  (conv => whnf); repeat (refine w ?_; conv => whnf)
  refine ⟨_, _, c68 _ _, ?_⟩
  (conv => whnf); repeat (refine w ?_; conv => whnf)
  exact fin_frz TT rfl rfl
def fits (e : Edge) (n : Nat) : Bool := within e.type 99 && (within e.src (n - 1) && within e.dst (n - 1))
theorem c71 (e : Edge) (n : Nat) (hn : n ≤ 9223372036854775807) : Con P 71 [] [.agg e.el, .int .i64 n] (.bool (fits e n)) [] := by
  refine go Tryz.func71 (by rfl) rfl rfl rfl fun _ => ?_
  (conv => whnf); repeat (refine w ?_; conv => whnf)
  refine ⟨_, _, c68 _ _, ?_⟩
  (conv => whnf); repeat (refine w ?_; conv => whnf)
  have hs : IntKind.i64.wrap ((n : Int) - 1) = n - 1 := wrap_small (by omega) (by omega)
  refine ⟨fun h1 => ?_, fun h1 => ?_⟩
  · (conv => whnf); repeat (refine w ?_; conv => whnf)
    refine ⟨_, _, c68 _ _, ?_⟩
    (conv => whnf); repeat (refine w ?_; conv => whnf)
    refine ⟨fun h2 => ?_, fun h2 => ?_⟩
    · (conv => whnf); repeat (refine w ?_; conv => whnf)
      refine ⟨_, _, c68 _ _, ?_⟩
      (conv => whnf); repeat (refine w ?_; conv => whnf)
      refine fin_frz TT ?_ rfl
      rw [hs] at h2 ⊢
      simp [fits, h1, h2]; rfl
    · (conv => whnf); repeat (refine w ?_; conv => whnf)
      refine fin_frz TT ?_ rfl
      rw [hs] at h2
      simp [fits, h1, h2]; rfl
  · (conv => whnf); repeat (refine w ?_; conv => whnf)
    refine ⟨fun h => absurd h Bool.false_ne_true, fun _ => ?_⟩
    (conv => whnf); repeat (refine w ?_; conv => whnf)
    refine fin_frz TT ?_ rfl
    simp [fits, h1]; rfl
theorem c70 (e : Edge) (g : Graph) (hn : g.nodes.length ≤ 9223372036854775807) : Con P 70 [] [.agg e.el, .fptr g.cs] (.bool (!fits e g.nodes.length)) [] := by
  refine go Tryz.func70 (by rfl) rfl rfl rfl fun _ => ?_
  (conv => whnf); repeat (refine w ?_; conv => whnf)
  rw [nums_len]
  refine ⟨_, _, c71 e _ hn, ?_⟩
  (conv => whnf); repeat (refine w ?_; conv => whnf)
  exact fin_frz TT rfl rfl

/-- The error of a graph. -/
def gval (g : Graph) : Int :=
  if g.nodes.length > 40 ∨ g.edges.length > 80 then 3 else if g.nodes.any (fun n => !within n 99) then 6 else if g.edges.any (fun e => !fits e g.nodes.length) then 6 else 0
theorem c31 (g : Graph) : Con P 31 [] [g.av] (.int .i64 (gval g)) [] := by
  refine go Tryz.func31 (by rfl) rfl rfl rfl fun _ => ?_
  (conv => whnf); repeat (refine w ?_; conv => whnf)
  rw [nums_len]
  refine ⟨fun h1 => ?_, fun h1 => ?_⟩
  · have h1 : 40 < g.nodes.length := by have := of_decide_eq_true h1; omega
    (conv => whnf); repeat (refine w ?_; conv => whnf)
    refine ⟨fun _ => ?_, fun h => absurd h (by decide)⟩
    (conv => whnf); repeat (refine w ?_; conv => whnf)
    refine fin_frz TT ?_ rfl
    rw [gval, if_pos (.inl h1)]; rfl
  · have h1 : ¬ 40 < g.nodes.length := by have := of_decide_eq_false h1; omega
    (conv => whnf); repeat (refine w ?_; conv => whnf)
    rw [edgs_len]
    refine ⟨fun h2 => ?_, fun h2 => ?_⟩
    · have h2 : 80 < g.edges.length := by have := of_decide_eq_true h2; omega
      (conv => whnf); repeat (refine w ?_; conv => whnf)
      refine fin_frz TT ?_ rfl
      rw [gval, if_pos (.inr h2)]; rfl
    · have h2 : ¬ 80 < g.edges.length := by have := of_decide_eq_false h2; omega
      have h12 : ¬ (g.nodes.length > 40 ∨ g.edges.length > 80) := by omega
      (conv => whnf); repeat (refine w ?_; conv => whnf)
      refine ⟨_, _, c66 g.nodes 67 (fun n => !within n 99) (fun n _ => c67 n), ?_⟩
      (conv => whnf); repeat (refine w ?_; conv => whnf)
      refine ⟨fun h3 => ?_, fun h3 => ?_⟩
      · (conv => whnf); repeat (refine w ?_; conv => whnf)
        refine fin_frz TT ?_ rfl
        rw [gval, if_neg h12, if_pos h3]; rfl
      · (conv => whnf); repeat (refine w ?_; conv => whnf)
        refine ⟨_, _, con_frz rfl rfl rfl (c69a g.cs g.edges 70 (fun e => !fits e g.nodes.length) (fun e _ => c70 e g (by omega))), ?_⟩
        (conv => whnf); repeat (refine w ?_; conv => whnf)
        refine ⟨fun h4 => ?_, fun h4 => ?_⟩
        · (conv => whnf); repeat (refine w ?_; conv => whnf)
          refine fin_frz TT ?_ rfl
          rw [gval, if_neg h12, if_neg (by simp [h3]), if_pos h4]; rfl
        · (conv => whnf); repeat (refine w ?_; conv => whnf)
          refine fin_frz TT ?_ rfl
          rw [gval, if_neg h12, if_neg (by simp [h3]), if_neg (by simp [h4])]; rfl
end Go.Av.Z

/- Morphisms: what is valid. -/
namespace Go.Av.Z
open Go.Proofs

/-- The first number that isn't zero of those that f gives for the elements of a list, with their places. -/
def errs {α : Type} (f : Nat → α → Int) : Nat → List α → Int
  | _, [] => 0
  | i, x :: r => if f i x = 0 then errs f (i + 1) r else f i x
theorem errs_zero {α : Type} {f : Nat → α → Int} : ∀ {l : List α} {n : Nat}, (∀ (j : Nat) (x : α), l[j]? = some x → f (n + j) x = 0) → errs f n l = 0
  | [], n, _ => rfl
  | x :: r, n, h => by
    unfold errs
    rw [if_pos (by simpa using h 0 x rfl)]
    exact errs_zero fun j y hy => by have := h (j + 1) y (by simpa using hy); rw [show n + 1 + j = n + (j + 1) by omega]; exact this
theorem errs_at {α : Type} {f : Nat → α → Int} : ∀ {l : List α} {n i : Nat} {x : α}, (∀ (j : Nat) (y : α), j < i → l[j]? = some y → f (n + j) y = 0) → l[i]? = some x → f (n + i) x ≠ 0 → errs f n l = f (n + i) x
  | [], n, i, x, _, h, _ => by simp at h
  | y :: r, n, 0, x, h, hx, hf => by
    simp at hx; subst hx
    unfold errs
    rw [if_neg (by simpa using hf)]; rfl
  | y :: r, n, i + 1, x, h, hx, hf => by
    unfold errs
    rw [if_pos (by simpa using h 0 y (by omega) rfl)]
    have := errs_at (f := f) (l := r) (n := n + 1) (i := i) (x := x) (fun j z hj hz => by have := h (j + 1) z (by omega) (by simpa using hz); rw [show n + 1 + j = n + (j + 1) by omega]; exact this) (by simpa using hx) (by rw [show n + 1 + i = n + (i + 1) by omega]; exact hf)
    rw [this, show n + 1 + i = n + (i + 1) by omega]
theorem zero_upto {α : Type} {f : Nat → α → Int} {l : List α} {i : Nat} {x : α} (h : ∀ j y, j < i → l[j]? = some y → f j y = 0) (hx : l[i]? = some x) (hf : f i x = 0) : ∀ j y, j < i + 1 → l[j]? = some y → f j y = 0 := by
  intro j y hj hy
  rcases Nat.lt_or_ge j i with h' | h'
  · exact h j y h' hy
  · have : j = i := by omega
    subst this; rw [hx] at hy; cases hy; exact hf
theorem errs_all {α : Type} {f : Nat → α → Int} {l : List α} {i : Nat} (h : ∀ j y, j < i → l[j]? = some y → f j y = 0) (hi : l.length ≤ i) : errs f 0 l = 0 :=
  errs_zero fun j x hx => by rw [Nat.zero_add]; exact h j x (by have := (List.getElem?_eq_some_iff.1 hx).1; omega) hx
theorem errs_first {α : Type} {f : Nat → α → Int} {l : List α} {i : Nat} {x : α} (h : ∀ j y, j < i → l[j]? = some y → f j y = 0) (hx : l[i]? = some x) (hf : f i x ≠ 0) : errs f 0 l = f i x := by
  have := errs_at (f := f) (l := l) (n := 0) (i := i) (x := x) (fun j y hj hy => by rw [Nat.zero_add]; exact h j y hj hy) hx (by rw [Nat.zero_add]; exact hf)
  rwa [Nat.zero_add] at this

/-- A place of a list. -/
def at0 (l : List Int) (n : Int) : Int := l.getD n.toNat 0
def atE (l : List Edge) (n : Int) : Edge := l.getD n.toNat default
theorem at0_some {l : List Int} {n : Int} (h : n.toNat < l.length) : l[n.toNat]? = some (at0 l n) := by
  simp [at0, List.getD_eq_getElem?_getD, List.getElem?_eq_getElem h]
theorem atE_some {l : List Edge} {n : Int} (h : n.toNat < l.length) : l[n.toNat]? = some (atE l n) := by
  simp [atE, List.getD_eq_getElem?_getD, List.getElem?_eq_getElem h]

def mnode (a b : Graph) (i : Nat) (k : Int) : Int :=
  if k < 0 ∨ (b.nodes.length : Int) ≤ k then 6 else if at0 b.nodes k ≠ at0 a.nodes i then 13 else 0
def medge (a b : Graph) (m : Mor) (i : Nat) (k : Int) : Int :=
  if k < 0 ∨ (b.edges.length : Int) ≤ k then 6 else if (atE a.edges i).type ≠ (atE b.edges k).type then 13
  else if at0 m.nodes (atE a.edges i).src ≠ (atE b.edges k).src ∨ at0 m.nodes (atE a.edges i).dst ≠ (atE b.edges k).dst then 11 else 0
/-- The error of a morphism. -/
def mval (a b : Graph) (m : Mor) : Int :=
  if gval a ≠ 0 then gval a else if gval b ≠ 0 then gval b else if m.nodes.length ≠ a.nodes.length ∨ m.edges.length ≠ a.edges.length then 20
  else if errs (mnode a b) 0 m.nodes ≠ 0 then errs (mnode a b) 0 m.nodes else errs (medge a b m) 0 m.edges

theorem gval_len {g : Graph} (h : gval g = 0) : g.nodes.length ≤ 40 ∧ g.edges.length ≤ 80 := by
  unfold gval at h
  split at h
  · cases h
  · omega

theorem gval_edge {g : Graph} (h : gval g = 0) {i : Nat} {e : Edge} (he : g.edges[i]? = some e) : 0 ≤ e.src ∧ e.src < g.nodes.length ∧ 0 ≤ e.dst ∧ e.dst < g.nodes.length ∧ 0 ≤ e.type ∧ e.type ≤ 99 := by
  unfold gval at h
  split at h
  · cases h
  · split at h
    · cases h
    · split at h
      · cases h
      · rename_i h3
        have h3 : g.edges.any (fun e => !fits e g.nodes.length) = false := by simpa using h3
        rw [List.any_eq_false] at h3
        have := h3 e (List.mem_of_getElem? he)
        simp [fits, within] at this
        omega

theorem c40 (a b : Graph) (m : Mor) : Con P 40 [] [a.av, b.av, m.av] (.int .i64 (mval a b m)) [] := by
  refine go Tryz.func40 (by rfl) rfl rfl rfl fun hl => ?_
  (conv => whnf); repeat (first | (refine w ?_; conv => whnf) | (refine ⟨fun h => absurd h Bool.false_ne_true, fun _ => ?_⟩; conv => whnf) | (refine ⟨fun _ => ?_, fun h => absurd h.symm Bool.false_ne_true⟩; conv => whnf))
  refine ⟨_, _, c31 a, ?_⟩
  (conv => whnf); repeat (first | (refine w ?_; conv => whnf) | (refine ⟨fun h => absurd h Bool.false_ne_true, fun _ => ?_⟩; conv => whnf) | (refine ⟨fun _ => ?_, fun h => absurd h.symm Bool.false_ne_true⟩; conv => whnf))
  refine ⟨fun h1 => ?_, fun h1 => ?_⟩
  · (conv => whnf); repeat (first | (refine w ?_; conv => whnf) | (refine ⟨fun h => absurd h Bool.false_ne_true, fun _ => ?_⟩; conv => whnf) | (refine ⟨fun _ => ?_, fun h => absurd h.symm Bool.false_ne_true⟩; conv => whnf))
    refine fin_frz TT ?_ rfl
    have h1 : gval a ≠ 0 := by simpa using h1
    rw [mval, if_pos h1]; rfl
  have h1 : gval a = 0 := by simpa using h1
  (conv => whnf); repeat (first | (refine w ?_; conv => whnf) | (refine ⟨fun h => absurd h Bool.false_ne_true, fun _ => ?_⟩; conv => whnf) | (refine ⟨fun _ => ?_, fun h => absurd h.symm Bool.false_ne_true⟩; conv => whnf))
  refine ⟨_, _, c31 b, ?_⟩
  (conv => whnf); repeat (first | (refine w ?_; conv => whnf) | (refine ⟨fun h => absurd h Bool.false_ne_true, fun _ => ?_⟩; conv => whnf) | (refine ⟨fun _ => ?_, fun h => absurd h.symm Bool.false_ne_true⟩; conv => whnf))
  refine ⟨fun h2 => ?_, fun h2 => ?_⟩
  · (conv => whnf); repeat (first | (refine w ?_; conv => whnf) | (refine ⟨fun h => absurd h Bool.false_ne_true, fun _ => ?_⟩; conv => whnf) | (refine ⟨fun _ => ?_, fun h => absurd h.symm Bool.false_ne_true⟩; conv => whnf))
    refine fin_frz TT ?_ rfl
    have h2 : gval b ≠ 0 := by simpa using h2
    rw [mval, if_neg (by omega), if_pos h2]; rfl
  have h2 : gval b = 0 := by simpa using h2
  (conv => whnf); repeat (first | (refine w ?_; conv => whnf) | (refine ⟨fun h => absurd h Bool.false_ne_true, fun _ => ?_⟩; conv => whnf) | (refine ⟨fun _ => ?_, fun h => absurd h.symm Bool.false_ne_true⟩; conv => whnf))
  rw [nums_len, nums_len]
  have key : ∀ h3 : m.nodes.length ≠ a.nodes.length ∨ m.edges.length ≠ a.edges.length, mval a b m = 20 := fun h3 => by rw [mval, if_neg (by omega), if_neg (by omega), if_pos h3]
  refine ⟨fun h3 => ?_, fun h3 => ?_⟩
  · have h3 : m.nodes.length ≠ a.nodes.length := by have : ((m.nodes.length : Int) != (a.nodes.length : Int)) = true := h3; simp at this; omega
    (conv => whnf); repeat (first | (refine w ?_; conv => whnf) | (refine ⟨fun h => absurd h Bool.false_ne_true, fun _ => ?_⟩; conv => whnf) | (refine ⟨fun _ => ?_, fun h => absurd h.symm Bool.false_ne_true⟩; conv => whnf))
    refine fin_frz TT ?_ rfl
    rw [key (.inl h3)]; rfl
  have h3 : m.nodes.length = a.nodes.length := by have : ((m.nodes.length : Int) != (a.nodes.length : Int)) = false := h3; simp at this; omega
  (conv => whnf); repeat (first | (refine w ?_; conv => whnf) | (refine ⟨fun h => absurd h Bool.false_ne_true, fun _ => ?_⟩; conv => whnf) | (refine ⟨fun _ => ?_, fun h => absurd h.symm Bool.false_ne_true⟩; conv => whnf))
  rw [nums_len, edgs_len]
  refine ⟨fun h4 => ?_, fun h4 => ?_⟩
  · have h4 : m.edges.length ≠ a.edges.length := by have : ((m.edges.length : Int) != (a.edges.length : Int)) = true := h4; simp at this; omega
    (conv => whnf); repeat (first | (refine w ?_; conv => whnf) | (refine ⟨fun h => absurd h Bool.false_ne_true, fun _ => ?_⟩; conv => whnf) | (refine ⟨fun _ => ?_, fun h => absurd h.symm Bool.false_ne_true⟩; conv => whnf))
    refine fin_frz TT ?_ rfl
    rw [key (.inr h4)]; rfl
  have h4 : m.edges.length = a.edges.length := by have : ((m.edges.length : Int) != (a.edges.length : Int)) = false := h4; simp at this; omega
  (conv => whnf); repeat (first | (refine w ?_; conv => whnf) | (refine ⟨fun h => absurd h Bool.false_ne_true, fun _ => ?_⟩; conv => whnf) | (refine ⟨fun _ => ?_, fun h => absurd h.symm Bool.false_ne_true⟩; conv => whnf))
  have hb : b.nodes.length ≤ 40 ∧ b.edges.length ≤ 80 := gval_len h2
  have ha : a.nodes.length ≤ 40 ∧ a.edges.length ≤ 80 := gval_len h1
  refine loop (fun i : Nat => mkSt [(44, .int .i64 i), (43, .int .i64 m.nodes.length), (42, .slice 1 (nums m.nodes)), (3, .bptr 0 0), (4, .bptr 1 0), (5, .bptr 2 0)] [.box 25 a.cs, .box 25 b.cs, .box 32 m.cs]) (fun i => i ≤ m.nodes.length ∧ ∀ j y, j < i → m.nodes[j]? = some y → mnode a b j y = 0) (fun i => m.nodes.length - i) 0 ⟨Nat.zero_le _, fun j y h => by omega⟩
    (le_of [0, 1, 2] rfl rfl rfl ⟨rfl, by rw [nums_len]; rfl, rfl, rfl, rfl, rfl, trivial⟩ ⟨rfl, rfl, rfl, trivial⟩) ?_
  · rintro i ⟨hi, hno⟩
    (conv => whnf); repeat (first | (refine w ?_; conv => whnf) | (refine ⟨fun h => absurd h Bool.false_ne_true, fun _ => ?_⟩; conv => whnf) | (refine ⟨fun _ => ?_, fun h => absurd h.symm Bool.false_ne_true⟩; conv => whnf))
    refine ⟨fun hlt => ?_, fun hge => ?_⟩
    · have hlt : i < m.nodes.length := by simpa using hlt
      have hx : m.nodes[i]? = some m.nodes[i] := List.getElem?_eq_getElem hlt
      generalize m.nodes[i] = k at hx
      (conv => whnf); repeat (first | (refine w ?_; conv => whnf) | (refine ⟨fun h => absurd h Bool.false_ne_true, fun _ => ?_⟩; conv => whnf) | (refine ⟨fun _ => ?_, fun h => absurd h.symm Bool.false_ne_true⟩; conv => whnf))
      refine ⟨by omega, _, nums_at hx, ?_⟩
      (conv => whnf); repeat (first | (refine w ?_; conv => whnf) | (refine ⟨fun h => absurd h Bool.false_ne_true, fun _ => ?_⟩; conv => whnf) | (refine ⟨fun _ => ?_, fun h => absurd h.symm Bool.false_ne_true⟩; conv => whnf))
      have bad : ∀ e : Int, mnode a b i k = e → e ≠ 0 → mval a b m = e := fun e he hne => by
        have := errs_first hno hx (by rw [he]; exact hne)
        rw [mval, if_neg (by omega), if_neg (by omega), if_neg (by omega), if_pos (by rw [this, he]; exact hne), this, he]
      refine ⟨fun h5 => ?_, fun h5 => ?_⟩
      · have h5 : k < 0 := by simpa using h5
        (conv => whnf); repeat (first | (refine w ?_; conv => whnf) | (refine ⟨fun h => absurd h Bool.false_ne_true, fun _ => ?_⟩; conv => whnf) | (refine ⟨fun _ => ?_, fun h => absurd h.symm Bool.false_ne_true⟩; conv => whnf))
        refine fin_frz TT ?_ rfl
        rw [bad 6 (by rw [mnode, if_pos (.inl h5)]) (by decide)]; rfl
      · have h5 : ¬ k < 0 := by simpa using h5
        (conv => whnf); repeat (first | (refine w ?_; conv => whnf) | (refine ⟨fun h => absurd h Bool.false_ne_true, fun _ => ?_⟩; conv => whnf) | (refine ⟨fun _ => ?_, fun h => absurd h.symm Bool.false_ne_true⟩; conv => whnf))
        rw [nums_len]
        refine ⟨fun h6 => ?_, fun h6 => ?_⟩
        · have h6 : (b.nodes.length : Int) ≤ k := by simpa using h6
          (conv => whnf); repeat (first | (refine w ?_; conv => whnf) | (refine ⟨fun h => absurd h Bool.false_ne_true, fun _ => ?_⟩; conv => whnf) | (refine ⟨fun _ => ?_, fun h => absurd h.symm Bool.false_ne_true⟩; conv => whnf))
          refine fin_frz TT ?_ rfl
          rw [bad 6 (by rw [mnode, if_pos (.inr h6)]) (by decide)]; rfl
        · have h6 : ¬ (b.nodes.length : Int) ≤ k := by simpa using h6
          (conv => whnf); repeat (first | (refine w ?_; conv => whnf) | (refine ⟨fun h => absurd h Bool.false_ne_true, fun _ => ?_⟩; conv => whnf) | (refine ⟨fun _ => ?_, fun h => absurd h.symm Bool.false_ne_true⟩; conv => whnf))
          refine ⟨by omega, _, nums_at (at0_some (by omega)), ?_⟩
          (conv => whnf); repeat (first | (refine w ?_; conv => whnf) | (refine ⟨fun h => absurd h Bool.false_ne_true, fun _ => ?_⟩; conv => whnf) | (refine ⟨fun _ => ?_, fun h => absurd h.symm Bool.false_ne_true⟩; conv => whnf))
          have e0 : ((i : Int)).toNat = i := by omega
          refine ⟨by omega, _, nums_at (at0_some (by omega)), ?_⟩
          (conv => whnf); repeat (first | (refine w ?_; conv => whnf) | (refine ⟨fun h => absurd h Bool.false_ne_true, fun _ => ?_⟩; conv => whnf) | (refine ⟨fun _ => ?_, fun h => absurd h.symm Bool.false_ne_true⟩; conv => whnf))
          refine ⟨rfl, ?_⟩
          (conv => whnf); repeat (first | (refine w ?_; conv => whnf) | (refine ⟨fun h => absurd h Bool.false_ne_true, fun _ => ?_⟩; conv => whnf) | (refine ⟨fun _ => ?_, fun h => absurd h.symm Bool.false_ne_true⟩; conv => whnf))
          refine ⟨fun h7 => ?_, fun h7 => ?_⟩
          · have h7 : at0 b.nodes k ≠ at0 a.nodes i := by simpa using h7
            (conv => whnf); repeat (first | (refine w ?_; conv => whnf) | (refine ⟨fun h => absurd h Bool.false_ne_true, fun _ => ?_⟩; conv => whnf) | (refine ⟨fun _ => ?_, fun h => absurd h.symm Bool.false_ne_true⟩; conv => whnf))
            refine fin_frz TT ?_ rfl
            rw [bad 13 (by rw [mnode, if_neg (by omega), if_pos h7]) (by decide)]; rfl
          · have h7 : at0 b.nodes k = at0 a.nodes i := by simpa using h7
            (conv => whnf); repeat (first | (refine w ?_; conv => whnf) | (refine ⟨fun h => absurd h Bool.false_ne_true, fun _ => ?_⟩; conv => whnf) | (refine ⟨fun _ => ?_, fun h => absurd h.symm Bool.false_ne_true⟩; conv => whnf))
            exact ⟨i + 1, ⟨hlt, zero_upto hno hx (by rw [mnode, if_neg (by omega), if_neg (by simpa using h7)])⟩, by show m.nodes.length - (i + 1) < m.nodes.length - i; omega, le_of [0, 1, 2] rfl rfl rfl ⟨step_num hlt (by omega), rfl, rfl, rfl, rfl, rfl, trivial⟩ ⟨rfl, rfl, rfl, trivial⟩⟩
    · have hge : ¬ i < m.nodes.length := by simpa using hge
      have hz : errs (mnode a b) 0 m.nodes = 0 := errs_all hno (by omega)
      (conv => whnf); repeat (first | (refine w ?_; conv => whnf) | (refine ⟨fun h => absurd h Bool.false_ne_true, fun _ => ?_⟩; conv => whnf) | (refine ⟨fun _ => ?_, fun h => absurd h.symm Bool.false_ne_true⟩; conv => whnf))
      refine loop (fun i : Nat => mkSt [(73, .int .i64 i), (72, .int .i64 m.edges.length), (71, .slice 1 (nums m.edges)), (3, .bptr 0 0), (4, .bptr 1 0), (5, .bptr 2 0)] [.box 25 a.cs, .box 25 b.cs, .box 32 m.cs]) (fun i => i ≤ m.edges.length ∧ ∀ j y, j < i → m.edges[j]? = some y → medge a b m j y = 0) (fun i => m.edges.length - i) 0 ⟨Nat.zero_le _, fun j y h => by omega⟩
        (le_of [0, 1, 2] rfl rfl rfl ⟨rfl, by rw [nums_len]; rfl, rfl, rfl, rfl, rfl, trivial⟩ ⟨rfl, rfl, rfl, trivial⟩) ?_
      clear hno hi
      rintro i ⟨hi, hno⟩
      (conv => whnf); repeat (first | (refine w ?_; conv => whnf) | (refine ⟨fun h => absurd h Bool.false_ne_true, fun _ => ?_⟩; conv => whnf) | (refine ⟨fun _ => ?_, fun h => absurd h.symm Bool.false_ne_true⟩; conv => whnf))
      refine ⟨fun hlt => ?_, fun hge => ?_⟩
      · have hlt : i < m.edges.length := by simpa using hlt
        have hx : m.edges[i]? = some m.edges[i] := List.getElem?_eq_getElem hlt
        generalize m.edges[i] = k at hx
        (conv => whnf); repeat (first | (refine w ?_; conv => whnf) | (refine ⟨fun h => absurd h Bool.false_ne_true, fun _ => ?_⟩; conv => whnf) | (refine ⟨fun _ => ?_, fun h => absurd h.symm Bool.false_ne_true⟩; conv => whnf))
        refine ⟨by omega, _, nums_at hx, ?_⟩
        (conv => whnf); repeat (first | (refine w ?_; conv => whnf) | (refine ⟨fun h => absurd h Bool.false_ne_true, fun _ => ?_⟩; conv => whnf) | (refine ⟨fun _ => ?_, fun h => absurd h.symm Bool.false_ne_true⟩; conv => whnf))
        have bad : ∀ e : Int, medge a b m i k = e → e ≠ 0 → mval a b m = e := fun e he hne => by
          have := errs_first hno hx (by rw [he]; exact hne)
          rw [mval, if_neg (by omega), if_neg (by omega), if_neg (by omega), if_neg (by omega), this, he]
        refine ⟨fun h5 => ?_, fun h5 => ?_⟩
        · have h5 : k < 0 := by simpa using h5
          (conv => whnf); repeat (first | (refine w ?_; conv => whnf) | (refine ⟨fun h => absurd h Bool.false_ne_true, fun _ => ?_⟩; conv => whnf) | (refine ⟨fun _ => ?_, fun h => absurd h.symm Bool.false_ne_true⟩; conv => whnf))
          refine fin_frz TT ?_ rfl
          rw [bad 6 (by rw [medge, if_pos (.inl h5)]) (by decide)]; rfl
        have h5 : ¬ k < 0 := by simpa using h5
        (conv => whnf); repeat (first | (refine w ?_; conv => whnf) | (refine ⟨fun h => absurd h Bool.false_ne_true, fun _ => ?_⟩; conv => whnf) | (refine ⟨fun _ => ?_, fun h => absurd h.symm Bool.false_ne_true⟩; conv => whnf))
        rw [edgs_len]
        refine ⟨fun h6 => ?_, fun h6 => ?_⟩
        · have h6 : (b.edges.length : Int) ≤ k := by simpa using h6
          (conv => whnf); repeat (first | (refine w ?_; conv => whnf) | (refine ⟨fun h => absurd h Bool.false_ne_true, fun _ => ?_⟩; conv => whnf) | (refine ⟨fun _ => ?_, fun h => absurd h.symm Bool.false_ne_true⟩; conv => whnf))
          refine fin_frz TT ?_ rfl
          rw [bad 6 (by rw [medge, if_pos (.inr h6)]) (by decide)]; rfl
        have h6 : ¬ (b.edges.length : Int) ≤ k := by simpa using h6
        have hin := gval_edge h1 (atE_some (l := a.edges) (n := i) (by omega))
        generalize hea : atE a.edges i = x at *
        generalize heb : atE b.edges k = y at *
        (conv => whnf); repeat (first | (refine w ?_; conv => whnf) | (refine ⟨fun h => absurd h Bool.false_ne_true, fun _ => ?_⟩; conv => whnf) | (refine ⟨fun _ => ?_, fun h => absurd h.symm Bool.false_ne_true⟩; conv => whnf))
        refine ⟨by omega, _, edgs_at (by rw [atE_some (by omega), hea]), ?_⟩
        (conv => whnf); repeat (first | (refine w ?_; conv => whnf) | (refine ⟨fun h => absurd h Bool.false_ne_true, fun _ => ?_⟩; conv => whnf) | (refine ⟨fun _ => ?_, fun h => absurd h.symm Bool.false_ne_true⟩; conv => whnf))
        refine ⟨by omega, _, edgs_at (by rw [atE_some (by omega), heb]), ?_⟩
        (conv => whnf); repeat (first | (refine w ?_; conv => whnf) | (refine ⟨fun h => absurd h Bool.false_ne_true, fun _ => ?_⟩; conv => whnf) | (refine ⟨fun _ => ?_, fun h => absurd h.symm Bool.false_ne_true⟩; conv => whnf))
        refine ⟨rfl, ?_⟩
        (conv => whnf); repeat (first | (refine w ?_; conv => whnf) | (refine ⟨fun h => absurd h Bool.false_ne_true, fun _ => ?_⟩; conv => whnf) | (refine ⟨fun _ => ?_, fun h => absurd h.symm Bool.false_ne_true⟩; conv => whnf))
        refine ⟨fun h7 => ?_, fun h7 => ?_⟩
        · have h7 : x.type ≠ y.type := by simpa using h7
          (conv => whnf); repeat (first | (refine w ?_; conv => whnf) | (refine ⟨fun h => absurd h Bool.false_ne_true, fun _ => ?_⟩; conv => whnf) | (refine ⟨fun _ => ?_, fun h => absurd h.symm Bool.false_ne_true⟩; conv => whnf))
          refine fin_frz TT ?_ rfl
          rw [bad 13 (by rw [medge, if_neg (by omega), hea, heb, if_pos h7]) (by decide)]; rfl
        have h7 : x.type = y.type := by simpa using h7
        (conv => whnf); repeat (first | (refine w ?_; conv => whnf) | (refine ⟨fun h => absurd h Bool.false_ne_true, fun _ => ?_⟩; conv => whnf) | (refine ⟨fun _ => ?_, fun h => absurd h.symm Bool.false_ne_true⟩; conv => whnf))
        refine ⟨by omega, _, nums_at (at0_some (by omega)), ?_⟩
        (conv => whnf); repeat (first | (refine w ?_; conv => whnf) | (refine ⟨fun h => absurd h Bool.false_ne_true, fun _ => ?_⟩; conv => whnf) | (refine ⟨fun _ => ?_, fun h => absurd h.symm Bool.false_ne_true⟩; conv => whnf))
        refine ⟨fun h8 => ?_, fun h8 => ?_⟩
        · have h8 : at0 m.nodes x.src ≠ y.src := by simpa using h8
          (conv => whnf); repeat (first | (refine w ?_; conv => whnf) | (refine ⟨fun h => absurd h Bool.false_ne_true, fun _ => ?_⟩; conv => whnf) | (refine ⟨fun _ => ?_, fun h => absurd h.symm Bool.false_ne_true⟩; conv => whnf))
          refine ⟨rfl, ?_⟩
          (conv => whnf); repeat (first | (refine w ?_; conv => whnf) | (refine ⟨fun h => absurd h Bool.false_ne_true, fun _ => ?_⟩; conv => whnf) | (refine ⟨fun _ => ?_, fun h => absurd h.symm Bool.false_ne_true⟩; conv => whnf))
          refine fin_frz TT ?_ rfl
          rw [bad 11 (by rw [medge, if_neg (by omega), hea, heb, if_neg (by simpa using h7), if_pos (.inl h8)]) (by decide)]; rfl
        have h8 : at0 m.nodes x.src = y.src := by simpa using h8
        (conv => whnf); repeat (first | (refine w ?_; conv => whnf) | (refine ⟨fun h => absurd h Bool.false_ne_true, fun _ => ?_⟩; conv => whnf) | (refine ⟨fun _ => ?_, fun h => absurd h.symm Bool.false_ne_true⟩; conv => whnf))
        refine ⟨by omega, _, nums_at (at0_some (by omega)), ?_⟩
        (conv => whnf); repeat (first | (refine w ?_; conv => whnf) | (refine ⟨fun h => absurd h Bool.false_ne_true, fun _ => ?_⟩; conv => whnf) | (refine ⟨fun _ => ?_, fun h => absurd h.symm Bool.false_ne_true⟩; conv => whnf))
        refine ⟨rfl, ?_⟩
        (conv => whnf); repeat (first | (refine w ?_; conv => whnf) | (refine ⟨fun h => absurd h Bool.false_ne_true, fun _ => ?_⟩; conv => whnf) | (refine ⟨fun _ => ?_, fun h => absurd h.symm Bool.false_ne_true⟩; conv => whnf))
        refine ⟨fun h9 => ?_, fun h9 => ?_⟩
        · have h9 : at0 m.nodes x.dst ≠ y.dst := by simpa using h9
          (conv => whnf); repeat (first | (refine w ?_; conv => whnf) | (refine ⟨fun h => absurd h Bool.false_ne_true, fun _ => ?_⟩; conv => whnf) | (refine ⟨fun _ => ?_, fun h => absurd h.symm Bool.false_ne_true⟩; conv => whnf))
          refine fin_frz TT ?_ rfl
          rw [bad 11 (by rw [medge, if_neg (by omega), hea, heb, if_neg (by simpa using h7), if_pos (.inr h9)]) (by decide)]; rfl
        have h9 : at0 m.nodes x.dst = y.dst := by simpa using h9
        (conv => whnf); repeat (first | (refine w ?_; conv => whnf) | (refine ⟨fun h => absurd h Bool.false_ne_true, fun _ => ?_⟩; conv => whnf) | (refine ⟨fun _ => ?_, fun h => absurd h.symm Bool.false_ne_true⟩; conv => whnf))
        exact ⟨i + 1, ⟨hlt, zero_upto hno hx (by rw [medge, if_neg (by omega), hea, heb, if_neg (by simpa using h7), if_neg (by simp [h8, h9])])⟩, by show m.edges.length - (i + 1) < m.edges.length - i; omega, le_of [0, 1, 2] rfl rfl rfl ⟨step_num hlt (by omega), rfl, rfl, rfl, rfl, rfl, trivial⟩ ⟨rfl, rfl, rfl, trivial⟩⟩
      · have hge : ¬ i < m.edges.length := by simpa using hge
        have hz2 : errs (medge a b m) 0 m.edges = 0 := errs_all hno (by omega)
        (conv => whnf); repeat (first | (refine w ?_; conv => whnf) | (refine ⟨fun h => absurd h Bool.false_ne_true, fun _ => ?_⟩; conv => whnf) | (refine ⟨fun _ => ?_, fun h => absurd h.symm Bool.false_ne_true⟩; conv => whnf))
        refine fin_frz TT ?_ rfl
        rw [mval, if_neg (by omega), if_neg (by omega), if_neg (by omega), if_neg (by omega), hz2]; rfl
end Go.Av.Z

/- The references of layers 5 and 6: what is valid. -/
namespace Go.Av.Z
open Go.Proofs

theorem c74 (n : Int) : Con P 74 [] [.int .i64 n] (.bool (within n 99)) [] := by
  refine go Tryz.func74 (by rfl) rfl rfl rfl fun hl => ?_
  (conv => whnf); repeat (first | (refine w ?_; conv => whnf) | (refine ⟨fun h => absurd h Bool.false_ne_true, fun _ => ?_⟩; conv => whnf) | (refine ⟨fun _ => ?_, fun h => absurd h.symm Bool.false_ne_true⟩; conv => whnf))
  refine ⟨fun h => ?_, fun h => ?_⟩
  · (conv => whnf); repeat (first | (refine w ?_; conv => whnf) | (refine ⟨fun h => absurd h Bool.false_ne_true, fun _ => ?_⟩; conv => whnf) | (refine ⟨fun _ => ?_, fun h => absurd h.symm Bool.false_ne_true⟩; conv => whnf))
    refine fin_frz TT ?_ rfl
    have h : 0 ≤ n := by simpa using h
    simp [within, h]; rfl
  · (conv => whnf); repeat (first | (refine w ?_; conv => whnf) | (refine ⟨fun h => absurd h Bool.false_ne_true, fun _ => ?_⟩; conv => whnf) | (refine ⟨fun _ => ?_, fun h => absurd h.symm Bool.false_ne_true⟩; conv => whnf))
    refine fin_frz TT ?_ rfl
    have h : ¬ 0 ≤ n := by simpa using h
    simp [within, h]; rfl
theorem fits_eq (e : Edge) (n : Nat) : fits e n = (within e.type 99 && (decide (0 ≤ e.src) && (decide (e.src < n) && (decide (0 ≤ e.dst) && decide (e.dst < n))))) := by
  unfold fits within
  have e1 : decide (e.src ≤ (n : Int) - 1) = decide (e.src < n) := by rw [decide_eq_decide]; omega
  have e2 : decide (e.dst ≤ (n : Int) - 1) = decide (e.dst < n) := by rw [decide_eq_decide]; omega
  rw [e1, e2]
  simp [Bool.and_assoc]
theorem c75 (e : Edge) (n : Nat) : Con P 75 [] [.agg e.el, .int .i64 n] (.bool (fits e n)) [] := by
  refine go Tryz.func75 (by rfl) rfl rfl rfl fun hl => ?_
  (conv => whnf); repeat (first | (refine w ?_; conv => whnf) | (refine ⟨fun h => absurd h Bool.false_ne_true, fun _ => ?_⟩; conv => whnf) | (refine ⟨fun _ => ?_, fun h => absurd h.symm Bool.false_ne_true⟩; conv => whnf))
  refine ⟨_, _, c74 _, ?_⟩
  (conv => whnf); repeat (first | (refine w ?_; conv => whnf) | (refine ⟨fun h => absurd h Bool.false_ne_true, fun _ => ?_⟩; conv => whnf) | (refine ⟨fun _ => ?_, fun h => absurd h.symm Bool.false_ne_true⟩; conv => whnf))
  refine ⟨fun h1 => ?_, fun h1 => ?_⟩
  · (conv => whnf); repeat (first | (refine w ?_; conv => whnf) | (refine ⟨fun h => absurd h Bool.false_ne_true, fun _ => ?_⟩; conv => whnf) | (refine ⟨fun _ => ?_, fun h => absurd h.symm Bool.false_ne_true⟩; conv => whnf))
    refine ⟨fun h2 => ?_, fun h2 => ?_⟩
    · (conv => whnf); repeat (first | (refine w ?_; conv => whnf) | (refine ⟨fun h => absurd h Bool.false_ne_true, fun _ => ?_⟩; conv => whnf) | (refine ⟨fun _ => ?_, fun h => absurd h.symm Bool.false_ne_true⟩; conv => whnf))
      refine ⟨fun h3 => ?_, fun h3 => ?_⟩
      · (conv => whnf); repeat (first | (refine w ?_; conv => whnf) | (refine ⟨fun h => absurd h Bool.false_ne_true, fun _ => ?_⟩; conv => whnf) | (refine ⟨fun _ => ?_, fun h => absurd h.symm Bool.false_ne_true⟩; conv => whnf))
        refine ⟨fun h4 => ?_, fun h4 => ?_⟩
        · (conv => whnf); repeat (first | (refine w ?_; conv => whnf) | (refine ⟨fun h => absurd h Bool.false_ne_true, fun _ => ?_⟩; conv => whnf) | (refine ⟨fun _ => ?_, fun h => absurd h.symm Bool.false_ne_true⟩; conv => whnf))
          refine fin_frz TT ?_ rfl
          rw [fits_eq, h1, h2, h3, h4]; rfl
        · (conv => whnf); repeat (first | (refine w ?_; conv => whnf) | (refine ⟨fun h => absurd h Bool.false_ne_true, fun _ => ?_⟩; conv => whnf) | (refine ⟨fun _ => ?_, fun h => absurd h.symm Bool.false_ne_true⟩; conv => whnf))
          refine fin_frz TT ?_ rfl
          rw [fits_eq, h1, h2, h3, h4]; rfl
      · (conv => whnf); repeat (first | (refine w ?_; conv => whnf) | (refine ⟨fun h => absurd h Bool.false_ne_true, fun _ => ?_⟩; conv => whnf) | (refine ⟨fun _ => ?_, fun h => absurd h.symm Bool.false_ne_true⟩; conv => whnf))
        refine fin_frz TT ?_ rfl
        rw [fits_eq, h1, h2, h3]; rfl
    · (conv => whnf); repeat (first | (refine w ?_; conv => whnf) | (refine ⟨fun h => absurd h Bool.false_ne_true, fun _ => ?_⟩; conv => whnf) | (refine ⟨fun _ => ?_, fun h => absurd h.symm Bool.false_ne_true⟩; conv => whnf))
      refine fin_frz TT ?_ rfl
      rw [fits_eq, h1, h2]; rfl
  · (conv => whnf); repeat (first | (refine w ?_; conv => whnf) | (refine ⟨fun h => absurd h Bool.false_ne_true, fun _ => ?_⟩; conv => whnf) | (refine ⟨fun _ => ?_, fun h => absurd h.symm Bool.false_ne_true⟩; conv => whnf))
    refine fin_frz TT ?_ rfl
    rw [fits_eq, h1]; rfl
theorem gval_of {g : Graph} (h1 : ¬ g.nodes.length > 40) (h2 : ¬ g.edges.length > 80) : gval g = if g.nodes.any (fun n => !within n 99) then 6 else if g.edges.any (fun e => !fits e g.nodes.length) then 6 else 0 := by
  rw [gval, if_neg (by omega)]
theorem any_at {α : Type} {p : α → Bool} {l : List α} {i : Nat} {x : α} (h : l[i]? = some x) (hp : p x = true) : l.any p = true := List.any_eq_true.2 ⟨x, List.mem_of_getElem? h, hp⟩
theorem any_none {α : Type} {p : α → Bool} {l : List α} {i : Nat} (h : ∀ j y, j < i → l[j]? = some y → p y = false) (hi : l.length ≤ i) : l.any p = false := by
  rw [List.any_eq_false]; intro x hx; simp [none_all h hi x hx]
theorem c35 (g : Graph) : Con P 35 [] [g.av] (.int .i64 (gval g)) [] := by
  refine go Tryz.func35 (by rfl) rfl rfl rfl fun hl => ?_
  (conv => whnf); repeat (first | (refine w ?_; conv => whnf) | (refine ⟨fun h => absurd h Bool.false_ne_true, fun _ => ?_⟩; conv => whnf) | (refine ⟨fun _ => ?_, fun h => absurd h.symm Bool.false_ne_true⟩; conv => whnf))
  rw [nums_len]
  refine ⟨fun h1 => ?_, fun h1 => ?_⟩
  · have h1 : 40 < g.nodes.length := by have := of_decide_eq_true h1; omega
    (conv => whnf); repeat (first | (refine w ?_; conv => whnf) | (refine ⟨fun h => absurd h Bool.false_ne_true, fun _ => ?_⟩; conv => whnf) | (refine ⟨fun _ => ?_, fun h => absurd h.symm Bool.false_ne_true⟩; conv => whnf))
    refine fin_frz TT ?_ rfl
    rw [gval, if_pos (.inl h1)]; rfl
  have h1 : ¬ 40 < g.nodes.length := by have := of_decide_eq_false h1; omega
  (conv => whnf); repeat (first | (refine w ?_; conv => whnf) | (refine ⟨fun h => absurd h Bool.false_ne_true, fun _ => ?_⟩; conv => whnf) | (refine ⟨fun _ => ?_, fun h => absurd h.symm Bool.false_ne_true⟩; conv => whnf))
  rw [edgs_len]
  refine ⟨fun h2 => ?_, fun h2 => ?_⟩
  · have h2 : 80 < g.edges.length := by have := of_decide_eq_true h2; omega
    (conv => whnf); repeat (first | (refine w ?_; conv => whnf) | (refine ⟨fun h => absurd h Bool.false_ne_true, fun _ => ?_⟩; conv => whnf) | (refine ⟨fun _ => ?_, fun h => absurd h.symm Bool.false_ne_true⟩; conv => whnf))
    refine fin_frz TT ?_ rfl
    rw [gval, if_pos (.inr h2)]; rfl
  have h2 : ¬ 80 < g.edges.length := by have := of_decide_eq_false h2; omega
  (conv => whnf); repeat (first | (refine w ?_; conv => whnf) | (refine ⟨fun h => absurd h Bool.false_ne_true, fun _ => ?_⟩; conv => whnf) | (refine ⟨fun _ => ?_, fun h => absurd h.symm Bool.false_ne_true⟩; conv => whnf))
  refine loop (fun i : Nat => mkSt [(3, .int .i64 i), (1, .bptr 0 0)] [.box 25 g.cs]) (fun i => i ≤ g.nodes.length ∧ ∀ j y, j < i → g.nodes[j]? = some y → (!within y 99) = false) (fun i => g.nodes.length - i) 0 ⟨Nat.zero_le _, fun j y h => by omega⟩
    (le_of [0] rfl rfl rfl ⟨rfl, rfl, trivial⟩ ⟨rfl, trivial⟩) ?_
  rintro i ⟨hi, hno⟩
  (conv => whnf); repeat (first | (refine w ?_; conv => whnf) | (refine ⟨fun h => absurd h Bool.false_ne_true, fun _ => ?_⟩; conv => whnf) | (refine ⟨fun _ => ?_, fun h => absurd h.symm Bool.false_ne_true⟩; conv => whnf))
  rw [nums_len]
  refine ⟨fun hlt => ?_, fun hge => ?_⟩
  · have hlt : i < g.nodes.length := by simpa using hlt
    have hx : g.nodes[i]? = some g.nodes[i] := List.getElem?_eq_getElem hlt
    generalize g.nodes[i] = x at hx
    (conv => whnf); repeat (first | (refine w ?_; conv => whnf) | (refine ⟨fun h => absurd h Bool.false_ne_true, fun _ => ?_⟩; conv => whnf) | (refine ⟨fun _ => ?_, fun h => absurd h.symm Bool.false_ne_true⟩; conv => whnf))
    refine ⟨by omega, _, nums_at hx, ?_⟩
    (conv => whnf); repeat (first | (refine w ?_; conv => whnf) | (refine ⟨fun h => absurd h Bool.false_ne_true, fun _ => ?_⟩; conv => whnf) | (refine ⟨fun _ => ?_, fun h => absurd h.symm Bool.false_ne_true⟩; conv => whnf))
    refine ⟨_, _, c74 _, ?_⟩
    (conv => whnf); repeat (first | (refine w ?_; conv => whnf) | (refine ⟨fun h => absurd h Bool.false_ne_true, fun _ => ?_⟩; conv => whnf) | (refine ⟨fun _ => ?_, fun h => absurd h.symm Bool.false_ne_true⟩; conv => whnf))
    refine ⟨fun h3 => ?_, fun h3 => ?_⟩
    · (conv => whnf); repeat (first | (refine w ?_; conv => whnf) | (refine ⟨fun h => absurd h Bool.false_ne_true, fun _ => ?_⟩; conv => whnf) | (refine ⟨fun _ => ?_, fun h => absurd h.symm Bool.false_ne_true⟩; conv => whnf))
      refine fin_frz TT ?_ rfl
      rw [gval_of h1 h2, if_pos (any_at hx h3)]; rfl
    · (conv => whnf); repeat (first | (refine w ?_; conv => whnf) | (refine ⟨fun h => absurd h Bool.false_ne_true, fun _ => ?_⟩; conv => whnf) | (refine ⟨fun _ => ?_, fun h => absurd h.symm Bool.false_ne_true⟩; conv => whnf))
      exact ⟨i + 1, ⟨hlt, none_upto hno hx h3⟩, by show g.nodes.length - (i + 1) < g.nodes.length - i; omega, le_of [0] rfl rfl rfl ⟨step_num hlt (by omega), rfl, trivial⟩ ⟨rfl, trivial⟩⟩
  · have hge : ¬ i < g.nodes.length := by simpa using hge
    have hz : g.nodes.any (fun n => !within n 99) = false := any_none hno (by omega)
    clear hno
    (conv => whnf); repeat (first | (refine w ?_; conv => whnf) | (refine ⟨fun h => absurd h Bool.false_ne_true, fun _ => ?_⟩; conv => whnf) | (refine ⟨fun _ => ?_, fun h => absurd h.symm Bool.false_ne_true⟩; conv => whnf))
    refine loop (fun i : Nat => mkSt [(4, .int .i64 i), (1, .bptr 0 0)] [.box 25 g.cs]) (fun i => i ≤ g.edges.length ∧ ∀ j y, j < i → g.edges[j]? = some y → (!fits y g.nodes.length) = false) (fun i => g.edges.length - i) 0 ⟨Nat.zero_le _, fun j y h => by omega⟩
      (le_of [0] rfl rfl rfl ⟨rfl, rfl, trivial⟩ ⟨rfl, trivial⟩) ?_
    rintro i ⟨hi, hno⟩
    (conv => whnf); repeat (first | (refine w ?_; conv => whnf) | (refine ⟨fun h => absurd h Bool.false_ne_true, fun _ => ?_⟩; conv => whnf) | (refine ⟨fun _ => ?_, fun h => absurd h.symm Bool.false_ne_true⟩; conv => whnf))
    rw [edgs_len]
    refine ⟨fun hlt => ?_, fun hge => ?_⟩
    · have hlt : i < g.edges.length := by simpa using hlt
      have hx : g.edges[i]? = some g.edges[i] := List.getElem?_eq_getElem hlt
      generalize g.edges[i] = x at hx
      (conv => whnf); repeat (first | (refine w ?_; conv => whnf) | (refine ⟨fun h => absurd h Bool.false_ne_true, fun _ => ?_⟩; conv => whnf) | (refine ⟨fun _ => ?_, fun h => absurd h.symm Bool.false_ne_true⟩; conv => whnf))
      refine ⟨by omega, _, edgs_at hx, ?_⟩
      (conv => whnf); repeat (first | (refine w ?_; conv => whnf) | (refine ⟨fun h => absurd h Bool.false_ne_true, fun _ => ?_⟩; conv => whnf) | (refine ⟨fun _ => ?_, fun h => absurd h.symm Bool.false_ne_true⟩; conv => whnf))
      rw [nums_len]
      refine ⟨_, _, c75 x g.nodes.length, ?_⟩
      (conv => whnf); repeat (first | (refine w ?_; conv => whnf) | (refine ⟨fun h => absurd h Bool.false_ne_true, fun _ => ?_⟩; conv => whnf) | (refine ⟨fun _ => ?_, fun h => absurd h.symm Bool.false_ne_true⟩; conv => whnf))
      refine ⟨rfl, ?_⟩
      (conv => whnf); repeat (first | (refine w ?_; conv => whnf) | (refine ⟨fun h => absurd h Bool.false_ne_true, fun _ => ?_⟩; conv => whnf) | (refine ⟨fun _ => ?_, fun h => absurd h.symm Bool.false_ne_true⟩; conv => whnf))
      refine ⟨fun h3 => ?_, fun h3 => ?_⟩
      · (conv => whnf); repeat (first | (refine w ?_; conv => whnf) | (refine ⟨fun h => absurd h Bool.false_ne_true, fun _ => ?_⟩; conv => whnf) | (refine ⟨fun _ => ?_, fun h => absurd h.symm Bool.false_ne_true⟩; conv => whnf))
        refine fin_frz TT ?_ rfl
        rw [gval_of h1 h2, if_neg (by simp [hz]), if_pos (any_at hx h3)]; rfl
      · (conv => whnf); repeat (first | (refine w ?_; conv => whnf) | (refine ⟨fun h => absurd h Bool.false_ne_true, fun _ => ?_⟩; conv => whnf) | (refine ⟨fun _ => ?_, fun h => absurd h.symm Bool.false_ne_true⟩; conv => whnf))
        exact ⟨i + 1, ⟨hlt, none_upto hno hx h3⟩, by show g.edges.length - (i + 1) < g.edges.length - i; omega, le_of [0] rfl rfl rfl ⟨step_num hlt (by omega), rfl, trivial⟩ ⟨rfl, trivial⟩⟩
    · have hge : ¬ i < g.edges.length := by simpa using hge
      have hz2 : g.edges.any (fun e => !fits e g.nodes.length) = false := any_none hno (by omega)
      (conv => whnf); repeat (first | (refine w ?_; conv => whnf) | (refine ⟨fun h => absurd h Bool.false_ne_true, fun _ => ?_⟩; conv => whnf) | (refine ⟨fun _ => ?_, fun h => absurd h.symm Bool.false_ne_true⟩; conv => whnf))
      refine fin_frz TT ?_ rfl
      rw [gval_of h1 h2, if_neg (by simp [hz]), if_neg (by simp [hz2])]; rfl
end Go.Av.Z

/- The reference of layer 6: valid morphisms. -/
namespace Go.Av.Z
open Go.Proofs

theorem c45 (a b : Graph) (m : Mor) : Con P 45 [] [a.av, b.av, m.av] (.int .i64 (mval a b m)) [] := by
  refine go Tryz.func45 (by rfl) rfl rfl rfl fun hl => ?_
  (conv => whnf); repeat (first | (refine w ?_; conv => whnf) | (refine ⟨fun h => absurd h Bool.false_ne_true, fun _ => ?_⟩; conv => whnf) | (refine ⟨fun _ => ?_, fun h => absurd h.symm Bool.false_ne_true⟩; conv => whnf))
  refine ⟨_, _, c35 a, ?_⟩
  (conv => whnf); repeat (first | (refine w ?_; conv => whnf) | (refine ⟨fun h => absurd h Bool.false_ne_true, fun _ => ?_⟩; conv => whnf) | (refine ⟨fun _ => ?_, fun h => absurd h.symm Bool.false_ne_true⟩; conv => whnf))
  refine ⟨fun h1 => ?_, fun h1 => ?_⟩
  · (conv => whnf); repeat (first | (refine w ?_; conv => whnf) | (refine ⟨fun h => absurd h Bool.false_ne_true, fun _ => ?_⟩; conv => whnf) | (refine ⟨fun _ => ?_, fun h => absurd h.symm Bool.false_ne_true⟩; conv => whnf))
    refine fin_frz TT ?_ rfl
    have h1 : gval a ≠ 0 := by simpa using h1
    rw [mval, if_pos h1]; rfl
  have h1 : gval a = 0 := by simpa using h1
  (conv => whnf); repeat (first | (refine w ?_; conv => whnf) | (refine ⟨fun h => absurd h Bool.false_ne_true, fun _ => ?_⟩; conv => whnf) | (refine ⟨fun _ => ?_, fun h => absurd h.symm Bool.false_ne_true⟩; conv => whnf))
  refine ⟨_, _, c35 b, ?_⟩
  (conv => whnf); repeat (first | (refine w ?_; conv => whnf) | (refine ⟨fun h => absurd h Bool.false_ne_true, fun _ => ?_⟩; conv => whnf) | (refine ⟨fun _ => ?_, fun h => absurd h.symm Bool.false_ne_true⟩; conv => whnf))
  refine ⟨fun h2 => ?_, fun h2 => ?_⟩
  · (conv => whnf); repeat (first | (refine w ?_; conv => whnf) | (refine ⟨fun h => absurd h Bool.false_ne_true, fun _ => ?_⟩; conv => whnf) | (refine ⟨fun _ => ?_, fun h => absurd h.symm Bool.false_ne_true⟩; conv => whnf))
    refine fin_frz TT ?_ rfl
    have h2 : gval b ≠ 0 := by simpa using h2
    rw [mval, if_neg (by omega), if_pos h2]; rfl
  have h2 : gval b = 0 := by simpa using h2
  (conv => whnf); repeat (first | (refine w ?_; conv => whnf) | (refine ⟨fun h => absurd h Bool.false_ne_true, fun _ => ?_⟩; conv => whnf) | (refine ⟨fun _ => ?_, fun h => absurd h.symm Bool.false_ne_true⟩; conv => whnf))
  rw [nums_len, nums_len]
  have key : ∀ h3 : m.nodes.length ≠ a.nodes.length ∨ m.edges.length ≠ a.edges.length, mval a b m = 20 := fun h3 => by rw [mval, if_neg (by omega), if_neg (by omega), if_pos h3]
  refine ⟨fun h3 => ?_, fun h3 => ?_⟩
  · have h3 : m.nodes.length ≠ a.nodes.length := by have : ((m.nodes.length : Int) != (a.nodes.length : Int)) = true := h3; simp at this; omega
    (conv => whnf); repeat (first | (refine w ?_; conv => whnf) | (refine ⟨fun h => absurd h Bool.false_ne_true, fun _ => ?_⟩; conv => whnf) | (refine ⟨fun _ => ?_, fun h => absurd h.symm Bool.false_ne_true⟩; conv => whnf))
    refine fin_frz TT ?_ rfl
    rw [key (.inl h3)]; rfl
  have h3 : m.nodes.length = a.nodes.length := by have : ((m.nodes.length : Int) != (a.nodes.length : Int)) = false := h3; simp at this; omega
  (conv => whnf); repeat (first | (refine w ?_; conv => whnf) | (refine ⟨fun h => absurd h Bool.false_ne_true, fun _ => ?_⟩; conv => whnf) | (refine ⟨fun _ => ?_, fun h => absurd h.symm Bool.false_ne_true⟩; conv => whnf))
  rw [nums_len, edgs_len]
  refine ⟨fun h4 => ?_, fun h4 => ?_⟩
  · have h4 : m.edges.length ≠ a.edges.length := by have : ((m.edges.length : Int) != (a.edges.length : Int)) = true := h4; simp at this; omega
    (conv => whnf); repeat (first | (refine w ?_; conv => whnf) | (refine ⟨fun h => absurd h Bool.false_ne_true, fun _ => ?_⟩; conv => whnf) | (refine ⟨fun _ => ?_, fun h => absurd h.symm Bool.false_ne_true⟩; conv => whnf))
    refine fin_frz TT ?_ rfl
    rw [key (.inr h4)]; rfl
  have h4 : m.edges.length = a.edges.length := by have : ((m.edges.length : Int) != (a.edges.length : Int)) = false := h4; simp at this; omega
  (conv => whnf); repeat (first | (refine w ?_; conv => whnf) | (refine ⟨fun h => absurd h Bool.false_ne_true, fun _ => ?_⟩; conv => whnf) | (refine ⟨fun _ => ?_, fun h => absurd h.symm Bool.false_ne_true⟩; conv => whnf))
  have hb : b.nodes.length ≤ 40 ∧ b.edges.length ≤ 80 := gval_len h2
  have ha : a.nodes.length ≤ 40 ∧ a.edges.length ≤ 80 := gval_len h1
  refine loop (fun i : Nat => mkSt [(9, .int .i64 i), (3, .bptr 0 0), (4, .bptr 1 0), (5, .bptr 2 0)] [.box 25 a.cs, .box 25 b.cs, .box 32 m.cs]) (fun i => i ≤ m.nodes.length ∧ ∀ j y, j < i → m.nodes[j]? = some y → mnode a b j y = 0) (fun i => m.nodes.length - i) 0 ⟨Nat.zero_le _, fun j y h => by omega⟩
    (le_of [0, 1, 2] rfl rfl rfl ⟨rfl, rfl, rfl, rfl, trivial⟩ ⟨rfl, rfl, rfl, trivial⟩) ?_
  rintro i ⟨hi, hno⟩
  (conv => whnf); repeat (first | (refine w ?_; conv => whnf) | (refine ⟨fun h => absurd h Bool.false_ne_true, fun _ => ?_⟩; conv => whnf) | (refine ⟨fun _ => ?_, fun h => absurd h.symm Bool.false_ne_true⟩; conv => whnf))
  rw [nums_len]
  refine ⟨fun hlt => ?_, fun hge => ?_⟩
  · have hlt : i < m.nodes.length := by have := of_decide_eq_true hlt; omega
    have hx : m.nodes[i]? = some m.nodes[i] := List.getElem?_eq_getElem hlt
    generalize m.nodes[i] = k at hx
    (conv => whnf); repeat (first | (refine w ?_; conv => whnf) | (refine ⟨fun h => absurd h Bool.false_ne_true, fun _ => ?_⟩; conv => whnf) | (refine ⟨fun _ => ?_, fun h => absurd h.symm Bool.false_ne_true⟩; conv => whnf))
    refine ⟨by omega, _, nums_at hx, ?_⟩
    (conv => whnf); repeat (first | (refine w ?_; conv => whnf) | (refine ⟨fun h => absurd h Bool.false_ne_true, fun _ => ?_⟩; conv => whnf) | (refine ⟨fun _ => ?_, fun h => absurd h.symm Bool.false_ne_true⟩; conv => whnf))
    have bad : ∀ e : Int, mnode a b i k = e → e ≠ 0 → mval a b m = e := fun e he hne => by
      have := errs_first hno hx (by rw [he]; exact hne)
      rw [mval, if_neg (by omega), if_neg (by omega), if_neg (by omega), if_pos (by rw [this, he]; exact hne), this, he]
    refine ⟨fun h5 => ?_, fun h5 => ?_⟩
    · have h5 : k < 0 := by simpa using h5
      (conv => whnf); repeat (first | (refine w ?_; conv => whnf) | (refine ⟨fun h => absurd h Bool.false_ne_true, fun _ => ?_⟩; conv => whnf) | (refine ⟨fun _ => ?_, fun h => absurd h.symm Bool.false_ne_true⟩; conv => whnf))
      refine ⟨rfl, ?_⟩
      (conv => whnf); repeat (first | (refine w ?_; conv => whnf) | (refine ⟨fun h => absurd h Bool.false_ne_true, fun _ => ?_⟩; conv => whnf) | (refine ⟨fun _ => ?_, fun h => absurd h.symm Bool.false_ne_true⟩; conv => whnf))
      refine fin_frz TT ?_ rfl
      rw [bad 6 (by rw [mnode, if_pos (.inl h5)]) (by decide)]; rfl
    have h5 : ¬ k < 0 := by simpa using h5
    (conv => whnf); repeat (first | (refine w ?_; conv => whnf) | (refine ⟨fun h => absurd h Bool.false_ne_true, fun _ => ?_⟩; conv => whnf) | (refine ⟨fun _ => ?_, fun h => absurd h.symm Bool.false_ne_true⟩; conv => whnf))
    refine ⟨by omega, _, nums_at hx, ?_⟩
    (conv => whnf); repeat (first | (refine w ?_; conv => whnf) | (refine ⟨fun h => absurd h Bool.false_ne_true, fun _ => ?_⟩; conv => whnf) | (refine ⟨fun _ => ?_, fun h => absurd h.symm Bool.false_ne_true⟩; conv => whnf))
    rw [nums_len]
    refine ⟨rfl, ?_⟩
    (conv => whnf); repeat (first | (refine w ?_; conv => whnf) | (refine ⟨fun h => absurd h Bool.false_ne_true, fun _ => ?_⟩; conv => whnf) | (refine ⟨fun _ => ?_, fun h => absurd h.symm Bool.false_ne_true⟩; conv => whnf))
    refine ⟨fun h6 => ?_, fun h6 => ?_⟩
    · have h6 : (b.nodes.length : Int) ≤ k := by simpa using h6
      (conv => whnf); repeat (first | (refine w ?_; conv => whnf) | (refine ⟨fun h => absurd h Bool.false_ne_true, fun _ => ?_⟩; conv => whnf) | (refine ⟨fun _ => ?_, fun h => absurd h.symm Bool.false_ne_true⟩; conv => whnf))
      refine fin_frz TT ?_ rfl
      rw [bad 6 (by rw [mnode, if_pos (.inr h6)]) (by decide)]; rfl
    have h6 : ¬ (b.nodes.length : Int) ≤ k := by simpa using h6
    (conv => whnf); repeat (first | (refine w ?_; conv => whnf) | (refine ⟨fun h => absurd h Bool.false_ne_true, fun _ => ?_⟩; conv => whnf) | (refine ⟨fun _ => ?_, fun h => absurd h.symm Bool.false_ne_true⟩; conv => whnf))
    refine ⟨by omega, _, nums_at hx, ?_⟩
    (conv => whnf); repeat (first | (refine w ?_; conv => whnf) | (refine ⟨fun h => absurd h Bool.false_ne_true, fun _ => ?_⟩; conv => whnf) | (refine ⟨fun _ => ?_, fun h => absurd h.symm Bool.false_ne_true⟩; conv => whnf))
    refine ⟨by omega, _, nums_at (at0_some (by omega)), ?_⟩
    (conv => whnf); repeat (first | (refine w ?_; conv => whnf) | (refine ⟨fun h => absurd h Bool.false_ne_true, fun _ => ?_⟩; conv => whnf) | (refine ⟨fun _ => ?_, fun h => absurd h.symm Bool.false_ne_true⟩; conv => whnf))
    refine ⟨by omega, _, nums_at (at0_some (n := i) (by omega)), ?_⟩
    (conv => whnf); repeat (first | (refine w ?_; conv => whnf) | (refine ⟨fun h => absurd h Bool.false_ne_true, fun _ => ?_⟩; conv => whnf) | (refine ⟨fun _ => ?_, fun h => absurd h.symm Bool.false_ne_true⟩; conv => whnf))
    refine ⟨rfl, ?_⟩
    (conv => whnf); repeat (first | (refine w ?_; conv => whnf) | (refine ⟨fun h => absurd h Bool.false_ne_true, fun _ => ?_⟩; conv => whnf) | (refine ⟨fun _ => ?_, fun h => absurd h.symm Bool.false_ne_true⟩; conv => whnf))
    refine ⟨fun h7 => ?_, fun h7 => ?_⟩
    · have h7 : at0 b.nodes k ≠ at0 a.nodes i := by simpa using h7
      (conv => whnf); repeat (first | (refine w ?_; conv => whnf) | (refine ⟨fun h => absurd h Bool.false_ne_true, fun _ => ?_⟩; conv => whnf) | (refine ⟨fun _ => ?_, fun h => absurd h.symm Bool.false_ne_true⟩; conv => whnf))
      refine fin_frz TT ?_ rfl
      rw [bad 13 (by rw [mnode, if_neg (by omega), if_pos h7]) (by decide)]; rfl
    · have h7 : at0 b.nodes k = at0 a.nodes i := by simpa using h7
      (conv => whnf); repeat (first | (refine w ?_; conv => whnf) | (refine ⟨fun h => absurd h Bool.false_ne_true, fun _ => ?_⟩; conv => whnf) | (refine ⟨fun _ => ?_, fun h => absurd h.symm Bool.false_ne_true⟩; conv => whnf))
      exact ⟨i + 1, ⟨hlt, zero_upto hno hx (by rw [mnode, if_neg (by omega), if_neg (by simpa using h7)])⟩, by show m.nodes.length - (i + 1) < m.nodes.length - i; omega, le_of [0, 1, 2] rfl rfl rfl ⟨step_num hlt (by omega), rfl, rfl, rfl, trivial⟩ ⟨rfl, rfl, rfl, trivial⟩⟩
  · have hge : ¬ i < m.nodes.length := by have := of_decide_eq_false hge; omega
    have hz : errs (mnode a b) 0 m.nodes = 0 := errs_all hno (by omega)
    (conv => whnf); repeat (first | (refine w ?_; conv => whnf) | (refine ⟨fun h => absurd h Bool.false_ne_true, fun _ => ?_⟩; conv => whnf) | (refine ⟨fun _ => ?_, fun h => absurd h.symm Bool.false_ne_true⟩; conv => whnf))
    refine loop (fun i : Nat => mkSt [(10, .int .i64 i), (3, .bptr 0 0), (4, .bptr 1 0), (5, .bptr 2 0)] [.box 25 a.cs, .box 25 b.cs, .box 32 m.cs]) (fun i => i ≤ m.edges.length ∧ ∀ j y, j < i → m.edges[j]? = some y → medge a b m j y = 0) (fun i => m.edges.length - i) 0 ⟨Nat.zero_le _, fun j y h => by omega⟩
      (le_of [0, 1, 2] rfl rfl rfl ⟨rfl, rfl, rfl, rfl, trivial⟩ ⟨rfl, rfl, rfl, trivial⟩) ?_
    clear hno hi
    rintro i ⟨hi, hno⟩
    (conv => whnf); repeat (first | (refine w ?_; conv => whnf) | (refine ⟨fun h => absurd h Bool.false_ne_true, fun _ => ?_⟩; conv => whnf) | (refine ⟨fun _ => ?_, fun h => absurd h.symm Bool.false_ne_true⟩; conv => whnf))
    rw [edgs_len]
    refine ⟨fun hlt => ?_, fun hge => ?_⟩
    · have hlt : i < m.edges.length := by have := of_decide_eq_true hlt; omega
      have hx : m.edges[i]? = some m.edges[i] := List.getElem?_eq_getElem hlt
      generalize m.edges[i] = k at hx
      (conv => whnf); repeat (first | (refine w ?_; conv => whnf) | (refine ⟨fun h => absurd h Bool.false_ne_true, fun _ => ?_⟩; conv => whnf) | (refine ⟨fun _ => ?_, fun h => absurd h.symm Bool.false_ne_true⟩; conv => whnf))
      refine ⟨by omega, _, nums_at hx, ?_⟩
      (conv => whnf); repeat (first | (refine w ?_; conv => whnf) | (refine ⟨fun h => absurd h Bool.false_ne_true, fun _ => ?_⟩; conv => whnf) | (refine ⟨fun _ => ?_, fun h => absurd h.symm Bool.false_ne_true⟩; conv => whnf))
      have bad : ∀ e : Int, medge a b m i k = e → e ≠ 0 → mval a b m = e := fun e he hne => by
        have := errs_first hno hx (by rw [he]; exact hne)
        rw [mval, if_neg (by omega), if_neg (by omega), if_neg (by omega), if_neg (by omega), this, he]
      refine ⟨fun h5 => ?_, fun h5 => ?_⟩
      · have h5 : k < 0 := by simpa using h5
        (conv => whnf); repeat (first | (refine w ?_; conv => whnf) | (refine ⟨fun h => absurd h Bool.false_ne_true, fun _ => ?_⟩; conv => whnf) | (refine ⟨fun _ => ?_, fun h => absurd h.symm Bool.false_ne_true⟩; conv => whnf))
        refine ⟨rfl, ?_⟩
        (conv => whnf); repeat (first | (refine w ?_; conv => whnf) | (refine ⟨fun h => absurd h Bool.false_ne_true, fun _ => ?_⟩; conv => whnf) | (refine ⟨fun _ => ?_, fun h => absurd h.symm Bool.false_ne_true⟩; conv => whnf))
        refine fin_frz TT ?_ rfl
        rw [bad 6 (by rw [medge, if_pos (.inl h5)]) (by decide)]; rfl
      have h5 : ¬ k < 0 := by simpa using h5
      (conv => whnf); repeat (first | (refine w ?_; conv => whnf) | (refine ⟨fun h => absurd h Bool.false_ne_true, fun _ => ?_⟩; conv => whnf) | (refine ⟨fun _ => ?_, fun h => absurd h.symm Bool.false_ne_true⟩; conv => whnf))
      refine ⟨by omega, _, nums_at hx, ?_⟩
      (conv => whnf); repeat (first | (refine w ?_; conv => whnf) | (refine ⟨fun h => absurd h Bool.false_ne_true, fun _ => ?_⟩; conv => whnf) | (refine ⟨fun _ => ?_, fun h => absurd h.symm Bool.false_ne_true⟩; conv => whnf))
      rw [edgs_len]
      refine ⟨rfl, ?_⟩
      (conv => whnf); repeat (first | (refine w ?_; conv => whnf) | (refine ⟨fun h => absurd h Bool.false_ne_true, fun _ => ?_⟩; conv => whnf) | (refine ⟨fun _ => ?_, fun h => absurd h.symm Bool.false_ne_true⟩; conv => whnf))
      refine ⟨fun h6 => ?_, fun h6 => ?_⟩
      · have h6 : (b.edges.length : Int) ≤ k := by simpa using h6
        (conv => whnf); repeat (first | (refine w ?_; conv => whnf) | (refine ⟨fun h => absurd h Bool.false_ne_true, fun _ => ?_⟩; conv => whnf) | (refine ⟨fun _ => ?_, fun h => absurd h.symm Bool.false_ne_true⟩; conv => whnf))
        refine fin_frz TT ?_ rfl
        rw [bad 6 (by rw [medge, if_pos (.inr h6)]) (by decide)]; rfl
      have h6 : ¬ (b.edges.length : Int) ≤ k := by simpa using h6
      have hin := gval_edge h1 (atE_some (l := a.edges) (n := i) (by omega))
      have hxa := atE_some (l := a.edges) (n := i) (by omega)
      have hyb := atE_some (l := b.edges) (n := k) (by omega)
      generalize hea : atE a.edges i = x at *
      generalize heb : atE b.edges k = y at *
      (conv => whnf); repeat (first | (refine w ?_; conv => whnf) | (refine ⟨fun h => absurd h Bool.false_ne_true, fun _ => ?_⟩; conv => whnf) | (refine ⟨fun _ => ?_, fun h => absurd h.symm Bool.false_ne_true⟩; conv => whnf))
      refine ⟨by omega, _, edgs_at hxa, ?_⟩
      (conv => whnf); repeat (first | (refine w ?_; conv => whnf) | (refine ⟨fun h => absurd h Bool.false_ne_true, fun _ => ?_⟩; conv => whnf) | (refine ⟨fun _ => ?_, fun h => absurd h.symm Bool.false_ne_true⟩; conv => whnf))
      refine ⟨by omega, _, nums_at hx, ?_⟩
      (conv => whnf); repeat (first | (refine w ?_; conv => whnf) | (refine ⟨fun h => absurd h Bool.false_ne_true, fun _ => ?_⟩; conv => whnf) | (refine ⟨fun _ => ?_, fun h => absurd h.symm Bool.false_ne_true⟩; conv => whnf))
      refine ⟨by omega, _, edgs_at hyb, ?_⟩
      (conv => whnf); repeat (first | (refine w ?_; conv => whnf) | (refine ⟨fun h => absurd h Bool.false_ne_true, fun _ => ?_⟩; conv => whnf) | (refine ⟨fun _ => ?_, fun h => absurd h.symm Bool.false_ne_true⟩; conv => whnf))
      refine ⟨rfl, ?_⟩
      (conv => whnf); repeat (first | (refine w ?_; conv => whnf) | (refine ⟨fun h => absurd h Bool.false_ne_true, fun _ => ?_⟩; conv => whnf) | (refine ⟨fun _ => ?_, fun h => absurd h.symm Bool.false_ne_true⟩; conv => whnf))
      refine ⟨fun h7 => ?_, fun h7 => ?_⟩
      · have h7 : x.type ≠ y.type := by simpa using h7
        (conv => whnf); repeat (first | (refine w ?_; conv => whnf) | (refine ⟨fun h => absurd h Bool.false_ne_true, fun _ => ?_⟩; conv => whnf) | (refine ⟨fun _ => ?_, fun h => absurd h.symm Bool.false_ne_true⟩; conv => whnf))
        refine fin_frz TT ?_ rfl
        rw [bad 13 (by rw [medge, if_neg (by omega), hea, heb, if_pos h7]) (by decide)]; rfl
      have h7 : x.type = y.type := by simpa using h7
      (conv => whnf); repeat (first | (refine w ?_; conv => whnf) | (refine ⟨fun h => absurd h Bool.false_ne_true, fun _ => ?_⟩; conv => whnf) | (refine ⟨fun _ => ?_, fun h => absurd h.symm Bool.false_ne_true⟩; conv => whnf))
      refine ⟨by omega, _, nums_at (at0_some (by omega)), ?_⟩
      (conv => whnf); repeat (first | (refine w ?_; conv => whnf) | (refine ⟨fun h => absurd h Bool.false_ne_true, fun _ => ?_⟩; conv => whnf) | (refine ⟨fun _ => ?_, fun h => absurd h.symm Bool.false_ne_true⟩; conv => whnf))
      refine ⟨fun h8 => ?_, fun h8 => ?_⟩
      · have h8 : at0 m.nodes x.src ≠ y.src := by simpa using h8
        (conv => whnf); repeat (first | (refine w ?_; conv => whnf) | (refine ⟨fun h => absurd h Bool.false_ne_true, fun _ => ?_⟩; conv => whnf) | (refine ⟨fun _ => ?_, fun h => absurd h.symm Bool.false_ne_true⟩; conv => whnf))
        refine ⟨rfl, ?_⟩
        (conv => whnf); repeat (first | (refine w ?_; conv => whnf) | (refine ⟨fun h => absurd h Bool.false_ne_true, fun _ => ?_⟩; conv => whnf) | (refine ⟨fun _ => ?_, fun h => absurd h.symm Bool.false_ne_true⟩; conv => whnf))
        refine fin_frz TT ?_ rfl
        rw [bad 11 (by rw [medge, if_neg (by omega), hea, heb, if_neg (by simpa using h7), if_pos (.inl h8)]) (by decide)]; rfl
      have h8 : at0 m.nodes x.src = y.src := by simpa using h8
      (conv => whnf); repeat (first | (refine w ?_; conv => whnf) | (refine ⟨fun h => absurd h Bool.false_ne_true, fun _ => ?_⟩; conv => whnf) | (refine ⟨fun _ => ?_, fun h => absurd h.symm Bool.false_ne_true⟩; conv => whnf))
      refine ⟨by omega, _, nums_at (at0_some (by omega)), ?_⟩
      (conv => whnf); repeat (first | (refine w ?_; conv => whnf) | (refine ⟨fun h => absurd h Bool.false_ne_true, fun _ => ?_⟩; conv => whnf) | (refine ⟨fun _ => ?_, fun h => absurd h.symm Bool.false_ne_true⟩; conv => whnf))
      refine ⟨rfl, ?_⟩
      (conv => whnf); repeat (first | (refine w ?_; conv => whnf) | (refine ⟨fun h => absurd h Bool.false_ne_true, fun _ => ?_⟩; conv => whnf) | (refine ⟨fun _ => ?_, fun h => absurd h.symm Bool.false_ne_true⟩; conv => whnf))
      refine ⟨fun h9 => ?_, fun h9 => ?_⟩
      · have h9 : at0 m.nodes x.dst ≠ y.dst := by simpa using h9
        (conv => whnf); repeat (first | (refine w ?_; conv => whnf) | (refine ⟨fun h => absurd h Bool.false_ne_true, fun _ => ?_⟩; conv => whnf) | (refine ⟨fun _ => ?_, fun h => absurd h.symm Bool.false_ne_true⟩; conv => whnf))
        refine fin_frz TT ?_ rfl
        rw [bad 11 (by rw [medge, if_neg (by omega), hea, heb, if_neg (by simpa using h7), if_pos (.inr h9)]) (by decide)]; rfl
      have h9 : at0 m.nodes x.dst = y.dst := by simpa using h9
      (conv => whnf); repeat (first | (refine w ?_; conv => whnf) | (refine ⟨fun h => absurd h Bool.false_ne_true, fun _ => ?_⟩; conv => whnf) | (refine ⟨fun _ => ?_, fun h => absurd h.symm Bool.false_ne_true⟩; conv => whnf))
      exact ⟨i + 1, ⟨hlt, zero_upto hno hx (by rw [medge, if_neg (by omega), hea, heb, if_neg (by simpa using h7), if_neg (by simp [h8, h9])])⟩, by show m.edges.length - (i + 1) < m.edges.length - i; omega, le_of [0, 1, 2] rfl rfl rfl ⟨step_num hlt (by omega), rfl, rfl, rfl, trivial⟩ ⟨rfl, rfl, rfl, trivial⟩⟩
    · have hge : ¬ i < m.edges.length := by have := of_decide_eq_false hge; omega
      have hz2 : errs (medge a b m) 0 m.edges = 0 := errs_all hno (by omega)
      (conv => whnf); repeat (first | (refine w ?_; conv => whnf) | (refine ⟨fun h => absurd h Bool.false_ne_true, fun _ => ?_⟩; conv => whnf) | (refine ⟨fun _ => ?_, fun h => absurd h.symm Bool.false_ne_true⟩; conv => whnf))
      refine fin_frz TT ?_ rfl
      rw [mval, if_neg (by omega), if_neg (by omega), if_neg (by omega), if_neg (by omega), hz2]; rfl
end Go.Av.Z

/- Ascending lists; what a list holds. -/
namespace Go.Av.Z
open Go.Proofs

/-- An element of an ascending list of numbers below n. -/
def aerr (l : List Int) (n : Int) (i : Nat) (k : Int) : Int :=
  if k < 0 ∨ n ≤ k then 6 else if 0 < i ∧ k ≤ at0 l ((i : Int) - 1) then 12 else 0
/-- The error of an ascending list. -/
def aval (l : List Int) (n : Int) : Int := errs (aerr l n) 0 l

theorem step_sub {i : Nat} (h : 0 < i) (hi : i ≤ 9223372036854775807) : IntKind.i64.wrap ((i : Int) - 1) = i - 1 := wrap_small (by omega) (by omega)
theorem of_lt {i n : Nat} (h : decide ((i : Int) < (n : Int)) = true) : i < n := by have := of_decide_eq_true h; omega
theorem of_ge {i n : Nat} (h : decide ((i : Int) < (n : Int)) = false) : ¬ i < n := by have := of_decide_eq_false h; omega
theorem len_nums {l : List Int} {rest : List Nat} (h : ∀ n ∈ lensL [AV.slice 1 (nums l)] ++ rest, n ≤ 9223372036854775807) : l.length ≤ 9223372036854775807 := by
  have := h (nums l).length (by simp [lensL, lens])
  rwa [nums_len] at this
theorem contains_at {l : List Int} {i : Nat} {x n : Int} (hx : l[i]? = some x) (h : (x == n) = true) : l.contains n = true := by
  have := List.mem_of_getElem? hx
  have e : x = n := by simpa using h
  rw [← e]; simpa using this
theorem contains_none {l : List Int} {i : Nat} {n : Int} (h : ∀ j y, j < i → l[j]? = some y → (y == n) = false) (hi : l.length ≤ i) : l.contains n = false := by
  have := none_all (p := fun y => y == n) h hi
  cases hc : l.contains n with
  | false => rfl
  | true =>
    have hm : n ∈ l := by simpa using hc
    have := this n hm
    simp at this
theorem c122 (l : List Int) (n : Int) : Con P 122 [] [.slice 1 (nums l), .int .i64 n] (.bool (l.contains n)) [] := by
  refine go Tryz.func122 (by rfl) rfl rfl rfl fun hl => ?_
  (conv => whnf); repeat (first | (refine w ?_; conv => whnf) | (refine ⟨fun h => absurd h Bool.false_ne_true, fun _ => ?_⟩; conv => whnf) | (refine ⟨fun _ => ?_, fun h => absurd h.symm Bool.false_ne_true⟩; conv => whnf))
  have hn : l.length ≤ 9223372036854775807 := len_nums (rest := []) (fun n h => hl n (by simpa [lensL, lens] using h))
  refine loop (fun i : Nat => mkSt [(5, .int .i64 i), (0, .slice 1 (nums l)), (1, .int .i64 n)] []) (fun i => i ≤ l.length ∧ ∀ j y, j < i → l[j]? = some y → (y == n) = false) (fun i => l.length - i) 0 ⟨Nat.zero_le _, fun j y h => by omega⟩
    (le_of [] rfl rfl rfl ⟨rfl, rfl, rfl, trivial⟩ trivial) ?_
  rintro i ⟨hi, hno⟩
  (conv => whnf); repeat (first | (refine w ?_; conv => whnf) | (refine ⟨fun h => absurd h Bool.false_ne_true, fun _ => ?_⟩; conv => whnf) | (refine ⟨fun _ => ?_, fun h => absurd h.symm Bool.false_ne_true⟩; conv => whnf))
  rw [nums_len]
  refine ⟨fun hlt => ?_, fun hge => ?_⟩
  · have hlt := of_lt hlt
    have hx : l[i]? = some l[i] := List.getElem?_eq_getElem hlt
    generalize l[i] = x at hx
    (conv => whnf); repeat (first | (refine w ?_; conv => whnf) | (refine ⟨fun h => absurd h Bool.false_ne_true, fun _ => ?_⟩; conv => whnf) | (refine ⟨fun _ => ?_, fun h => absurd h.symm Bool.false_ne_true⟩; conv => whnf))
    refine ⟨by omega, _, nums_at hx, ?_⟩
    (conv => whnf); repeat (first | (refine w ?_; conv => whnf) | (refine ⟨fun h => absurd h Bool.false_ne_true, fun _ => ?_⟩; conv => whnf) | (refine ⟨fun _ => ?_, fun h => absurd h.symm Bool.false_ne_true⟩; conv => whnf))
    refine ⟨fun h3 => ?_, fun h3 => ?_⟩
    · (conv => whnf); repeat (first | (refine w ?_; conv => whnf) | (refine ⟨fun h => absurd h Bool.false_ne_true, fun _ => ?_⟩; conv => whnf) | (refine ⟨fun _ => ?_, fun h => absurd h.symm Bool.false_ne_true⟩; conv => whnf))
      refine fin_frz TT ?_ rfl
      rw [contains_at hx h3]; rfl
    · (conv => whnf); repeat (first | (refine w ?_; conv => whnf) | (refine ⟨fun h => absurd h Bool.false_ne_true, fun _ => ?_⟩; conv => whnf) | (refine ⟨fun _ => ?_, fun h => absurd h.symm Bool.false_ne_true⟩; conv => whnf))
      exact ⟨i + 1, ⟨hlt, none_upto (p := fun y => y == n) hno hx h3⟩, by show l.length - (i + 1) < l.length - i; omega, le_of [] rfl rfl rfl ⟨step_num hlt hn, rfl, rfl, trivial⟩ trivial⟩
  · have hge := of_ge hge
    (conv => whnf); repeat (first | (refine w ?_; conv => whnf) | (refine ⟨fun h => absurd h Bool.false_ne_true, fun _ => ?_⟩; conv => whnf) | (refine ⟨fun _ => ?_, fun h => absurd h.symm Bool.false_ne_true⟩; conv => whnf))
    refine fin_frz TT ?_ rfl
    rw [contains_none hno (by omega)]; rfl
theorem c123 (l : List Int) (n : Int) : Con P 123 [] [.slice 1 (nums l), .int .i64 n] (.bool (l.contains n)) [] := by
  refine go Tryz.func123 (by rfl) rfl rfl rfl fun hl => ?_
  (conv => whnf); repeat (first | (refine w ?_; conv => whnf) | (refine ⟨fun h => absurd h Bool.false_ne_true, fun _ => ?_⟩; conv => whnf) | (refine ⟨fun _ => ?_, fun h => absurd h.symm Bool.false_ne_true⟩; conv => whnf))
  have hn : l.length ≤ 9223372036854775807 := len_nums (rest := []) (fun n h => hl n (by simpa [lensL, lens] using h))
  refine loop (fun i : Nat => mkSt [(5, .int .i64 i), (0, .slice 1 (nums l)), (1, .int .i64 n)] []) (fun i => i ≤ l.length ∧ ∀ j y, j < i → l[j]? = some y → (y == n) = false) (fun i => l.length - i) 0 ⟨Nat.zero_le _, fun j y h => by omega⟩
    (le_of [] rfl rfl rfl ⟨rfl, rfl, rfl, trivial⟩ trivial) ?_
  rintro i ⟨hi, hno⟩
  (conv => whnf); repeat (first | (refine w ?_; conv => whnf) | (refine ⟨fun h => absurd h Bool.false_ne_true, fun _ => ?_⟩; conv => whnf) | (refine ⟨fun _ => ?_, fun h => absurd h.symm Bool.false_ne_true⟩; conv => whnf))
  rw [nums_len]
  refine ⟨fun hlt => ?_, fun hge => ?_⟩
  · have hlt := of_lt hlt
    have hx : l[i]? = some l[i] := List.getElem?_eq_getElem hlt
    generalize l[i] = x at hx
    (conv => whnf); repeat (first | (refine w ?_; conv => whnf) | (refine ⟨fun h => absurd h Bool.false_ne_true, fun _ => ?_⟩; conv => whnf) | (refine ⟨fun _ => ?_, fun h => absurd h.symm Bool.false_ne_true⟩; conv => whnf))
    refine ⟨by omega, _, nums_at hx, ?_⟩
    (conv => whnf); repeat (first | (refine w ?_; conv => whnf) | (refine ⟨fun h => absurd h Bool.false_ne_true, fun _ => ?_⟩; conv => whnf) | (refine ⟨fun _ => ?_, fun h => absurd h.symm Bool.false_ne_true⟩; conv => whnf))
    refine ⟨fun h3 => ?_, fun h3 => ?_⟩
    · (conv => whnf); repeat (first | (refine w ?_; conv => whnf) | (refine ⟨fun h => absurd h Bool.false_ne_true, fun _ => ?_⟩; conv => whnf) | (refine ⟨fun _ => ?_, fun h => absurd h.symm Bool.false_ne_true⟩; conv => whnf))
      refine fin_frz TT ?_ rfl
      rw [contains_at hx h3]; rfl
    · (conv => whnf); repeat (first | (refine w ?_; conv => whnf) | (refine ⟨fun h => absurd h Bool.false_ne_true, fun _ => ?_⟩; conv => whnf) | (refine ⟨fun _ => ?_, fun h => absurd h.symm Bool.false_ne_true⟩; conv => whnf))
      exact ⟨i + 1, ⟨hlt, none_upto (p := fun y => y == n) hno hx h3⟩, by show l.length - (i + 1) < l.length - i; omega, le_of [] rfl rfl rfl ⟨step_num hlt hn, rfl, rfl, trivial⟩ trivial⟩
  · have hge := of_ge hge
    (conv => whnf); repeat (first | (refine w ?_; conv => whnf) | (refine ⟨fun h => absurd h Bool.false_ne_true, fun _ => ?_⟩; conv => whnf) | (refine ⟨fun _ => ?_, fun h => absurd h.symm Bool.false_ne_true⟩; conv => whnf))
    refine fin_frz TT ?_ rfl
    rw [contains_none hno (by omega)]; rfl
theorem c121 (l : List Int) (n : Int) : Con P 121 [] [.slice 1 (nums l), .int .i64 n] (.int .i64 (aval l n)) [] := by
  refine go Tryz.func121 (by rfl) rfl rfl rfl fun hl => ?_
  (conv => whnf); repeat (first | (refine w ?_; conv => whnf) | (refine ⟨fun h => absurd h Bool.false_ne_true, fun _ => ?_⟩; conv => whnf) | (refine ⟨fun _ => ?_, fun h => absurd h.symm Bool.false_ne_true⟩; conv => whnf))
  have hn : l.length ≤ 9223372036854775807 := len_nums (rest := []) (fun n h => hl n (by simpa [lensL, lens] using h))
  refine loop (fun i : Nat => mkSt [(5, .int .i64 i), (0, .slice 1 (nums l)), (1, .int .i64 n)] []) (fun i => i ≤ l.length ∧ ∀ j y, j < i → l[j]? = some y → aerr l n j y = 0) (fun i => l.length - i) 0 ⟨Nat.zero_le _, fun j y h => by omega⟩
    (le_of [] rfl rfl rfl ⟨rfl, rfl, rfl, trivial⟩ trivial) ?_
  rintro i ⟨hi, hno⟩
  (conv => whnf); repeat (first | (refine w ?_; conv => whnf) | (refine ⟨fun h => absurd h Bool.false_ne_true, fun _ => ?_⟩; conv => whnf) | (refine ⟨fun _ => ?_, fun h => absurd h.symm Bool.false_ne_true⟩; conv => whnf))
  rw [nums_len]
  refine ⟨fun hlt => ?_, fun hge => ?_⟩
  · have hlt := of_lt hlt
    have hx : l[i]? = some l[i] := List.getElem?_eq_getElem hlt
    generalize l[i] = k at hx
    have bad : ∀ e : Int, aerr l n i k = e → e ≠ 0 → aval l n = e := fun e he hne => by
      rw [aval, errs_first hno hx (by rw [he]; exact hne), he]
    (conv => whnf); repeat (first | (refine w ?_; conv => whnf) | (refine ⟨fun h => absurd h Bool.false_ne_true, fun _ => ?_⟩; conv => whnf) | (refine ⟨fun _ => ?_, fun h => absurd h.symm Bool.false_ne_true⟩; conv => whnf))
    refine ⟨by omega, _, nums_at hx, ?_⟩
    (conv => whnf); repeat (first | (refine w ?_; conv => whnf) | (refine ⟨fun h => absurd h Bool.false_ne_true, fun _ => ?_⟩; conv => whnf) | (refine ⟨fun _ => ?_, fun h => absurd h.symm Bool.false_ne_true⟩; conv => whnf))
    refine ⟨fun h5 => ?_, fun h5 => ?_⟩
    · have h5 : k < 0 := by simpa using h5
      (conv => whnf); repeat (first | (refine w ?_; conv => whnf) | (refine ⟨fun h => absurd h Bool.false_ne_true, fun _ => ?_⟩; conv => whnf) | (refine ⟨fun _ => ?_, fun h => absurd h.symm Bool.false_ne_true⟩; conv => whnf))
      refine fin_frz TT ?_ rfl
      rw [bad 6 (by rw [aerr, if_pos (.inl h5)]) (by decide)]; rfl
    have h5 : ¬ k < 0 := by simpa using h5
    (conv => whnf); repeat (first | (refine w ?_; conv => whnf) | (refine ⟨fun h => absurd h Bool.false_ne_true, fun _ => ?_⟩; conv => whnf) | (refine ⟨fun _ => ?_, fun h => absurd h.symm Bool.false_ne_true⟩; conv => whnf))
    refine ⟨by omega, _, nums_at hx, ?_⟩
    (conv => whnf); repeat (first | (refine w ?_; conv => whnf) | (refine ⟨fun h => absurd h Bool.false_ne_true, fun _ => ?_⟩; conv => whnf) | (refine ⟨fun _ => ?_, fun h => absurd h.symm Bool.false_ne_true⟩; conv => whnf))
    refine ⟨fun h6 => ?_, fun h6 => ?_⟩
    · have h6 : n ≤ k := by simpa using h6
      (conv => whnf); repeat (first | (refine w ?_; conv => whnf) | (refine ⟨fun h => absurd h Bool.false_ne_true, fun _ => ?_⟩; conv => whnf) | (refine ⟨fun _ => ?_, fun h => absurd h.symm Bool.false_ne_true⟩; conv => whnf))
      refine fin_frz TT ?_ rfl
      rw [bad 6 (by rw [aerr, if_pos (.inr h6)]) (by decide)]; rfl
    have h6 : ¬ n ≤ k := by simpa using h6
    (conv => whnf); repeat (first | (refine w ?_; conv => whnf) | (refine ⟨fun h => absurd h Bool.false_ne_true, fun _ => ?_⟩; conv => whnf) | (refine ⟨fun _ => ?_, fun h => absurd h.symm Bool.false_ne_true⟩; conv => whnf))
    refine ⟨fun h7 => ?_, fun h7 => ?_⟩
    · have h7 : 0 < i := by have := of_decide_eq_true h7; omega
      (conv => whnf); repeat (first | (refine w ?_; conv => whnf) | (refine ⟨fun h => absurd h Bool.false_ne_true, fun _ => ?_⟩; conv => whnf) | (refine ⟨fun _ => ?_, fun h => absurd h.symm Bool.false_ne_true⟩; conv => whnf))
      refine ⟨by omega, _, nums_at hx, ?_⟩
      (conv => whnf); repeat (first | (refine w ?_; conv => whnf) | (refine ⟨fun h => absurd h Bool.false_ne_true, fun _ => ?_⟩; conv => whnf) | (refine ⟨fun _ => ?_, fun h => absurd h.symm Bool.false_ne_true⟩; conv => whnf))
      rw [step_sub h7 (by omega)]
      refine ⟨by omega, _, nums_at (at0_some (by omega)), ?_⟩
      (conv => whnf); repeat (first | (refine w ?_; conv => whnf) | (refine ⟨fun h => absurd h Bool.false_ne_true, fun _ => ?_⟩; conv => whnf) | (refine ⟨fun _ => ?_, fun h => absurd h.symm Bool.false_ne_true⟩; conv => whnf))
      refine ⟨rfl, ?_⟩
      (conv => whnf); repeat (first | (refine w ?_; conv => whnf) | (refine ⟨fun h => absurd h Bool.false_ne_true, fun _ => ?_⟩; conv => whnf) | (refine ⟨fun _ => ?_, fun h => absurd h.symm Bool.false_ne_true⟩; conv => whnf))
      refine ⟨fun h8 => ?_, fun h8 => ?_⟩
      · have h8 : k ≤ at0 l ((i : Int) - 1) := by simpa using h8
        (conv => whnf); repeat (first | (refine w ?_; conv => whnf) | (refine ⟨fun h => absurd h Bool.false_ne_true, fun _ => ?_⟩; conv => whnf) | (refine ⟨fun _ => ?_, fun h => absurd h.symm Bool.false_ne_true⟩; conv => whnf))
        refine fin_frz TT ?_ rfl
        rw [bad 12 (by rw [aerr, if_neg (by omega), if_pos ⟨h7, h8⟩]) (by decide)]; rfl
      · have h8 : ¬ k ≤ at0 l ((i : Int) - 1) := by simpa using h8
        (conv => whnf); repeat (first | (refine w ?_; conv => whnf) | (refine ⟨fun h => absurd h Bool.false_ne_true, fun _ => ?_⟩; conv => whnf) | (refine ⟨fun _ => ?_, fun h => absurd h.symm Bool.false_ne_true⟩; conv => whnf))
        exact ⟨i + 1, ⟨hlt, zero_upto hno hx (by rw [aerr, if_neg (by omega), if_neg (fun h => h8 h.2)])⟩, by show l.length - (i + 1) < l.length - i; omega, le_of [] rfl rfl rfl ⟨step_num hlt hn, rfl, rfl, trivial⟩ trivial⟩
    · have h7 : ¬ 0 < i := by have := of_decide_eq_false h7; omega
      (conv => whnf); repeat (first | (refine w ?_; conv => whnf) | (refine ⟨fun h => absurd h Bool.false_ne_true, fun _ => ?_⟩; conv => whnf) | (refine ⟨fun _ => ?_, fun h => absurd h.symm Bool.false_ne_true⟩; conv => whnf))
      refine ⟨rfl, ?_⟩
      (conv => whnf); repeat (first | (refine w ?_; conv => whnf) | (refine ⟨fun h => absurd h Bool.false_ne_true, fun _ => ?_⟩; conv => whnf) | (refine ⟨fun _ => ?_, fun h => absurd h.symm Bool.false_ne_true⟩; conv => whnf))
      exact ⟨i + 1, ⟨hlt, zero_upto hno hx (by rw [aerr, if_neg (by omega), if_neg (fun h => h7 h.1)])⟩, by show l.length - (i + 1) < l.length - i; omega, le_of [] rfl rfl rfl ⟨step_num hlt hn, rfl, rfl, trivial⟩ trivial⟩
  · have hge := of_ge hge
    (conv => whnf); repeat (first | (refine w ?_; conv => whnf) | (refine ⟨fun h => absurd h Bool.false_ne_true, fun _ => ?_⟩; conv => whnf) | (refine ⟨fun _ => ?_, fun h => absurd h.symm Bool.false_ne_true⟩; conv => whnf))
    refine fin_frz TT ?_ rfl
    rw [aval, errs_all hno (by omega)]; rfl
theorem c108 (l : List Int) (n : Int) : Con P 108 [] [.slice 1 (nums l), .int .i64 n] (.int .i64 (aval l n)) [] := by
  refine go Tryz.func108 (by rfl) rfl rfl rfl fun hl => ?_
  (conv => whnf); repeat (first | (refine w ?_; conv => whnf) | (refine ⟨fun h => absurd h Bool.false_ne_true, fun _ => ?_⟩; conv => whnf) | (refine ⟨fun _ => ?_, fun h => absurd h.symm Bool.false_ne_true⟩; conv => whnf))
  have hn : l.length ≤ 9223372036854775807 := len_nums (rest := []) (fun n h => hl n (by simpa [lensL, lens] using h))
  refine loop (fun i : Nat => mkSt [(9, .int .i64 i), (8, .int .i64 l.length), (7, .slice 1 (nums l)), (0, .slice 1 (nums l)), (1, .int .i64 n)] []) (fun i => i ≤ l.length ∧ ∀ j y, j < i → l[j]? = some y → aerr l n j y = 0) (fun i => l.length - i) 0 ⟨Nat.zero_le _, fun j y h => by omega⟩
    (le_of [] rfl rfl rfl ⟨rfl, by rw [nums_len]; rfl, rfl, rfl, rfl, trivial⟩ trivial) ?_
  rintro i ⟨hi, hno⟩
  (conv => whnf); repeat (first | (refine w ?_; conv => whnf) | (refine ⟨fun h => absurd h Bool.false_ne_true, fun _ => ?_⟩; conv => whnf) | (refine ⟨fun _ => ?_, fun h => absurd h.symm Bool.false_ne_true⟩; conv => whnf))
  refine ⟨fun hlt => ?_, fun hge => ?_⟩
  · have hlt := of_lt hlt
    have hx : l[i]? = some l[i] := List.getElem?_eq_getElem hlt
    generalize l[i] = k at hx
    have bad : ∀ e : Int, aerr l n i k = e → e ≠ 0 → aval l n = e := fun e he hne => by
      rw [aval, errs_first hno hx (by rw [he]; exact hne), he]
    (conv => whnf); repeat (first | (refine w ?_; conv => whnf) | (refine ⟨fun h => absurd h Bool.false_ne_true, fun _ => ?_⟩; conv => whnf) | (refine ⟨fun _ => ?_, fun h => absurd h.symm Bool.false_ne_true⟩; conv => whnf))
    refine ⟨by omega, _, nums_at hx, ?_⟩
    (conv => whnf); repeat (first | (refine w ?_; conv => whnf) | (refine ⟨fun h => absurd h Bool.false_ne_true, fun _ => ?_⟩; conv => whnf) | (refine ⟨fun _ => ?_, fun h => absurd h.symm Bool.false_ne_true⟩; conv => whnf))
    refine ⟨fun h5 => ?_, fun h5 => ?_⟩
    · have h5 : k < 0 := by simpa using h5
      (conv => whnf); repeat (first | (refine w ?_; conv => whnf) | (refine ⟨fun h => absurd h Bool.false_ne_true, fun _ => ?_⟩; conv => whnf) | (refine ⟨fun _ => ?_, fun h => absurd h.symm Bool.false_ne_true⟩; conv => whnf))
      refine fin_frz TT ?_ rfl
      rw [bad 6 (by rw [aerr, if_pos (.inl h5)]) (by decide)]; rfl
    have h5 : ¬ k < 0 := by simpa using h5
    (conv => whnf); repeat (first | (refine w ?_; conv => whnf) | (refine ⟨fun h => absurd h Bool.false_ne_true, fun _ => ?_⟩; conv => whnf) | (refine ⟨fun _ => ?_, fun h => absurd h.symm Bool.false_ne_true⟩; conv => whnf))
    refine ⟨fun h6 => ?_, fun h6 => ?_⟩
    · have h6 : n ≤ k := by simpa using h6
      (conv => whnf); repeat (first | (refine w ?_; conv => whnf) | (refine ⟨fun h => absurd h Bool.false_ne_true, fun _ => ?_⟩; conv => whnf) | (refine ⟨fun _ => ?_, fun h => absurd h.symm Bool.false_ne_true⟩; conv => whnf))
      refine fin_frz TT ?_ rfl
      rw [bad 6 (by rw [aerr, if_pos (.inr h6)]) (by decide)]; rfl
    have h6 : ¬ n ≤ k := by simpa using h6
    (conv => whnf); repeat (first | (refine w ?_; conv => whnf) | (refine ⟨fun h => absurd h Bool.false_ne_true, fun _ => ?_⟩; conv => whnf) | (refine ⟨fun _ => ?_, fun h => absurd h.symm Bool.false_ne_true⟩; conv => whnf))
    refine ⟨fun h7 => ?_, fun h7 => ?_⟩
    · have h7 : 0 < i := by have := of_decide_eq_true h7; omega
      (conv => whnf); repeat (first | (refine w ?_; conv => whnf) | (refine ⟨fun h => absurd h Bool.false_ne_true, fun _ => ?_⟩; conv => whnf) | (refine ⟨fun _ => ?_, fun h => absurd h.symm Bool.false_ne_true⟩; conv => whnf))
      rw [step_sub h7 (by omega)]
      refine ⟨by omega, _, nums_at (at0_some (by omega)), ?_⟩
      (conv => whnf); repeat (first | (refine w ?_; conv => whnf) | (refine ⟨fun h => absurd h Bool.false_ne_true, fun _ => ?_⟩; conv => whnf) | (refine ⟨fun _ => ?_, fun h => absurd h.symm Bool.false_ne_true⟩; conv => whnf))
      refine ⟨fun h8 => ?_, fun h8 => ?_⟩
      · have h8 : k ≤ at0 l ((i : Int) - 1) := by simpa using h8
        (conv => whnf); repeat (first | (refine w ?_; conv => whnf) | (refine ⟨fun h => absurd h Bool.false_ne_true, fun _ => ?_⟩; conv => whnf) | (refine ⟨fun _ => ?_, fun h => absurd h.symm Bool.false_ne_true⟩; conv => whnf))
        refine fin_frz TT ?_ rfl
        rw [bad 12 (by rw [aerr, if_neg (by omega), if_pos ⟨h7, h8⟩]) (by decide)]; rfl
      · have h8 : ¬ k ≤ at0 l ((i : Int) - 1) := by simpa using h8
        (conv => whnf); repeat (first | (refine w ?_; conv => whnf) | (refine ⟨fun h => absurd h Bool.false_ne_true, fun _ => ?_⟩; conv => whnf) | (refine ⟨fun _ => ?_, fun h => absurd h.symm Bool.false_ne_true⟩; conv => whnf))
        exact ⟨i + 1, ⟨hlt, zero_upto hno hx (by rw [aerr, if_neg (by omega), if_neg (fun h => h8 h.2)])⟩, by show l.length - (i + 1) < l.length - i; omega, le_of [] rfl rfl rfl ⟨step_num hlt hn, rfl, rfl, rfl, rfl, trivial⟩ trivial⟩
    · have h7 : ¬ 0 < i := by have := of_decide_eq_false h7; omega
      (conv => whnf); repeat (first | (refine w ?_; conv => whnf) | (refine ⟨fun h => absurd h Bool.false_ne_true, fun _ => ?_⟩; conv => whnf) | (refine ⟨fun _ => ?_, fun h => absurd h.symm Bool.false_ne_true⟩; conv => whnf))
      exact ⟨i + 1, ⟨hlt, zero_upto hno hx (by rw [aerr, if_neg (by omega), if_neg (fun h => h7 h.1)])⟩, by show l.length - (i + 1) < l.length - i; omega, le_of [] rfl rfl rfl ⟨step_num hlt hn, rfl, rfl, rfl, rfl, trivial⟩ trivial⟩
  · have hge := of_ge hge
    (conv => whnf); repeat (first | (refine w ?_; conv => whnf) | (refine ⟨fun h => absurd h Bool.false_ne_true, fun _ => ?_⟩; conv => whnf) | (refine ⟨fun _ => ?_, fun h => absurd h.symm Bool.false_ne_true⟩; conv => whnf))
    refine fin_frz TT ?_ rfl
    rw [aval, errs_all hno (by omega)]; rfl
end Go.Av.Z

/- Binary search; parts: what is valid. -/
namespace Go.Av.Z
open Go.Proofs

theorem c142 (n : Int) : Con P 142 [] [.int .i64 n] (.bool false) [] := by
  refine go Tryz.func142 (by rfl) rfl rfl rfl fun hl => ?_
  (conv => whnf); repeat (first | (refine w ?_; conv => whnf) | (refine ⟨fun h => absurd h Bool.false_ne_true, fun _ => ?_⟩; conv => whnf) | (refine ⟨fun _ => ?_, fun h => absurd h.symm Bool.false_ne_true⟩; conv => whnf))
  refine fin_frz TT ?_ rfl
  show AV.bool (n != n) = _
  simp
theorem c111 (n : Int) : Con P 111 [] [.int .i64 n] (.bool false) [] := by
  refine go Tryz.func111 (by rfl) rfl rfl rfl fun hl => ?_
  (conv => whnf); repeat (first | (refine w ?_; conv => whnf) | (refine ⟨fun h => absurd h Bool.false_ne_true, fun _ => ?_⟩; conv => whnf) | (refine ⟨fun _ => ?_, fun h => absurd h.symm Bool.false_ne_true⟩; conv => whnf))
  refine fin_frz TT ?_ rfl
  show AV.bool (n != n) = _
  simp
theorem c110 (m n : Int) : Con P 110 [] [.int .i64 m, .int .i64 n] (.bool (decide (m < n))) [] := by
  refine go Tryz.func110 (by rfl) rfl rfl rfl fun hl => ?_
  (conv => whnf); repeat (first | (refine w ?_; conv => whnf) | (refine ⟨fun h => absurd h Bool.false_ne_true, fun _ => ?_⟩; conv => whnf) | (refine ⟨fun _ => ?_, fun h => absurd h.symm Bool.false_ne_true⟩; conv => whnf))
  refine ⟨_, _, c142 _, ?_⟩
  (conv => whnf); repeat (first | (refine w ?_; conv => whnf) | (refine ⟨fun h => absurd h Bool.false_ne_true, fun _ => ?_⟩; conv => whnf) | (refine ⟨fun _ => ?_, fun h => absurd h.symm Bool.false_ne_true⟩; conv => whnf))
  exact fin_frz TT rfl rfl

/-- How many elements of an ascending list lie ahead of n. -/
def bpos (l : List Int) (n : Int) : Nat := (l.takeWhile fun x => decide (x < n)).length
theorem bpos_of : ∀ {l : List Int} {n : Int} {i : Nat}, i ≤ l.length → (∀ k y, k < i → l[k]? = some y → y < n) → (∀ y, l[i]? = some y → n ≤ y) → bpos l n = i
  | [], n, i, hi, _, _ => by simp at hi; subst hi; rfl
  | x :: r, n, 0, _, _, h => by
    have := h x rfl
    simp [bpos, show ¬ x < n by omega]
  | x :: r, n, i + 1, hi, h1, h2 => by
    have hx := h1 0 x (by omega) rfl
    have := bpos_of (l := r) (n := n) (i := i) (by simpa using hi) (fun k y hk hy => h1 (k + 1) y (by omega) (by simpa using hy)) (fun y hy => h2 y (by simpa using hy))
    simp only [bpos, List.takeWhile_cons, hx, decide_true, if_true, List.length_cons] at this ⊢
    omega
theorem mid_eq {i j : Nat} (h : i + j < 9223372036854775808) : IntKind.i64.wrap ((IntKind.u64.wrap (IntKind.i64.wrap ((i : Int) + j))).fdiv (2 ^ min (1 : Int).toNat IntKind.u64.bits)) = ((i + j) / 2 : Nat) := by
  rw [wrap_small (n := (i : Int) + j) (by omega) (by omega)]
  have e1 : IntKind.u64.wrap ((i : Int) + j) = (i : Int) + j := by
    simp [IntKind.wrap, IntKind.bits, IntKind.signed]; omega
  rw [e1]
  have e2 : (2 : Int) ^ min (1 : Int).toNat IntKind.u64.bits = 2 := by decide
  rw [e2, Int.fdiv_eq_ediv_of_nonneg _ (by omega), wrap_small (by omega) (by omega)]
  omega

theorem c78 (l : List Int) (n : Int) (hs : l.Pairwise (· ≤ ·)) (hn : l.length < 4611686018427387904) : Con P 78 [] [.slice 1 (nums l), .int .i64 n] (.tuple [.int .i64 (bpos l n), .bool (l.contains n)]) [] := by
  refine go Tryz.func78 (by rfl) rfl rfl rfl fun hl => ?_
  (conv => whnf); repeat (first | (refine w ?_; conv => whnf) | (refine ⟨fun h => absurd h Bool.false_ne_true, fun _ => ?_⟩; conv => whnf) | (refine ⟨fun _ => ?_, fun h => absurd h.symm Bool.false_ne_true⟩; conv => whnf))
  rw [nums_len]
  refine loop (fun p : Nat × Nat => mkSt [(7, .int .i64 p.1), (8, .int .i64 p.2), (6, .int .i64 l.length), (0, .slice 1 (nums l)), (1, .int .i64 n)] []) (fun p => p.1 ≤ p.2 ∧ p.2 ≤ l.length ∧ (∀ k y, k < p.1 → l[k]? = some y → y < n) ∧ ∀ k y, p.2 ≤ k → l[k]? = some y → n ≤ y) (fun p => p.2 - p.1) (0, l.length) ⟨Nat.zero_le _, Nat.le_refl _, fun k y h => by simp at h, fun k y h hy => by rw [List.getElem?_eq_none h] at hy; cases hy⟩
    (le_of [] rfl rfl rfl ⟨rfl, rfl, rfl, rfl, rfl, trivial⟩ trivial) ?_
  rintro ⟨i, j⟩ ⟨h1, h2, h3, h4⟩
  simp only at h1 h2 h3 h4
  have mono : ∀ (a b : Nat) (x y : Int), a < b → l[a]? = some x → l[b]? = some y → x ≤ y := by
    intro a b x y hab hx hy
    obtain ⟨ha, rfl⟩ := List.getElem?_eq_some_iff.1 hx
    obtain ⟨hb, rfl⟩ := List.getElem?_eq_some_iff.1 hy
    exact List.pairwise_iff_getElem.1 hs a b ha hb hab
  (conv => whnf); repeat (first | (refine w ?_; conv => whnf) | (refine ⟨fun h => absurd h Bool.false_ne_true, fun _ => ?_⟩; conv => whnf) | (refine ⟨fun _ => ?_, fun h => absurd h.symm Bool.false_ne_true⟩; conv => whnf))
  refine ⟨fun hlt => ?_, fun hge => ?_⟩
  · have hlt := of_lt hlt
    (conv => whnf); repeat (first | (refine w ?_; conv => whnf) | (refine ⟨fun h => absurd h Bool.false_ne_true, fun _ => ?_⟩; conv => whnf) | (refine ⟨fun _ => ?_, fun h => absurd h.symm Bool.false_ne_true⟩; conv => whnf))
    refine ⟨by decide, ?_⟩
    (conv => whnf); repeat (first | (refine w ?_; conv => whnf) | (refine ⟨fun h => absurd h Bool.false_ne_true, fun _ => ?_⟩; conv => whnf) | (refine ⟨fun _ => ?_, fun h => absurd h.symm Bool.false_ne_true⟩; conv => whnf))
    rw [mid_eq (by omega)]
    have hh : (i + j) / 2 < l.length := by omega
    have hx : l[(i + j) / 2]? = some l[(i + j) / 2] := List.getElem?_eq_getElem hh
    generalize hhv : (i + j) / 2 = h at *
    generalize l[h] = x at hx
    refine ⟨by omega, _, nums_at (by rw [Int.toNat_natCast]; exact hx), ?_⟩
    (conv => whnf); repeat (first | (refine w ?_; conv => whnf) | (refine ⟨fun h => absurd h Bool.false_ne_true, fun _ => ?_⟩; conv => whnf) | (refine ⟨fun _ => ?_, fun h => absurd h.symm Bool.false_ne_true⟩; conv => whnf))
    refine ⟨_, _, c110 _ _, ?_⟩
    (conv => whnf); repeat (first | (refine w ?_; conv => whnf) | (refine ⟨fun h => absurd h Bool.false_ne_true, fun _ => ?_⟩; conv => whnf) | (refine ⟨fun _ => ?_, fun h => absurd h.symm Bool.false_ne_true⟩; conv => whnf))
    refine ⟨fun h5 => ?_, fun h5 => ?_⟩
    · have h5 : x < n := by simpa using h5
      (conv => whnf); repeat (first | (refine w ?_; conv => whnf) | (refine ⟨fun h => absurd h Bool.false_ne_true, fun _ => ?_⟩; conv => whnf) | (refine ⟨fun _ => ?_, fun h => absurd h.symm Bool.false_ne_true⟩; conv => whnf))
      refine ⟨(h + 1, j), ⟨by show h + 1 ≤ j; omega, h2, fun k y hk hy => ?_, h4⟩, by show j - (h + 1) < j - i; omega, le_of [] rfl rfl rfl ⟨?_, rfl, rfl, rfl, rfl, trivial⟩ trivial⟩
      · rcases Nat.lt_or_ge k h with h' | h'
        · have := mono k h y x h' hy hx; omega
        · have : k = h := by have : k < h + 1 := hk; omega
          subst this; rw [hx] at hy; cases hy; exact h5
      · exact step_num (n := l.length) (by omega) (by omega)
    · have h5 : ¬ x < n := by simpa using h5
      (conv => whnf); repeat (first | (refine w ?_; conv => whnf) | (refine ⟨fun h => absurd h Bool.false_ne_true, fun _ => ?_⟩; conv => whnf) | (refine ⟨fun _ => ?_, fun h => absurd h.symm Bool.false_ne_true⟩; conv => whnf))
      refine ⟨(i, h), ⟨by show i ≤ h; omega, by show h ≤ l.length; omega, h3, fun k y hk hy => ?_⟩, by show h - i < j - i; omega, le_of [] rfl rfl rfl ⟨rfl, ?_, rfl, rfl, rfl, trivial⟩ trivial⟩
      · rcases Nat.lt_or_ge h k with h' | h'
        · have := mono h k x y h' hx hy; omega
        · have : k = h := by have : h ≤ k := hk; omega
          subst this; rw [hx] at hy; cases hy; omega
      · rfl
  · have hge := of_ge hge
    have hij : i = j := by omega
    subst hij
    have hb : bpos l n = i := bpos_of h2 h3 (fun y hy => h4 i y (Nat.le_refl _) hy)
    (conv => whnf); repeat (first | (refine w ?_; conv => whnf) | (refine ⟨fun h => absurd h Bool.false_ne_true, fun _ => ?_⟩; conv => whnf) | (refine ⟨fun _ => ?_, fun h => absurd h.symm Bool.false_ne_true⟩; conv => whnf))
    refine ⟨fun h6 => ?_, fun h6 => ?_⟩
    · have h6 := of_lt h6
      have hx : l[i]? = some l[i] := List.getElem?_eq_getElem h6
      generalize l[i] = x at hx
      (conv => whnf); repeat (first | (refine w ?_; conv => whnf) | (refine ⟨fun h => absurd h Bool.false_ne_true, fun _ => ?_⟩; conv => whnf) | (refine ⟨fun _ => ?_, fun h => absurd h.symm Bool.false_ne_true⟩; conv => whnf))
      refine ⟨by omega, _, nums_at hx, ?_⟩
      (conv => whnf); repeat (first | (refine w ?_; conv => whnf) | (refine ⟨fun h => absurd h Bool.false_ne_true, fun _ => ?_⟩; conv => whnf) | (refine ⟨fun _ => ?_, fun h => absurd h.symm Bool.false_ne_true⟩; conv => whnf))
      refine ⟨fun h7 => ?_, fun h7 => ?_⟩
      · (conv => whnf); repeat (first | (refine w ?_; conv => whnf) | (refine ⟨fun h => absurd h Bool.false_ne_true, fun _ => ?_⟩; conv => whnf) | (refine ⟨fun _ => ?_, fun h => absurd h.symm Bool.false_ne_true⟩; conv => whnf))
        refine fin_frz TT ?_ rfl
        rw [hb, contains_at hx h7]; rfl
      · (conv => whnf); repeat (first | (refine w ?_; conv => whnf) | (refine ⟨fun h => absurd h Bool.false_ne_true, fun _ => ?_⟩; conv => whnf) | (refine ⟨fun _ => ?_, fun h => absurd h.symm Bool.false_ne_true⟩; conv => whnf))
        refine ⟨by omega, _, nums_at hx, ?_⟩
        (conv => whnf); repeat (first | (refine w ?_; conv => whnf) | (refine ⟨fun h => absurd h Bool.false_ne_true, fun _ => ?_⟩; conv => whnf) | (refine ⟨fun _ => ?_, fun h => absurd h.symm Bool.false_ne_true⟩; conv => whnf))
        refine ⟨_, _, c111 _, ?_⟩
        (conv => whnf); repeat (first | (refine w ?_; conv => whnf) | (refine ⟨fun h => absurd h Bool.false_ne_true, fun _ => ?_⟩; conv => whnf) | (refine ⟨fun _ => ?_, fun h => absurd h.symm Bool.false_ne_true⟩; conv => whnf))
        refine fin_frz TT ?_ rfl
        have : l.contains n = false := by
          cases hc : l.contains n with
          | false => rfl
          | true =>
            have hm : n ∈ l := by simpa using hc
            obtain ⟨k, hk⟩ := List.mem_iff_getElem?.1 hm
            have h7 : x ≠ n := by simpa using h7
            have h8 := h4 i x (Nat.le_refl _) hx
            rcases Nat.lt_trichotomy k i with h | h | h
            · have := h3 k n h hk; omega
            · subst h; rw [hx] at hk; cases hk; exact absurd rfl h7
            · have := mono i k x n h hx hk; omega
        rw [hb, this]; rfl
    · have h6 := of_ge h6
      (conv => whnf); repeat (first | (refine w ?_; conv => whnf) | (refine ⟨fun h => absurd h Bool.false_ne_true, fun _ => ?_⟩; conv => whnf) | (refine ⟨fun _ => ?_, fun h => absurd h.symm Bool.false_ne_true⟩; conv => whnf))
      refine fin_frz TT ?_ rfl
      have : l.contains n = false := by
        cases hc : l.contains n with
        | false => rfl
        | true =>
          have hm : n ∈ l := by simpa using hc
          obtain ⟨k, hk⟩ := List.mem_iff_getElem?.1 hm
          have := h3 k n (by have := (List.getElem?_eq_some_iff.1 hk).1; omega) hk
          omega
      rw [hb, this]; rfl
end Go.Av.Z

/- Parts of graphs: what is valid. -/
namespace Go.Av.Z
open Go.Proofs

theorem errs_off {α : Type} {f : Nat → α → Int} : ∀ {l : List α} {n : Nat}, errs f n l = 0 → ∀ (j : Nat) (x : α), l[j]? = some x → f (n + j) x = 0
  | [], n, _, j, x, hx => by simp at hx
  | y :: r, n, h, j, x, hx => by
    unfold errs at h
    split at h
    · rename_i h0
      cases j with
      | zero => simp at hx; subst hx; exact h0
      | succ j =>
        have := errs_off h j x (by simpa using hx)
        rwa [show n + 1 + j = n + (j + 1) by omega] at this
    · exact absurd h ‹_›
theorem aval_at {l : List Int} {n : Int} (h : aval l n = 0) {i : Nat} {k : Int} (hk : l[i]? = some k) : 0 ≤ k ∧ k < n := by
  have := errs_off h i k hk
  rw [Nat.zero_add, aerr] at this
  split at this
  · cases this
  · omega
theorem aval_next {l : List Int} {n : Int} (h : aval l n = 0) {i : Nat} {x k : Int} (hx : l[i]? = some x) (hk : l[i + 1]? = some k) : x < k := by
  have := errs_off h (i + 1) k hk
  rw [Nat.zero_add, aerr] at this
  split at this
  · cases this
  · split at this
    · cases this
    · rename_i h2
      have e : at0 l (((i + 1 : Nat) : Int) - 1) = x := by
        have : (((i + 1 : Nat) : Int) - 1).toNat = i := by omega
        simp [at0, List.getD_eq_getElem?_getD, hx]
      rw [e] at h2
      omega
theorem aval_lt {l : List Int} {n : Int} (h : aval l n = 0) : ∀ (b a : Nat) (x y : Int), a < b → l[a]? = some x → l[b]? = some y → x < y := by
  intro b
  induction b with
  | zero => intro a x y hab; omega
  | succ b ih =>
    intro a x y hab hx hy
    have hb : b < l.length := by have := (List.getElem?_eq_some_iff.1 hy).1; omega
    have hz : l[b]? = some l[b] := List.getElem?_eq_getElem hb
    have h1 := aval_next h hz hy
    rcases Nat.lt_or_ge a b with h' | h'
    · have := ih a x l[b] h' hx hz; omega
    · have : a = b := by omega
      subst this; rw [hx] at hz; cases hz; exact h1
theorem aval_sorted {l : List Int} {n : Int} (h : aval l n = 0) : l.Pairwise (· < ·) := by
  rw [List.pairwise_iff_getElem]
  intro i j hi hj hij
  exact aval_lt h j i _ _ hij (List.getElem?_eq_getElem hi) (List.getElem?_eq_getElem hj)
theorem aval_ge {l : List Int} {n : Int} (h : aval l n = 0) : ∀ (i : Nat) (x : Int), l[i]? = some x → (i : Int) ≤ x := by
  intro i
  induction i with
  | zero => intro x hx; have := aval_at h hx; omega
  | succ i ih =>
    intro x hx
    have hi : i < l.length := by have := (List.getElem?_eq_some_iff.1 hx).1; omega
    have hz : l[i]? = some l[i] := List.getElem?_eq_getElem hi
    have := ih _ hz
    have := aval_next h hz hx
    omega
theorem aval_len {l : List Int} {n : Nat} (h : aval l n = 0) : l.length ≤ n := by
  rcases Nat.eq_zero_or_pos l.length with h0 | h0
  · omega
  · have hz : l[l.length - 1]? = some l[l.length - 1] := List.getElem?_eq_getElem (by omega)
    have := aval_ge h _ _ hz
    have := aval_at h hz
    omega

theorem c109 (l : List Int) (n : Int) (hs : l.Pairwise (· < ·)) (hn : l.length < 4611686018427387904) : Con P 109 [] [.slice 1 (nums l), .int .i64 n] (.bool (l.contains n)) [] := by
  refine go Tryz.func109 (by rfl) rfl rfl rfl fun hl => ?_
  (conv => whnf); repeat (first | (refine w ?_; conv => whnf) | (refine ⟨fun h => absurd h Bool.false_ne_true, fun _ => ?_⟩; conv => whnf) | (refine ⟨fun _ => ?_, fun h => absurd h.symm Bool.false_ne_true⟩; conv => whnf))
  refine ⟨_, _, c78 l n (hs.imp fun h => by omega) hn, ?_⟩
  (conv => whnf); repeat (first | (refine w ?_; conv => whnf) | (refine ⟨fun h => absurd h Bool.false_ne_true, fun _ => ?_⟩; conv => whnf) | (refine ⟨fun _ => ?_, fun h => absurd h.symm Bool.false_ne_true⟩; conv => whnf))
  exact fin_frz TT rfl rfl

def perr (g : Graph) (p : Mor) (_ : Nat) (k : Int) : Int :=
  if (!p.nodes.contains (atE g.edges k).src) = true ∨ (!p.nodes.contains (atE g.edges k).dst) = true then 14 else 0
/-- The error of a part of a valid graph. -/
def prt (g : Graph) (p : Mor) : Int :=
  if aval p.nodes g.nodes.length ≠ 0 then aval p.nodes g.nodes.length else if aval p.edges g.edges.length ≠ 0 then aval p.edges g.edges.length else errs (perr g p) 0 p.edges
/-- The error of a part. -/
def pval (g : Graph) (p : Mor) : Int := if gval g ≠ 0 then gval g else prt g p

theorem c81 (g : Graph) (p : Mor) (hg : gval g = 0) : Con P 81 [] [g.av, p.av] (.int .i64 (prt g p)) [] := by
  refine go Tryz.func81 (by rfl) rfl rfl rfl fun hl => ?_
  (conv => whnf); repeat (first | (refine w ?_; conv => whnf) | (refine ⟨fun h => absurd h Bool.false_ne_true, fun _ => ?_⟩; conv => whnf) | (refine ⟨fun _ => ?_, fun h => absurd h.symm Bool.false_ne_true⟩; conv => whnf))
  rw [nums_len]
  refine ⟨_, _, c121 p.nodes _, ?_⟩
  (conv => whnf); repeat (first | (refine w ?_; conv => whnf) | (refine ⟨fun h => absurd h Bool.false_ne_true, fun _ => ?_⟩; conv => whnf) | (refine ⟨fun _ => ?_, fun h => absurd h.symm Bool.false_ne_true⟩; conv => whnf))
  refine ⟨fun h1 => ?_, fun h1 => ?_⟩
  · (conv => whnf); repeat (first | (refine w ?_; conv => whnf) | (refine ⟨fun h => absurd h Bool.false_ne_true, fun _ => ?_⟩; conv => whnf) | (refine ⟨fun _ => ?_, fun h => absurd h.symm Bool.false_ne_true⟩; conv => whnf))
    refine fin_frz TT ?_ rfl
    have h1 : aval p.nodes g.nodes.length ≠ 0 := by simpa using h1
    rw [prt, if_pos h1]; rfl
  have h1 : aval p.nodes g.nodes.length = 0 := by simpa using h1
  (conv => whnf); repeat (first | (refine w ?_; conv => whnf) | (refine ⟨fun h => absurd h Bool.false_ne_true, fun _ => ?_⟩; conv => whnf) | (refine ⟨fun _ => ?_, fun h => absurd h.symm Bool.false_ne_true⟩; conv => whnf))
  rw [edgs_len]
  refine ⟨_, _, c121 p.edges _, ?_⟩
  (conv => whnf); repeat (first | (refine w ?_; conv => whnf) | (refine ⟨fun h => absurd h Bool.false_ne_true, fun _ => ?_⟩; conv => whnf) | (refine ⟨fun _ => ?_, fun h => absurd h.symm Bool.false_ne_true⟩; conv => whnf))
  refine ⟨fun h2 => ?_, fun h2 => ?_⟩
  · (conv => whnf); repeat (first | (refine w ?_; conv => whnf) | (refine ⟨fun h => absurd h Bool.false_ne_true, fun _ => ?_⟩; conv => whnf) | (refine ⟨fun _ => ?_, fun h => absurd h.symm Bool.false_ne_true⟩; conv => whnf))
    refine fin_frz TT ?_ rfl
    have h2 : aval p.edges g.edges.length ≠ 0 := by simpa using h2
    rw [prt, if_neg (by omega), if_pos h2]; rfl
  have h2 : aval p.edges g.edges.length = 0 := by simpa using h2
  have hlen := aval_len h2
  have hgl := gval_len hg
  (conv => whnf); repeat (first | (refine w ?_; conv => whnf) | (refine ⟨fun h => absurd h Bool.false_ne_true, fun _ => ?_⟩; conv => whnf) | (refine ⟨fun _ => ?_, fun h => absurd h.symm Bool.false_ne_true⟩; conv => whnf))
  refine loop (fun i : Nat => mkSt [(7, .int .i64 i), (2, .bptr 0 0), (3, .bptr 1 0)] [.box 25 g.cs, .box 31 p.cs]) (fun i => i ≤ p.edges.length ∧ ∀ j y, j < i → p.edges[j]? = some y → perr g p j y = 0) (fun i => p.edges.length - i) 0 ⟨Nat.zero_le _, fun j y h => by omega⟩
    (le_of [0, 1] rfl rfl rfl ⟨rfl, rfl, rfl, trivial⟩ ⟨rfl, rfl, trivial⟩) ?_
  rintro i ⟨hi, hno⟩
  (conv => whnf); repeat (first | (refine w ?_; conv => whnf) | (refine ⟨fun h => absurd h Bool.false_ne_true, fun _ => ?_⟩; conv => whnf) | (refine ⟨fun _ => ?_, fun h => absurd h.symm Bool.false_ne_true⟩; conv => whnf))
  rw [nums_len]
  refine ⟨fun hlt => ?_, fun hge => ?_⟩
  · have hlt := of_lt hlt
    have hx : p.edges[i]? = some p.edges[i] := List.getElem?_eq_getElem hlt
    generalize p.edges[i] = k at hx
    have hk := aval_at h2 hx
    have hy := atE_some (l := g.edges) (n := k) (by omega)
    have bad : ∀ e : Int, perr g p i k = e → e ≠ 0 → prt g p = e := fun e he hne => by
      rw [prt, if_neg (by omega), if_neg (by omega), errs_first hno hx (by rw [he]; exact hne), he]
    (conv => whnf); repeat (first | (refine w ?_; conv => whnf) | (refine ⟨fun h => absurd h Bool.false_ne_true, fun _ => ?_⟩; conv => whnf) | (refine ⟨fun _ => ?_, fun h => absurd h.symm Bool.false_ne_true⟩; conv => whnf))
    refine ⟨by omega, _, nums_at hx, ?_⟩
    (conv => whnf); repeat (first | (refine w ?_; conv => whnf) | (refine ⟨fun h => absurd h Bool.false_ne_true, fun _ => ?_⟩; conv => whnf) | (refine ⟨fun _ => ?_, fun h => absurd h.symm Bool.false_ne_true⟩; conv => whnf))
    refine ⟨by omega, _, edgs_at hy, ?_⟩
    (conv => whnf); repeat (first | (refine w ?_; conv => whnf) | (refine ⟨fun h => absurd h Bool.false_ne_true, fun _ => ?_⟩; conv => whnf) | (refine ⟨fun _ => ?_, fun h => absurd h.symm Bool.false_ne_true⟩; conv => whnf))
    refine ⟨rfl, ?_⟩
    (conv => whnf); repeat (first | (refine w ?_; conv => whnf) | (refine ⟨fun h => absurd h Bool.false_ne_true, fun _ => ?_⟩; conv => whnf) | (refine ⟨fun _ => ?_, fun h => absurd h.symm Bool.false_ne_true⟩; conv => whnf))
    refine ⟨_, _, c122 p.nodes _, ?_⟩
    (conv => whnf); repeat (first | (refine w ?_; conv => whnf) | (refine ⟨fun h => absurd h Bool.false_ne_true, fun _ => ?_⟩; conv => whnf) | (refine ⟨fun _ => ?_, fun h => absurd h.symm Bool.false_ne_true⟩; conv => whnf))
    refine ⟨fun h3 => ?_, fun h3 => ?_⟩
    · (conv => whnf); repeat (first | (refine w ?_; conv => whnf) | (refine ⟨fun h => absurd h Bool.false_ne_true, fun _ => ?_⟩; conv => whnf) | (refine ⟨fun _ => ?_, fun h => absurd h.symm Bool.false_ne_true⟩; conv => whnf))
      refine fin_frz TT ?_ rfl
      rw [bad 14 (by rw [perr, if_pos (.inl h3)]) (by decide)]; rfl
    · (conv => whnf); repeat (first | (refine w ?_; conv => whnf) | (refine ⟨fun h => absurd h Bool.false_ne_true, fun _ => ?_⟩; conv => whnf) | (refine ⟨fun _ => ?_, fun h => absurd h.symm Bool.false_ne_true⟩; conv => whnf))
      refine ⟨_, _, c122 p.nodes _, ?_⟩
      (conv => whnf); repeat (first | (refine w ?_; conv => whnf) | (refine ⟨fun h => absurd h Bool.false_ne_true, fun _ => ?_⟩; conv => whnf) | (refine ⟨fun _ => ?_, fun h => absurd h.symm Bool.false_ne_true⟩; conv => whnf))
      refine ⟨fun h4 => ?_, fun h4 => ?_⟩
      · (conv => whnf); repeat (first | (refine w ?_; conv => whnf) | (refine ⟨fun h => absurd h Bool.false_ne_true, fun _ => ?_⟩; conv => whnf) | (refine ⟨fun _ => ?_, fun h => absurd h.symm Bool.false_ne_true⟩; conv => whnf))
        refine fin_frz TT ?_ rfl
        rw [bad 14 (by rw [perr, if_pos (.inr h4)]) (by decide)]; rfl
      · (conv => whnf); repeat (first | (refine w ?_; conv => whnf) | (refine ⟨fun h => absurd h Bool.false_ne_true, fun _ => ?_⟩; conv => whnf) | (refine ⟨fun _ => ?_, fun h => absurd h.symm Bool.false_ne_true⟩; conv => whnf))
        exact ⟨i + 1, ⟨hlt, zero_upto hno hx (by rw [perr, h3, h4]; simp)⟩, by show p.edges.length - (i + 1) < p.edges.length - i; omega, le_of [0, 1] rfl rfl rfl ⟨step_num hlt (by omega), rfl, rfl, trivial⟩ ⟨rfl, rfl, trivial⟩⟩
  · have hge := of_ge hge
    (conv => whnf); repeat (first | (refine w ?_; conv => whnf) | (refine ⟨fun h => absurd h Bool.false_ne_true, fun _ => ?_⟩; conv => whnf) | (refine ⟨fun _ => ?_, fun h => absurd h.symm Bool.false_ne_true⟩; conv => whnf))
    refine fin_frz TT ?_ rfl
    rw [prt, if_neg (by omega), if_neg (by omega), errs_all hno (by omega)]; rfl
theorem c77 (g : Graph) (p : Mor) (hg : gval g = 0) : Con P 77 [] [g.av, p.av] (.int .i64 (prt g p)) [] := by
  refine go Tryz.func77 (by rfl) rfl rfl rfl fun hl => ?_
  (conv => whnf); repeat (first | (refine w ?_; conv => whnf) | (refine ⟨fun h => absurd h Bool.false_ne_true, fun _ => ?_⟩; conv => whnf) | (refine ⟨fun _ => ?_, fun h => absurd h.symm Bool.false_ne_true⟩; conv => whnf))
  rw [nums_len]
  refine ⟨_, _, c108 p.nodes _, ?_⟩
  (conv => whnf); repeat (first | (refine w ?_; conv => whnf) | (refine ⟨fun h => absurd h Bool.false_ne_true, fun _ => ?_⟩; conv => whnf) | (refine ⟨fun _ => ?_, fun h => absurd h.symm Bool.false_ne_true⟩; conv => whnf))
  refine ⟨fun h1 => ?_, fun h1 => ?_⟩
  · (conv => whnf); repeat (first | (refine w ?_; conv => whnf) | (refine ⟨fun h => absurd h Bool.false_ne_true, fun _ => ?_⟩; conv => whnf) | (refine ⟨fun _ => ?_, fun h => absurd h.symm Bool.false_ne_true⟩; conv => whnf))
    refine fin_frz TT ?_ rfl
    have h1 : aval p.nodes g.nodes.length ≠ 0 := by simpa using h1
    rw [prt, if_pos h1]; rfl
  have h1 : aval p.nodes g.nodes.length = 0 := by simpa using h1
  (conv => whnf); repeat (first | (refine w ?_; conv => whnf) | (refine ⟨fun h => absurd h Bool.false_ne_true, fun _ => ?_⟩; conv => whnf) | (refine ⟨fun _ => ?_, fun h => absurd h.symm Bool.false_ne_true⟩; conv => whnf))
  rw [edgs_len]
  refine ⟨_, _, c108 p.edges _, ?_⟩
  (conv => whnf); repeat (first | (refine w ?_; conv => whnf) | (refine ⟨fun h => absurd h Bool.false_ne_true, fun _ => ?_⟩; conv => whnf) | (refine ⟨fun _ => ?_, fun h => absurd h.symm Bool.false_ne_true⟩; conv => whnf))
  refine ⟨fun h2 => ?_, fun h2 => ?_⟩
  · (conv => whnf); repeat (first | (refine w ?_; conv => whnf) | (refine ⟨fun h => absurd h Bool.false_ne_true, fun _ => ?_⟩; conv => whnf) | (refine ⟨fun _ => ?_, fun h => absurd h.symm Bool.false_ne_true⟩; conv => whnf))
    refine fin_frz TT ?_ rfl
    have h2 : aval p.edges g.edges.length ≠ 0 := by simpa using h2
    rw [prt, if_neg (by omega), if_pos h2]; rfl
  have h2 : aval p.edges g.edges.length = 0 := by simpa using h2
  have hlen := aval_len h2
  have hlen1 := aval_len h1
  have hgl := gval_len hg
  have hs := aval_sorted h1
  (conv => whnf); repeat (first | (refine w ?_; conv => whnf) | (refine ⟨fun h => absurd h Bool.false_ne_true, fun _ => ?_⟩; conv => whnf) | (refine ⟨fun _ => ?_, fun h => absurd h.symm Bool.false_ne_true⟩; conv => whnf))
  refine loop (fun i : Nat => mkSt [(30, .int .i64 i), (29, .int .i64 p.edges.length), (28, .slice 1 (nums p.edges)), (2, .bptr 0 0), (3, .bptr 1 0)] [.box 25 g.cs, .box 31 p.cs]) (fun i => i ≤ p.edges.length ∧ ∀ j y, j < i → p.edges[j]? = some y → perr g p j y = 0) (fun i => p.edges.length - i) 0 ⟨Nat.zero_le _, fun j y h => by omega⟩
    (le_of [0, 1] rfl rfl rfl ⟨rfl, by rw [nums_len]; rfl, rfl, rfl, rfl, trivial⟩ ⟨rfl, rfl, trivial⟩) ?_
  rintro i ⟨hi, hno⟩
  (conv => whnf); repeat (first | (refine w ?_; conv => whnf) | (refine ⟨fun h => absurd h Bool.false_ne_true, fun _ => ?_⟩; conv => whnf) | (refine ⟨fun _ => ?_, fun h => absurd h.symm Bool.false_ne_true⟩; conv => whnf))
  refine ⟨fun hlt => ?_, fun hge => ?_⟩
  · have hlt := of_lt hlt
    have hx : p.edges[i]? = some p.edges[i] := List.getElem?_eq_getElem hlt
    generalize p.edges[i] = k at hx
    have hk := aval_at h2 hx
    have hy := atE_some (l := g.edges) (n := k) (by omega)
    have bad : ∀ e : Int, perr g p i k = e → e ≠ 0 → prt g p = e := fun e he hne => by
      rw [prt, if_neg (by omega), if_neg (by omega), errs_first hno hx (by rw [he]; exact hne), he]
    (conv => whnf); repeat (first | (refine w ?_; conv => whnf) | (refine ⟨fun h => absurd h Bool.false_ne_true, fun _ => ?_⟩; conv => whnf) | (refine ⟨fun _ => ?_, fun h => absurd h.symm Bool.false_ne_true⟩; conv => whnf))
    refine ⟨by omega, _, nums_at hx, ?_⟩
    (conv => whnf); repeat (first | (refine w ?_; conv => whnf) | (refine ⟨fun h => absurd h Bool.false_ne_true, fun _ => ?_⟩; conv => whnf) | (refine ⟨fun _ => ?_, fun h => absurd h.symm Bool.false_ne_true⟩; conv => whnf))
    refine ⟨by omega, _, edgs_at hy, ?_⟩
    (conv => whnf); repeat (first | (refine w ?_; conv => whnf) | (refine ⟨fun h => absurd h Bool.false_ne_true, fun _ => ?_⟩; conv => whnf) | (refine ⟨fun _ => ?_, fun h => absurd h.symm Bool.false_ne_true⟩; conv => whnf))
    refine ⟨_, _, c109 p.nodes _ hs (by omega), ?_⟩
    (conv => whnf); repeat (first | (refine w ?_; conv => whnf) | (refine ⟨fun h => absurd h Bool.false_ne_true, fun _ => ?_⟩; conv => whnf) | (refine ⟨fun _ => ?_, fun h => absurd h.symm Bool.false_ne_true⟩; conv => whnf))
    refine ⟨fun h3 => ?_, fun h3 => ?_⟩
    · (conv => whnf); repeat (first | (refine w ?_; conv => whnf) | (refine ⟨fun h => absurd h Bool.false_ne_true, fun _ => ?_⟩; conv => whnf) | (refine ⟨fun _ => ?_, fun h => absurd h.symm Bool.false_ne_true⟩; conv => whnf))
      refine ⟨rfl, ?_⟩
      (conv => whnf); repeat (first | (refine w ?_; conv => whnf) | (refine ⟨fun h => absurd h Bool.false_ne_true, fun _ => ?_⟩; conv => whnf) | (refine ⟨fun _ => ?_, fun h => absurd h.symm Bool.false_ne_true⟩; conv => whnf))
      refine fin_frz TT ?_ rfl
      rw [bad 14 (by rw [perr, if_pos (.inl h3)]) (by decide)]; rfl
    · (conv => whnf); repeat (first | (refine w ?_; conv => whnf) | (refine ⟨fun h => absurd h Bool.false_ne_true, fun _ => ?_⟩; conv => whnf) | (refine ⟨fun _ => ?_, fun h => absurd h.symm Bool.false_ne_true⟩; conv => whnf))
      refine ⟨by omega, _, edgs_at hy, ?_⟩
      (conv => whnf); repeat (first | (refine w ?_; conv => whnf) | (refine ⟨fun h => absurd h Bool.false_ne_true, fun _ => ?_⟩; conv => whnf) | (refine ⟨fun _ => ?_, fun h => absurd h.symm Bool.false_ne_true⟩; conv => whnf))
      refine ⟨_, _, c109 p.nodes _ hs (by omega), ?_⟩
      (conv => whnf); repeat (first | (refine w ?_; conv => whnf) | (refine ⟨fun h => absurd h Bool.false_ne_true, fun _ => ?_⟩; conv => whnf) | (refine ⟨fun _ => ?_, fun h => absurd h.symm Bool.false_ne_true⟩; conv => whnf))
      refine ⟨rfl, ?_⟩
      (conv => whnf); repeat (first | (refine w ?_; conv => whnf) | (refine ⟨fun h => absurd h Bool.false_ne_true, fun _ => ?_⟩; conv => whnf) | (refine ⟨fun _ => ?_, fun h => absurd h.symm Bool.false_ne_true⟩; conv => whnf))
      refine ⟨fun h4 => ?_, fun h4 => ?_⟩
      · (conv => whnf); repeat (first | (refine w ?_; conv => whnf) | (refine ⟨fun h => absurd h Bool.false_ne_true, fun _ => ?_⟩; conv => whnf) | (refine ⟨fun _ => ?_, fun h => absurd h.symm Bool.false_ne_true⟩; conv => whnf))
        refine fin_frz TT ?_ rfl
        rw [bad 14 (by rw [perr, if_pos (.inr h4)]) (by decide)]; rfl
      · (conv => whnf); repeat (first | (refine w ?_; conv => whnf) | (refine ⟨fun h => absurd h Bool.false_ne_true, fun _ => ?_⟩; conv => whnf) | (refine ⟨fun _ => ?_, fun h => absurd h.symm Bool.false_ne_true⟩; conv => whnf))
        exact ⟨i + 1, ⟨hlt, zero_upto hno hx (by rw [perr, h3, h4]; simp)⟩, by show p.edges.length - (i + 1) < p.edges.length - i; omega, le_of [0, 1] rfl rfl rfl ⟨step_num hlt (by omega), rfl, rfl, rfl, rfl, trivial⟩ ⟨rfl, rfl, trivial⟩⟩
  · have hge := of_ge hge
    (conv => whnf); repeat (first | (refine w ?_; conv => whnf) | (refine ⟨fun h => absurd h Bool.false_ne_true, fun _ => ?_⟩; conv => whnf) | (refine ⟨fun _ => ?_, fun h => absurd h.symm Bool.false_ne_true⟩; conv => whnf))
    refine fin_frz TT ?_ rfl
    rw [prt, if_neg (by omega), if_neg (by omega), errs_all hno (by omega)]; rfl
theorem c43 (g : Graph) (p : Mor) : Con P 43 [] [g.av, p.av] (.int .i64 (pval g p)) [] := by
  refine go Tryz.func43 (by rfl) rfl rfl rfl fun hl => ?_
  (conv => whnf); repeat (first | (refine w ?_; conv => whnf) | (refine ⟨fun h => absurd h Bool.false_ne_true, fun _ => ?_⟩; conv => whnf) | (refine ⟨fun _ => ?_, fun h => absurd h.symm Bool.false_ne_true⟩; conv => whnf))
  refine ⟨_, _, c35 g, ?_⟩
  (conv => whnf); repeat (first | (refine w ?_; conv => whnf) | (refine ⟨fun h => absurd h Bool.false_ne_true, fun _ => ?_⟩; conv => whnf) | (refine ⟨fun _ => ?_, fun h => absurd h.symm Bool.false_ne_true⟩; conv => whnf))
  refine ⟨fun h1 => ?_, fun h1 => ?_⟩
  · (conv => whnf); repeat (first | (refine w ?_; conv => whnf) | (refine ⟨fun h => absurd h Bool.false_ne_true, fun _ => ?_⟩; conv => whnf) | (refine ⟨fun _ => ?_, fun h => absurd h.symm Bool.false_ne_true⟩; conv => whnf))
    refine fin_frz TT ?_ rfl
    have h1 : gval g ≠ 0 := by simpa using h1
    rw [pval, if_pos h1]; rfl
  · have h1 : gval g = 0 := by simpa using h1
    (conv => whnf); repeat (first | (refine w ?_; conv => whnf) | (refine ⟨fun h => absurd h Bool.false_ne_true, fun _ => ?_⟩; conv => whnf) | (refine ⟨fun _ => ?_, fun h => absurd h.symm Bool.false_ne_true⟩; conv => whnf))
    refine ⟨_, _, c81 g p h1, ?_⟩
    (conv => whnf); repeat (first | (refine w ?_; conv => whnf) | (refine ⟨fun h => absurd h Bool.false_ne_true, fun _ => ?_⟩; conv => whnf) | (refine ⟨fun _ => ?_, fun h => absurd h.symm Bool.false_ne_true⟩; conv => whnf))
    refine fin_frz TT ?_ rfl
    rw [pval, if_neg (by omega)]; rfl
theorem c38 (g : Graph) (p : Mor) : Con P 38 [] [g.av, p.av] (.int .i64 (pval g p)) [] := by
  refine go Tryz.func38 (by rfl) rfl rfl rfl fun hl => ?_
  (conv => whnf); repeat (first | (refine w ?_; conv => whnf) | (refine ⟨fun h => absurd h Bool.false_ne_true, fun _ => ?_⟩; conv => whnf) | (refine ⟨fun _ => ?_, fun h => absurd h.symm Bool.false_ne_true⟩; conv => whnf))
  refine ⟨_, _, c31 g, ?_⟩
  (conv => whnf); repeat (first | (refine w ?_; conv => whnf) | (refine ⟨fun h => absurd h Bool.false_ne_true, fun _ => ?_⟩; conv => whnf) | (refine ⟨fun _ => ?_, fun h => absurd h.symm Bool.false_ne_true⟩; conv => whnf))
  refine ⟨fun h1 => ?_, fun h1 => ?_⟩
  · (conv => whnf); repeat (first | (refine w ?_; conv => whnf) | (refine ⟨fun h => absurd h Bool.false_ne_true, fun _ => ?_⟩; conv => whnf) | (refine ⟨fun _ => ?_, fun h => absurd h.symm Bool.false_ne_true⟩; conv => whnf))
    refine fin_frz TT ?_ rfl
    have h1 : gval g ≠ 0 := by simpa using h1
    rw [pval, if_pos h1]; rfl
  · have h1 : gval g = 0 := by simpa using h1
    (conv => whnf); repeat (first | (refine w ?_; conv => whnf) | (refine ⟨fun h => absurd h Bool.false_ne_true, fun _ => ?_⟩; conv => whnf) | (refine ⟨fun _ => ?_, fun h => absurd h.symm Bool.false_ne_true⟩; conv => whnf))
    refine ⟨_, _, c77 g p h1, ?_⟩
    (conv => whnf); repeat (first | (refine w ?_; conv => whnf) | (refine ⟨fun h => absurd h Bool.false_ne_true, fun _ => ?_⟩; conv => whnf) | (refine ⟨fun _ => ?_, fun h => absurd h.symm Bool.false_ne_true⟩; conv => whnf))
    refine fin_frz TT ?_ rfl
    rw [pval, if_neg (by omega)]; rfl
end Go.Av.Z

/- Copies. -/
namespace Go.Av.Z
open Go.Proofs

theorem nilcmp {nt k id : Nat} {o1 o2 : Oper} {t0 t3 t4 : Nat} {ty ty' e : TypeId} {i : TI} {sz : Nat} {xs : List (List AV)} {S : St} {Q : Exit → St → Prop} (g1 : o1.guard = none) (g2 : o2.guard = none) (h1 : o1.op = .move (.tmp t0)) (d1 : o1.dst = some t3)
    (h2 : o2.op = .binOp .eql ty (.tmp t3) (.const (.slice none 0 0)) ty') (d2 : o2.dst = some t4) (n1 : Nat.ble (t3 + 1) nt = true) (n2 : Nat.ble (t4 + 1) nt = true) (hi : TT ty = some i) (hk : i.k = .slice e)
    (hx : look S.tm t0 = some (.slice sz xs)) (h : ∀ b : Bool, (b = true → xs = []) → Q .normal ⟨(t4, .bool b) :: (t3, .slice sz xs) :: S.tm, S.hp, S.nx⟩) : Den P (.code nt k (.region id #[o1, o2] false) S Q) :=
  ⟨awp_nilcmp hT rfl g1 g2 h1 d1 h2 d2 n1 n2 hi hk hx h⟩

theorem c32 (l : List Int) (hn : l.length ≤ 1099511627776) : Con P 32 [] [.slice 1 (nums l)] (.ref 0) [.row 3 1 (nums l)] := by
  refine go Tryz.func32 (by rfl) rfl rfl rfl fun hl => ?_
  iterate 6 (refine w ?_; conv => whnf)
  refine nilcmp rfl rfl rfl rfl rfl rfl rfl rfl rfl rfl rfl ?_
  intro b hb
  (conv => whnf); repeat (first | (refine w ?_; conv => whnf) | (refine ⟨fun h => absurd h Bool.false_ne_true, fun _ => ?_⟩; conv => whnf) | (refine ⟨fun _ => ?_, fun h => absurd h.symm Bool.false_ne_true⟩; conv => whnf))
  refine ⟨fun h => ?_, fun h => ?_⟩
  · (conv => whnf); repeat (first | (refine w ?_; conv => whnf) | (refine ⟨fun h => absurd h Bool.false_ne_true, fun _ => ?_⟩; conv => whnf) | (refine ⟨fun _ => ?_, fun h => absurd h.symm Bool.false_ne_true⟩; conv => whnf))
    have : nums l = [] := hb h
    rw [this]
    exact le_of [1] rfl rfl rfl ⟨rfl, trivial⟩ ⟨rfl, trivial⟩
  · (conv => whnf); repeat (first | (refine w ?_; conv => whnf) | (refine ⟨fun h => absurd h Bool.false_ne_true, fun _ => ?_⟩; conv => whnf) | (refine ⟨fun _ => ?_, fun h => absurd h.symm Bool.false_ne_true⟩; conv => whnf))
    rw [nums_len]
    refine ⟨by show (0 + l.length) * 8 ≤ _; omega, ?_⟩
    (conv => whnf); repeat (first | (refine w ?_; conv => whnf) | (refine ⟨fun h => absurd h Bool.false_ne_true, fun _ => ?_⟩; conv => whnf) | (refine ⟨fun _ => ?_, fun h => absurd h.symm Bool.false_ne_true⟩; conv => whnf))
    exact le_of [2] rfl rfl rfl ⟨rfl, trivial⟩ ⟨rfl, trivial⟩
theorem c65 (l : List Edge) (hn : l.length ≤ 1099511627776) : Con P 65 [] [.slice 3 (edgs l)] (.ref 0) [.row 109 3 (edgs l)] := by
  refine go Tryz.func65 (by rfl) rfl rfl rfl fun hl => ?_
  iterate 6 (refine w ?_; conv => whnf)
  refine nilcmp rfl rfl rfl rfl rfl rfl rfl rfl rfl rfl rfl ?_
  intro b hb
  (conv => whnf); repeat (first | (refine w ?_; conv => whnf) | (refine ⟨fun h => absurd h Bool.false_ne_true, fun _ => ?_⟩; conv => whnf) | (refine ⟨fun _ => ?_, fun h => absurd h.symm Bool.false_ne_true⟩; conv => whnf))
  refine ⟨fun h => ?_, fun h => ?_⟩
  · (conv => whnf); repeat (first | (refine w ?_; conv => whnf) | (refine ⟨fun h => absurd h Bool.false_ne_true, fun _ => ?_⟩; conv => whnf) | (refine ⟨fun _ => ?_, fun h => absurd h.symm Bool.false_ne_true⟩; conv => whnf))
    have : edgs l = [] := hb h
    rw [this]
    exact le_of [1] rfl rfl rfl ⟨rfl, trivial⟩ ⟨rfl, trivial⟩
  · (conv => whnf); repeat (first | (refine w ?_; conv => whnf) | (refine ⟨fun h => absurd h Bool.false_ne_true, fun _ => ?_⟩; conv => whnf) | (refine ⟨fun _ => ?_, fun h => absurd h.symm Bool.false_ne_true⟩; conv => whnf))
    rw [edgs_len]
    refine ⟨by show (0 + l.length) * 24 ≤ _; omega, ?_⟩
    (conv => whnf); repeat (first | (refine w ?_; conv => whnf) | (refine ⟨fun h => absurd h Bool.false_ne_true, fun _ => ?_⟩; conv => whnf) | (refine ⟨fun _ => ?_, fun h => absurd h.symm Bool.false_ne_true⟩; conv => whnf))
    exact le_of [2] rfl rfl rfl ⟨rfl, trivial⟩ ⟨rfl, trivial⟩
end Go.Av.Z

/- The graph of a part. -/
namespace Go.Av.Z
open Go.Proofs

/-- The first place of a number, or -1. -/
def plc (l : List Int) (n : Int) : Int := idx (fun y => y == n) l
theorem c82 (l : List Int) (n : Int) : Con P 82 [] [.slice 1 (nums l), .int .i64 n] (.int .i64 (plc l n)) [] := by
  refine go Tryz.func82 (by rfl) rfl rfl rfl fun hl => ?_
  (conv => whnf); repeat (first | (refine w ?_; conv => whnf) | (refine ⟨fun h => absurd h Bool.false_ne_true, fun _ => ?_⟩; conv => whnf) | (refine ⟨fun _ => ?_, fun h => absurd h.symm Bool.false_ne_true⟩; conv => whnf))
  have hn : l.length ≤ 9223372036854775807 := len_nums (rest := []) (fun n h => hl n (by simpa [lensL, lens] using h))
  refine loop (fun i : Nat => mkSt [(5, .int .i64 i), (0, .slice 1 (nums l)), (1, .int .i64 n)] []) (fun i => i ≤ l.length ∧ ∀ j y, j < i → l[j]? = some y → (y == n) = false) (fun i => l.length - i) 0 ⟨Nat.zero_le _, fun j y h => by omega⟩
    (le_of [] rfl rfl rfl ⟨rfl, rfl, rfl, trivial⟩ trivial) ?_
  rintro i ⟨hi, hno⟩
  (conv => whnf); repeat (first | (refine w ?_; conv => whnf) | (refine ⟨fun h => absurd h Bool.false_ne_true, fun _ => ?_⟩; conv => whnf) | (refine ⟨fun _ => ?_, fun h => absurd h.symm Bool.false_ne_true⟩; conv => whnf))
  rw [nums_len]
  refine ⟨fun hlt => ?_, fun hge => ?_⟩
  · have hlt := of_lt hlt
    have hx : l[i]? = some l[i] := List.getElem?_eq_getElem hlt
    generalize l[i] = x at hx
    (conv => whnf); repeat (first | (refine w ?_; conv => whnf) | (refine ⟨fun h => absurd h Bool.false_ne_true, fun _ => ?_⟩; conv => whnf) | (refine ⟨fun _ => ?_, fun h => absurd h.symm Bool.false_ne_true⟩; conv => whnf))
    refine ⟨by omega, _, nums_at hx, ?_⟩
    (conv => whnf); repeat (first | (refine w ?_; conv => whnf) | (refine ⟨fun h => absurd h Bool.false_ne_true, fun _ => ?_⟩; conv => whnf) | (refine ⟨fun _ => ?_, fun h => absurd h.symm Bool.false_ne_true⟩; conv => whnf))
    refine ⟨fun h3 => ?_, fun h3 => ?_⟩
    · (conv => whnf); repeat (first | (refine w ?_; conv => whnf) | (refine ⟨fun h => absurd h Bool.false_ne_true, fun _ => ?_⟩; conv => whnf) | (refine ⟨fun _ => ?_, fun h => absurd h.symm Bool.false_ne_true⟩; conv => whnf))
      refine fin_frz TT ?_ rfl
      rw [plc, idx_some hno hx h3]; rfl
    · (conv => whnf); repeat (first | (refine w ?_; conv => whnf) | (refine ⟨fun h => absurd h Bool.false_ne_true, fun _ => ?_⟩; conv => whnf) | (refine ⟨fun _ => ?_, fun h => absurd h.symm Bool.false_ne_true⟩; conv => whnf))
      exact ⟨i + 1, ⟨hlt, none_upto (p := fun y => y == n) hno hx h3⟩, by show l.length - (i + 1) < l.length - i; omega, le_of [] rfl rfl rfl ⟨step_num hlt hn, rfl, rfl, trivial⟩ trivial⟩
  · have hge := of_ge hge
    (conv => whnf); repeat (first | (refine w ?_; conv => whnf) | (refine ⟨fun h => absurd h Bool.false_ne_true, fun _ => ?_⟩; conv => whnf) | (refine ⟨fun _ => ?_, fun h => absurd h.symm Bool.false_ne_true⟩; conv => whnf))
    refine fin_frz TT ?_ rfl
    rw [plc, idx_none (none_all hno (by omega))]; rfl

def extE (g : Graph) (p : Mor) (k : Int) : Edge := ⟨(atE g.edges k).type, plc p.nodes (atE g.edges k).src, plc p.nodes (atE g.edges k).dst⟩
/-- The graph of a part. -/
def ext (g : Graph) (p : Mor) : Graph := ⟨p.nodes.map (at0 g.nodes), p.edges.map (extE g p)⟩
theorem take_map {α β : Type} (f : α → β) {l : List α} {i : Nat} {x : α} (h : l[i]? = some x) : (l.take (i + 1)).map f = (l.take i).map f ++ [f x] := by
  rw [List.take_add_one, h]; simp
theorem nums_app (a : List Int) (n : Int) : nums (a ++ [n]) = nums a ++ [[.int .i64 n]] := by simp [nums]
theorem edgs_app (a : List Edge) (e : Edge) : edgs (a ++ [e]) = edgs a ++ [[.int .i64 e.type, .int .i64 e.src, .int .i64 e.dst]] := by simp [edgs, Edge.el]

theorem pval_ok {g : Graph} {p : Mor} (h : pval g p = 0) : gval g = 0 ∧ aval p.nodes g.nodes.length = 0 ∧ aval p.edges g.edges.length = 0 ∧ errs (perr g p) 0 p.edges = 0 := by
  unfold pval at h
  split at h
  · exact absurd h ‹_›
  · rename_i h1
    unfold prt at h
    split at h
    · exact absurd h ‹_›
    · split at h
      · exact absurd h ‹_›
      · exact ⟨by omega, by omega, by omega, h⟩

theorem c44_err (g : Graph) (p : Mor) (h : pval g p ≠ 0) : Con P 44 [] [g.av, p.av] (.tuple [(⟨[], []⟩ : Graph).av, (⟨[], []⟩ : Mor).av, .int .i64 (pval g p)]) [] := by
  refine go Tryz.func44 (by rfl) rfl rfl rfl fun hl => ?_
  (conv => whnf); repeat (first | (refine w ?_; conv => whnf) | (refine ⟨fun h => absurd h Bool.false_ne_true, fun _ => ?_⟩; conv => whnf) | (refine ⟨fun _ => ?_, fun h => absurd h.symm Bool.false_ne_true⟩; conv => whnf))
  refine ⟨_, _, c43 g p, ?_⟩
  (conv => whnf); repeat (first | (refine w ?_; conv => whnf) | (refine ⟨fun h => absurd h Bool.false_ne_true, fun _ => ?_⟩; conv => whnf) | (refine ⟨fun _ => ?_, fun h => absurd h.symm Bool.false_ne_true⟩; conv => whnf))
  refine ⟨fun h1 => ?_, fun h1 => absurd h1 (by simpa using h)⟩
  (conv => whnf); repeat (first | (refine w ?_; conv => whnf) | (refine ⟨fun h => absurd h Bool.false_ne_true, fun _ => ?_⟩; conv => whnf) | (refine ⟨fun _ => ?_, fun h => absurd h.symm Bool.false_ne_true⟩; conv => whnf))
  exact fin_frz TT rfl rfl
theorem c44 (g : Graph) (p : Mor) (h : pval g p = 0) : Con P 44 [] [g.av, p.av] (.tuple [(ext g p).av, p.av, .int .i64 0]) [] := by
  refine go Tryz.func44 (by rfl) rfl rfl rfl fun hl => ?_
  (conv => whnf); repeat (first | (refine w ?_; conv => whnf) | (refine ⟨fun h => absurd h Bool.false_ne_true, fun _ => ?_⟩; conv => whnf) | (refine ⟨fun _ => ?_, fun h => absurd h.symm Bool.false_ne_true⟩; conv => whnf))
  refine ⟨_, _, c43 g p, ?_⟩
  (conv => whnf); repeat (first | (refine w ?_; conv => whnf) | (refine ⟨fun h => absurd h Bool.false_ne_true, fun _ => ?_⟩; conv => whnf) | (refine ⟨fun _ => ?_, fun h => absurd h.symm Bool.false_ne_true⟩; conv => whnf))
  refine ⟨fun h1 => absurd h1 (by simp [h]), fun h1 => ?_⟩
  obtain ⟨hg, hn, he, _⟩ := pval_ok h
  have hgl := gval_len hg
  have hnl := aval_len hn
  have hel := aval_len he
  (conv => whnf); repeat (first | (refine w ?_; conv => whnf) | (refine ⟨fun h => absurd h Bool.false_ne_true, fun _ => ?_⟩; conv => whnf) | (refine ⟨fun _ => ?_, fun h => absurd h.symm Bool.false_ne_true⟩; conv => whnf))
  refine loop (fun i : Nat => mkSt [(9, .int .i64 i), (2, .bptr 0 0), (3, .bptr 1 0), (4, .bptr 2 0), (5, .bptr 5 0), (8, .bptr 8 0)]
      [.box 25 g.cs, .box 31 p.cs, .box 25 [.ref 3, .ref 4], .row 3 1 [], .row 109 3 [], .box 32 [.ref 6, .ref 7], .row 3 1 [], .row 3 1 [], .box 25 [.ref 9, .ref 10], .row 3 1 (nums ((p.nodes.take i).map (at0 g.nodes))), .row 109 3 []])
    (fun i => i ≤ p.nodes.length) (fun i => p.nodes.length - i) 0 (Nat.zero_le _)
    (le_of [0, 1, 2, 3, 4, 5, 6, 7, 9, 10, 11] rfl rfl rfl ⟨rfl, rfl, rfl, rfl, rfl, rfl, trivial⟩ ⟨rfl, rfl, rfl, rfl, rfl, rfl, rfl, rfl, rfl, rfl, rfl, trivial⟩) ?_
  intro i hi
  (conv => whnf); repeat (first | (refine w ?_; conv => whnf) | (refine ⟨fun h => absurd h Bool.false_ne_true, fun _ => ?_⟩; conv => whnf) | (refine ⟨fun _ => ?_, fun h => absurd h.symm Bool.false_ne_true⟩; conv => whnf))
  rw [nums_len]
  refine ⟨fun hlt => ?_, fun hge => ?_⟩
  · have hlt := of_lt hlt
    have hx : p.nodes[i]? = some p.nodes[i] := List.getElem?_eq_getElem hlt
    generalize p.nodes[i] = k at hx
    have hk := aval_at hn hx
    (conv => whnf); repeat (first | (refine w ?_; conv => whnf) | (refine ⟨fun h => absurd h Bool.false_ne_true, fun _ => ?_⟩; conv => whnf) | (refine ⟨fun _ => ?_, fun h => absurd h.symm Bool.false_ne_true⟩; conv => whnf))
    refine ⟨by omega, _, nums_at hx, ?_⟩
    (conv => whnf); repeat (first | (refine w ?_; conv => whnf) | (refine ⟨fun h => absurd h Bool.false_ne_true, fun _ => ?_⟩; conv => whnf) | (refine ⟨fun _ => ?_, fun h => absurd h.symm Bool.false_ne_true⟩; conv => whnf))
    refine ⟨by omega, _, nums_at (at0_some (by omega)), ?_⟩
    (conv => whnf); repeat (first | (refine w ?_; conv => whnf) | (refine ⟨fun h => absurd h Bool.false_ne_true, fun _ => ?_⟩; conv => whnf) | (refine ⟨fun _ => ?_, fun h => absurd h.symm Bool.false_ne_true⟩; conv => whnf))
    refine ⟨by rw [nums_len, List.length_map, List.length_take]; show (min i p.nodes.length + 1) * 8 ≤ _; omega, ?_⟩
    (conv => whnf); repeat (first | (refine w ?_; conv => whnf) | (refine ⟨fun h => absurd h Bool.false_ne_true, fun _ => ?_⟩; conv => whnf) | (refine ⟨fun _ => ?_, fun h => absurd h.symm Bool.false_ne_true⟩; conv => whnf))
    refine ⟨rfl, ?_⟩
    (conv => whnf); repeat (first | (refine w ?_; conv => whnf) | (refine ⟨fun h => absurd h Bool.false_ne_true, fun _ => ?_⟩; conv => whnf) | (refine ⟨fun _ => ?_, fun h => absurd h.symm Bool.false_ne_true⟩; conv => whnf))
    exact ⟨i + 1, hlt, by show p.nodes.length - (i + 1) < p.nodes.length - i; omega, le_of [0, 1, 2, 3, 4, 5, 6, 7, 8, 12, 10] rfl rfl rfl ⟨step_num hlt (by omega), rfl, rfl, rfl, rfl, rfl, trivial⟩
      ⟨rfl, rfl, rfl, rfl, rfl, rfl, rfl, rfl, rfl, by rw [take_map _ hx, nums_app]; rfl, rfl, trivial⟩⟩
  · have hge := of_ge hge
    have hall : p.nodes.take i = p.nodes := List.take_of_length_le (by omega)
    rw [hall]
    (conv => whnf); repeat (first | (refine w ?_; conv => whnf) | (refine ⟨fun h => absurd h Bool.false_ne_true, fun _ => ?_⟩; conv => whnf) | (refine ⟨fun _ => ?_, fun h => absurd h.symm Bool.false_ne_true⟩; conv => whnf))
    refine loop (fun i : Nat => mkSt [(10, .int .i64 i), (2, .bptr 0 0), (3, .bptr 1 0), (4, .bptr 2 0), (5, .bptr 5 0), (8, .bptr 8 0)]
        [.box 25 g.cs, .box 31 p.cs, .box 25 [.ref 3, .ref 4], .row 3 1 [], .row 109 3 [], .box 32 [.ref 6, .ref 7], .row 3 1 [], .row 3 1 [], .box 25 [.ref 9, .ref 10], .row 3 1 (nums (p.nodes.map (at0 g.nodes))), .row 109 3 (edgs ((p.edges.take i).map (extE g p)))])
      (fun i => i ≤ p.edges.length) (fun i => p.edges.length - i) 0 (Nat.zero_le _)
      (le_of [0, 1, 2, 3, 4, 5, 6, 7, 8, 9, 10] rfl rfl rfl ⟨rfl, rfl, rfl, rfl, rfl, rfl, trivial⟩ ⟨rfl, rfl, rfl, rfl, rfl, rfl, rfl, rfl, rfl, rfl, rfl, trivial⟩) ?_
    clear hall hi
    intro i hi
    (conv => whnf); repeat (first | (refine w ?_; conv => whnf) | (refine ⟨fun h => absurd h Bool.false_ne_true, fun _ => ?_⟩; conv => whnf) | (refine ⟨fun _ => ?_, fun h => absurd h.symm Bool.false_ne_true⟩; conv => whnf))
    rw [nums_len]
    refine ⟨fun hlt => ?_, fun hge => ?_⟩
    · have hlt := of_lt hlt
      have hx : p.edges[i]? = some p.edges[i] := List.getElem?_eq_getElem hlt
      generalize p.edges[i] = k at hx
      have hk := aval_at he hx
      have hy := atE_some (l := g.edges) (n := k) (by omega)
      (conv => whnf); repeat (first | (refine w ?_; conv => whnf) | (refine ⟨fun h => absurd h Bool.false_ne_true, fun _ => ?_⟩; conv => whnf) | (refine ⟨fun _ => ?_, fun h => absurd h.symm Bool.false_ne_true⟩; conv => whnf))
      refine ⟨by omega, _, nums_at hx, ?_⟩
      (conv => whnf); repeat (first | (refine w ?_; conv => whnf) | (refine ⟨fun h => absurd h Bool.false_ne_true, fun _ => ?_⟩; conv => whnf) | (refine ⟨fun _ => ?_, fun h => absurd h.symm Bool.false_ne_true⟩; conv => whnf))
      refine ⟨by omega, _, edgs_at hy, ?_⟩
      (conv => whnf); repeat (first | (refine w ?_; conv => whnf) | (refine ⟨fun h => absurd h Bool.false_ne_true, fun _ => ?_⟩; conv => whnf) | (refine ⟨fun _ => ?_, fun h => absurd h.symm Bool.false_ne_true⟩; conv => whnf))
      refine ⟨rfl, ?_⟩
      (conv => whnf); repeat (first | (refine w ?_; conv => whnf) | (refine ⟨fun h => absurd h Bool.false_ne_true, fun _ => ?_⟩; conv => whnf) | (refine ⟨fun _ => ?_, fun h => absurd h.symm Bool.false_ne_true⟩; conv => whnf))
      refine ⟨_, _, c82 p.nodes _, ?_⟩
      (conv => whnf); repeat (first | (refine w ?_; conv => whnf) | (refine ⟨fun h => absurd h Bool.false_ne_true, fun _ => ?_⟩; conv => whnf) | (refine ⟨fun _ => ?_, fun h => absurd h.symm Bool.false_ne_true⟩; conv => whnf))
      refine ⟨_, _, c82 p.nodes _, ?_⟩
      (conv => whnf); repeat (first | (refine w ?_; conv => whnf) | (refine ⟨fun h => absurd h Bool.false_ne_true, fun _ => ?_⟩; conv => whnf) | (refine ⟨fun _ => ?_, fun h => absurd h.symm Bool.false_ne_true⟩; conv => whnf))
      refine ⟨by rw [edgs_len, List.length_map, List.length_take]; show (min i p.edges.length + 1) * 24 ≤ _; omega, ?_⟩
      (conv => whnf); repeat (first | (refine w ?_; conv => whnf) | (refine ⟨fun h => absurd h Bool.false_ne_true, fun _ => ?_⟩; conv => whnf) | (refine ⟨fun _ => ?_, fun h => absurd h.symm Bool.false_ne_true⟩; conv => whnf))
      refine ⟨rfl, ?_⟩
      (conv => whnf); repeat (first | (refine w ?_; conv => whnf) | (refine ⟨fun h => absurd h Bool.false_ne_true, fun _ => ?_⟩; conv => whnf) | (refine ⟨fun _ => ?_, fun h => absurd h.symm Bool.false_ne_true⟩; conv => whnf))
      exact ⟨i + 1, hlt, by show p.edges.length - (i + 1) < p.edges.length - i; omega, le_of [0, 1, 2, 3, 4, 5, 6, 7, 8, 9, 15] rfl rfl rfl ⟨step_num hlt (by omega), rfl, rfl, rfl, rfl, rfl, trivial⟩
        ⟨rfl, rfl, rfl, rfl, rfl, rfl, rfl, rfl, rfl, rfl, by rw [take_map _ hx, edgs_app]; rfl, trivial⟩⟩
    · have hge := of_ge hge
      have hall : p.edges.take i = p.edges := List.take_of_length_le (by omega)
      rw [hall]
      (conv => whnf); repeat (first | (refine w ?_; conv => whnf) | (refine ⟨fun h => absurd h Bool.false_ne_true, fun _ => ?_⟩; conv => whnf) | (refine ⟨fun _ => ?_, fun h => absurd h.symm Bool.false_ne_true⟩; conv => whnf))
      rw [nums_len]
      refine ⟨by show (0 + p.nodes.length) * 8 ≤ _; omega, ?_⟩
      (conv => whnf); repeat (first | (refine w ?_; conv => whnf) | (refine ⟨fun h => absurd h Bool.false_ne_true, fun _ => ?_⟩; conv => whnf) | (refine ⟨fun _ => ?_, fun h => absurd h.symm Bool.false_ne_true⟩; conv => whnf))
      rw [nums_len]
      refine ⟨by show (0 + p.edges.length) * 8 ≤ _; omega, ?_⟩
      (conv => whnf); repeat (first | (refine w ?_; conv => whnf) | (refine ⟨fun h => absurd h Bool.false_ne_true, fun _ => ?_⟩; conv => whnf) | (refine ⟨fun _ => ?_, fun h => absurd h.symm Bool.false_ne_true⟩; conv => whnf))
      refine ⟨by kernel_rfl, ?_⟩
      (conv => whnf); repeat (first | (refine w ?_; conv => whnf) | (refine ⟨fun h => absurd h Bool.false_ne_true, fun _ => ?_⟩; conv => whnf) | (refine ⟨fun _ => ?_, fun h => absurd h.symm Bool.false_ne_true⟩; conv => whnf))
      exact fin_frz TT rfl rfl
end Go.Av.Z

/- The graph of a part, as the program makes it. -/
namespace Go.Av.Z
open Go.Proofs

theorem bpos_plc {l : List Int} {n : Int} (hs : l.Pairwise (· < ·)) (hc : l.contains n = true) : ((bpos l n : Nat) : Int) = plc l n := by
  have hm : n ∈ l := by simpa using hc
  obtain ⟨i, hi⟩ := List.mem_iff_getElem?.1 hm
  have mono : ∀ (a b : Nat) (x y : Int), a < b → l[a]? = some x → l[b]? = some y → x < y := by
    intro a b x y hab hx hy
    obtain ⟨ha, rfl⟩ := List.getElem?_eq_some_iff.1 hx
    obtain ⟨hb, rfl⟩ := List.getElem?_eq_some_iff.1 hy
    exact List.pairwise_iff_getElem.1 hs a b ha hb hab
  have h1 : bpos l n = i := bpos_of (by have := (List.getElem?_eq_some_iff.1 hi).1; omega) (fun k y hk hy => mono k i y n hk hy hi) (fun y hy => by rw [hi] at hy; cases hy; exact Int.le_refl _)
  have h2 : plc l n = i := idx_some (fun j y hj hy => by have := mono j i y n hj hy hi; simp; omega) hi (by simp)
  rw [h1, h2]
theorem perr_ok {g : Graph} {p : Mor} {i : Nat} {k : Int} (h : perr g p i k = 0) : p.nodes.contains (atE g.edges k).src = true ∧ p.nodes.contains (atE g.edges k).dst = true := by
  unfold perr at h
  split at h
  · cases h
  · rename_i h1
    cases hc : p.nodes.contains (atE g.edges k).src <;> cases hd : p.nodes.contains (atE g.edges k).dst <;> simp_all

theorem c39_err (g : Graph) (p : Mor) (h : pval g p ≠ 0) : Con P 39 [] [g.av, p.av] (.tuple [(⟨[], []⟩ : Graph).av, (⟨[], []⟩ : Mor).av, .int .i64 (pval g p)]) [] := by
  refine go Tryz.func39 (by rfl) rfl rfl rfl fun hl => ?_
  (conv => whnf); repeat (first | (refine w ?_; conv => whnf) | (refine ⟨fun h => absurd h Bool.false_ne_true, fun _ => ?_⟩; conv => whnf) | (refine ⟨fun _ => ?_, fun h => absurd h.symm Bool.false_ne_true⟩; conv => whnf))
  refine ⟨_, _, c38 g p, ?_⟩
  (conv => whnf); repeat (first | (refine w ?_; conv => whnf) | (refine ⟨fun h => absurd h Bool.false_ne_true, fun _ => ?_⟩; conv => whnf) | (refine ⟨fun _ => ?_, fun h => absurd h.symm Bool.false_ne_true⟩; conv => whnf))
  refine ⟨fun h1 => ?_, fun h1 => absurd h1 (by simpa using h)⟩
  (conv => whnf); repeat (first | (refine w ?_; conv => whnf) | (refine ⟨fun h => absurd h Bool.false_ne_true, fun _ => ?_⟩; conv => whnf) | (refine ⟨fun _ => ?_, fun h => absurd h.symm Bool.false_ne_true⟩; conv => whnf))
  exact fin_frz TT rfl rfl
theorem c39 (g : Graph) (p : Mor) (h : pval g p = 0) : Con P 39 [] [g.av, p.av] (.tuple [(ext g p).av, p.av, .int .i64 0]) [] := by
  refine go Tryz.func39 (by rfl) rfl rfl rfl fun hl => ?_
  (conv => whnf); repeat (first | (refine w ?_; conv => whnf) | (refine ⟨fun h => absurd h Bool.false_ne_true, fun _ => ?_⟩; conv => whnf) | (refine ⟨fun _ => ?_, fun h => absurd h.symm Bool.false_ne_true⟩; conv => whnf))
  refine ⟨_, _, c38 g p, ?_⟩
  (conv => whnf); repeat (first | (refine w ?_; conv => whnf) | (refine ⟨fun h => absurd h Bool.false_ne_true, fun _ => ?_⟩; conv => whnf) | (refine ⟨fun _ => ?_, fun h => absurd h.symm Bool.false_ne_true⟩; conv => whnf))
  refine ⟨fun h1 => absurd h1 (by simp [h]), fun h1 => ?_⟩
  obtain ⟨hg, hn, he, hpe⟩ := pval_ok h
  have hgl := gval_len hg
  have hnl := aval_len hn
  have hel := aval_len he
  have hsn := aval_sorted hn
  (conv => whnf); repeat (first | (refine w ?_; conv => whnf) | (refine ⟨fun h => absurd h Bool.false_ne_true, fun _ => ?_⟩; conv => whnf) | (refine ⟨fun _ => ?_, fun h => absurd h.symm Bool.false_ne_true⟩; conv => whnf))
  refine loop (fun i : Nat => mkSt [(25, .int .i64 i), (24, .int .i64 p.nodes.length), (23, .slice 1 (nums p.nodes)), (2, .bptr 0 0), (3, .bptr 1 0), (4, .bptr 2 0), (5, .bptr 5 0), (8, .bptr 8 0)]
      [.box 25 g.cs, .box 31 p.cs, .box 25 [.ref 3, .ref 4], .row 3 1 [], .row 109 3 [], .box 32 [.ref 6, .ref 7], .row 3 1 [], .row 3 1 [], .box 25 [.ref 9, .ref 10], .row 3 1 (nums ((p.nodes.take i).map (at0 g.nodes))), .row 109 3 []])
    (fun i => i ≤ p.nodes.length) (fun i => p.nodes.length - i) 0 (Nat.zero_le _)
    (le_of [0, 1, 2, 3, 4, 5, 6, 7, 9, 10, 11] rfl rfl rfl ⟨rfl, by rw [nums_len]; rfl, rfl, rfl, rfl, rfl, rfl, rfl, trivial⟩ ⟨rfl, rfl, rfl, rfl, rfl, rfl, rfl, rfl, rfl, rfl, rfl, trivial⟩) ?_
  intro i hi
  (conv => whnf); repeat (first | (refine w ?_; conv => whnf) | (refine ⟨fun h => absurd h Bool.false_ne_true, fun _ => ?_⟩; conv => whnf) | (refine ⟨fun _ => ?_, fun h => absurd h.symm Bool.false_ne_true⟩; conv => whnf))
  refine ⟨fun hlt => ?_, fun hge => ?_⟩
  · have hlt := of_lt hlt
    have hx : p.nodes[i]? = some p.nodes[i] := List.getElem?_eq_getElem hlt
    generalize p.nodes[i] = k at hx
    have hk := aval_at hn hx
    (conv => whnf); repeat (first | (refine w ?_; conv => whnf) | (refine ⟨fun h => absurd h Bool.false_ne_true, fun _ => ?_⟩; conv => whnf) | (refine ⟨fun _ => ?_, fun h => absurd h.symm Bool.false_ne_true⟩; conv => whnf))
    refine ⟨by omega, _, nums_at hx, ?_⟩
    (conv => whnf); repeat (first | (refine w ?_; conv => whnf) | (refine ⟨fun h => absurd h Bool.false_ne_true, fun _ => ?_⟩; conv => whnf) | (refine ⟨fun _ => ?_, fun h => absurd h.symm Bool.false_ne_true⟩; conv => whnf))
    refine ⟨by omega, _, nums_at (at0_some (by omega)), ?_⟩
    (conv => whnf); repeat (first | (refine w ?_; conv => whnf) | (refine ⟨fun h => absurd h Bool.false_ne_true, fun _ => ?_⟩; conv => whnf) | (refine ⟨fun _ => ?_, fun h => absurd h.symm Bool.false_ne_true⟩; conv => whnf))
    refine ⟨by rw [nums_len, List.length_map, List.length_take]; show (min i p.nodes.length + 1) * 8 ≤ _; omega, ?_⟩
    (conv => whnf); repeat (first | (refine w ?_; conv => whnf) | (refine ⟨fun h => absurd h Bool.false_ne_true, fun _ => ?_⟩; conv => whnf) | (refine ⟨fun _ => ?_, fun h => absurd h.symm Bool.false_ne_true⟩; conv => whnf))
    refine ⟨by kernel_rfl, ?_⟩
    (conv => whnf); repeat (first | (refine w ?_; conv => whnf) | (refine ⟨fun h => absurd h Bool.false_ne_true, fun _ => ?_⟩; conv => whnf) | (refine ⟨fun _ => ?_, fun h => absurd h.symm Bool.false_ne_true⟩; conv => whnf))
    exact ⟨i + 1, hlt, by show p.nodes.length - (i + 1) < p.nodes.length - i; omega, le_of [0, 1, 2, 3, 4, 5, 6, 7, 8, 12, 10] rfl rfl rfl ⟨step_num hlt (by omega), rfl, rfl, rfl, rfl, rfl, rfl, rfl, trivial⟩
      ⟨rfl, rfl, rfl, rfl, rfl, rfl, rfl, rfl, rfl, by rw [take_map _ hx, nums_app]; rfl, rfl, trivial⟩⟩
  · have hge := of_ge hge
    have hall : p.nodes.take i = p.nodes := List.take_of_length_le (by omega)
    rw [hall]
    (conv => whnf); repeat (first | (refine w ?_; conv => whnf) | (refine ⟨fun h => absurd h Bool.false_ne_true, fun _ => ?_⟩; conv => whnf) | (refine ⟨fun _ => ?_, fun h => absurd h.symm Bool.false_ne_true⟩; conv => whnf))
    refine loop (fun i : Nat => mkSt [(43, .int .i64 i), (42, .int .i64 p.edges.length), (41, .slice 1 (nums p.edges)), (2, .bptr 0 0), (3, .bptr 1 0), (4, .bptr 2 0), (5, .bptr 5 0), (8, .bptr 8 0)]
        [.box 25 g.cs, .box 31 p.cs, .box 25 [.ref 3, .ref 4], .row 3 1 [], .row 109 3 [], .box 32 [.ref 6, .ref 7], .row 3 1 [], .row 3 1 [], .box 25 [.ref 9, .ref 10], .row 3 1 (nums (p.nodes.map (at0 g.nodes))), .row 109 3 (edgs ((p.edges.take i).map (extE g p)))])
      (fun i => i ≤ p.edges.length) (fun i => p.edges.length - i) 0 (Nat.zero_le _)
      (le_of [0, 1, 2, 3, 4, 5, 6, 7, 8, 9, 10] rfl rfl rfl ⟨rfl, by rw [nums_len]; rfl, rfl, rfl, rfl, rfl, rfl, rfl, trivial⟩ ⟨rfl, rfl, rfl, rfl, rfl, rfl, rfl, rfl, rfl, rfl, rfl, trivial⟩) ?_
    clear hall hi
    intro i hi
    (conv => whnf); repeat (first | (refine w ?_; conv => whnf) | (refine ⟨fun h => absurd h Bool.false_ne_true, fun _ => ?_⟩; conv => whnf) | (refine ⟨fun _ => ?_, fun h => absurd h.symm Bool.false_ne_true⟩; conv => whnf))
    refine ⟨fun hlt => ?_, fun hge => ?_⟩
    · have hlt := of_lt hlt
      have hx : p.edges[i]? = some p.edges[i] := List.getElem?_eq_getElem hlt
      generalize p.edges[i] = k at hx
      have hk := aval_at he hx
      have hy := atE_some (l := g.edges) (n := k) (by omega)
      have hc := perr_ok (by have := errs_off hpe i k hx; exact this)
      (conv => whnf); repeat (first | (refine w ?_; conv => whnf) | (refine ⟨fun h => absurd h Bool.false_ne_true, fun _ => ?_⟩; conv => whnf) | (refine ⟨fun _ => ?_, fun h => absurd h.symm Bool.false_ne_true⟩; conv => whnf))
      refine ⟨by omega, _, nums_at hx, ?_⟩
      (conv => whnf); repeat (first | (refine w ?_; conv => whnf) | (refine ⟨fun h => absurd h Bool.false_ne_true, fun _ => ?_⟩; conv => whnf) | (refine ⟨fun _ => ?_, fun h => absurd h.symm Bool.false_ne_true⟩; conv => whnf))
      refine ⟨by omega, _, edgs_at hy, ?_⟩
      (conv => whnf); repeat (first | (refine w ?_; conv => whnf) | (refine ⟨fun h => absurd h Bool.false_ne_true, fun _ => ?_⟩; conv => whnf) | (refine ⟨fun _ => ?_, fun h => absurd h.symm Bool.false_ne_true⟩; conv => whnf))
      refine ⟨_, _, c78 p.nodes _ (hsn.imp fun h => by omega) (by omega), ?_⟩
      (conv => whnf); repeat (first | (refine w ?_; conv => whnf) | (refine ⟨fun h => absurd h Bool.false_ne_true, fun _ => ?_⟩; conv => whnf) | (refine ⟨fun _ => ?_, fun h => absurd h.symm Bool.false_ne_true⟩; conv => whnf))
      refine ⟨_, _, c78 p.nodes _ (hsn.imp fun h => by omega) (by omega), ?_⟩
      (conv => whnf); repeat (first | (refine w ?_; conv => whnf) | (refine ⟨fun h => absurd h Bool.false_ne_true, fun _ => ?_⟩; conv => whnf) | (refine ⟨fun _ => ?_, fun h => absurd h.symm Bool.false_ne_true⟩; conv => whnf))
      refine ⟨by rw [edgs_len, List.length_map, List.length_take]; show (min i p.edges.length + 1) * 24 ≤ _; omega, ?_⟩
      (conv => whnf); repeat (first | (refine w ?_; conv => whnf) | (refine ⟨fun h => absurd h Bool.false_ne_true, fun _ => ?_⟩; conv => whnf) | (refine ⟨fun _ => ?_, fun h => absurd h.symm Bool.false_ne_true⟩; conv => whnf))
      exact ⟨i + 1, hlt, by show p.edges.length - (i + 1) < p.edges.length - i; omega, le_of [0, 1, 2, 3, 4, 5, 6, 7, 8, 9, 15] rfl rfl rfl ⟨step_num hlt (by omega), rfl, rfl, rfl, rfl, rfl, rfl, rfl, trivial⟩
        ⟨rfl, rfl, rfl, rfl, rfl, rfl, rfl, rfl, rfl, rfl, by rw [take_map _ hx, edgs_app, bpos_plc hsn hc.1, bpos_plc hsn hc.2]; rfl, trivial⟩⟩
    · have hge := of_ge hge
      have hall : p.edges.take i = p.edges := List.take_of_length_le (by omega)
      rw [hall]
      (conv => whnf); repeat (first | (refine w ?_; conv => whnf) | (refine ⟨fun h => absurd h Bool.false_ne_true, fun _ => ?_⟩; conv => whnf) | (refine ⟨fun _ => ?_, fun h => absurd h.symm Bool.false_ne_true⟩; conv => whnf))
      refine ⟨_, _, c32 p.nodes (by omega), ?_⟩
      (conv => whnf); repeat (first | (refine w ?_; conv => whnf) | (refine ⟨fun h => absurd h Bool.false_ne_true, fun _ => ?_⟩; conv => whnf) | (refine ⟨fun _ => ?_, fun h => absurd h.symm Bool.false_ne_true⟩; conv => whnf))
      refine ⟨_, _, c32 p.edges (by omega), ?_⟩
      (conv => whnf); repeat (first | (refine w ?_; conv => whnf) | (refine ⟨fun h => absurd h Bool.false_ne_true, fun _ => ?_⟩; conv => whnf) | (refine ⟨fun _ => ?_, fun h => absurd h.symm Bool.false_ne_true⟩; conv => whnf))
      refine ⟨by kernel_rfl, ?_⟩
      (conv => whnf); repeat (first | (refine w ?_; conv => whnf) | (refine ⟨fun h => absurd h Bool.false_ne_true, fun _ => ?_⟩; conv => whnf) | (refine ⟨fun _ => ?_, fun h => absurd h.symm Bool.false_ne_true⟩; conv => whnf))
      exact fin_frz TT rfl rfl
end Go.Av.Z
