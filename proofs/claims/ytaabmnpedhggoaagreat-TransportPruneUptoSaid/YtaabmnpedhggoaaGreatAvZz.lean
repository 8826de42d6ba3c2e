/- The contracts of the functions that the law of Prune reaches, and the law. Part 5 of 5 of a proof: the logic Av, contracts of functions. -/
import Derived.Test.YtaabmnpedhggoaaGreatAvD
set_option linter.unusedVariables false
set_option maxRecDepth 100000
/- The arguments, as they are read: the program's structs. -/
namespace Go.Av.Z
open Go.Proofs

section
variable {H : Type} {enc : TypeId × Value → H} {W : World} {sp : Nat → Bool} {held : Bool}
/-- What is read at a struct, by its fields. -/
structure Flds (enc : TypeId × Value → H) (W : World) (sp : Nat → Bool) (held : Bool) (fs : Array Field) (m : Nat) (cs : List Value) : Prop where
  f : ∀ (i t o : Nat) (R : List AV → Prop), (∃ f, fs[i]? = some f ∧ f.type = t ∧ f.offset = o) → Dec enc W sp held m t R → ∃ xs, CV W xs ((cs.drop o).take (P.cellsOf t)) ∧ R xs
theorem flds {t : TypeId} {fs : Array Field} {n : Nat} {cs : List Value} {d : DataW H} {ps : List MemPlace} (ht : P.underlying t = some (.struct fs)) (h : DataW.trod enc P W 0 sp held n t cs = some (d, ps)) (hb : YtaabmnpedhggoaaGreat.Rows.uptoBulk d ≤ 1048576) :
    ∃ m, m < n ∧ cs.length = P.cellsOf t ∧ Flds enc W sp held fs m cs := by
  obtain ⟨ys, m, hn, hx, hl, hlen, hf⟩ := DataW.trod_struct ht h
  simp only [Prod.mk.injEq] at hx
  obtain ⟨rfl, _⟩ := hx
  refine ⟨m, by omega, hl, ⟨fun i t o R ⟨f, hi, ht, ho⟩ hd => ?_⟩⟩
  subst ht ho
  have h1 := hf i f hi
  have hi' : i < ys.length := by
    rw [hlen]
    exact (Array.getElem?_eq_some_iff.1 hi).1
  rw [List.getElem?_eq_getElem hi'] at h1
  refine hd _ ys[i].1 ys[i].2 h1 ?_
  have h2 := bulk_part (List.mem_map_of_mem (f := (·.1)) (List.getElem_mem hi'))
  simp only [YtaabmnpedhggoaaGreat.Rows.uptoBulk] at hb
  omega
theorem z3 : P.cellsOf 3 = 1 := by kernel_rfl
theorem z4 : P.cellsOf 4 = 1 := by kernel_rfl
theorem z9 : P.cellsOf 9 = 1 := by kernel_rfl
theorem z26 : P.cellsOf 26 = 1 := by kernel_rfl
theorem z27 : P.cellsOf 27 = 1 := by kernel_rfl
theorem z29 : P.cellsOf 29 = 2 := by kernel_rfl
theorem z30 : P.cellsOf 30 = 1 := by kernel_rfl
theorem z31 : P.cellsOf 31 = 1 := by kernel_rfl
theorem z33 : P.cellsOf 33 = 5 := by kernel_rfl
theorem z35 : P.cellsOf 35 = 2 := by kernel_rfl
theorem z36 : P.cellsOf 36 = 2 := by kernel_rfl
theorem z37 : P.cellsOf 37 = 1 := by kernel_rfl
theorem z39 : P.cellsOf 39 = 9 := by kernel_rfl
theorem z41 : P.cellsOf 41 = 25 := by kernel_rfl
theorem z115 : P.cellsOf 115 = 2 := by kernel_rfl
theorem z117 : P.cellsOf 117 = 4 := by kernel_rfl
theorem z119 : P.cellsOf 119 = 5 := by kernel_rfl
theorem z133 : P.cellsOf 133 = 3 := by kernel_rfl

theorem dec_term (n : Nat) : Dec enc W sp held n 115 fun xs => ∃ t : Term, xs = [.int .i64 t.var, .int .i64 t.add] := by
  intro cs d ps h hb
  obtain ⟨m, _, hl, hF⟩ := flds Tryz.underlying115 h hb
  obtain ⟨x0, v0, a, rfl⟩ := hF.f 0 3 0 _ ⟨_, rfl, rfl, rfl⟩ (dec_int m)
  obtain ⟨x1, v1, b, rfl⟩ := hF.f 1 3 1 _ ⟨_, rfl, rfl, rfl⟩ (dec_int m)
  rw [z115] at hl
  rw [z3] at v0 v1
  exact ⟨_, CV.app v0 (CV.app v1 (CV.nil (by omega)) (by omega)) (by omega), ⟨a, b⟩, rfl⟩
theorem dec_edge (n : Nat) : Dec enc W sp held n 133 fun xs => ∃ e : Edge, xs = e.el ∧ True := by
  intro cs d ps h hb
  obtain ⟨m, _, hl, hF⟩ := flds Tryz.underlying133 h hb
  obtain ⟨x0, v0, a, rfl⟩ := hF.f 0 3 0 _ ⟨_, rfl, rfl, rfl⟩ (dec_int m)
  obtain ⟨x1, v1, b, rfl⟩ := hF.f 1 3 1 _ ⟨_, rfl, rfl, rfl⟩ (dec_int m)
  obtain ⟨x2, v2, c, rfl⟩ := hF.f 2 3 2 _ ⟨_, rfl, rfl, rfl⟩ (dec_int m)
  rw [z133] at hl
  rw [z3] at v0 v1 v2
  exact ⟨_, CV.app v0 (CV.app v1 (CV.app v2 (CV.nil (by omega)) (by omega)) (by omega)) (by omega), ⟨a, b, c⟩, rfl, trivial⟩
theorem dec_slot (n : Nat) : Dec enc W sp held n 117 fun xs => ∃ s : Slot, xs = s.el ∧ True := by
  intro cs d ps h hb
  obtain ⟨m, _, hl, hF⟩ := flds Tryz.underlying117 h hb
  obtain ⟨x0, v0, a, rfl⟩ := hF.f 0 3 0 _ ⟨_, rfl, rfl, rfl⟩ (dec_int m)
  obtain ⟨x1, v1, b, rfl⟩ := hF.f 1 3 1 _ ⟨_, rfl, rfl, rfl⟩ (dec_int m)
  obtain ⟨x2, v2, t, rfl⟩ := hF.f 2 115 2 _ ⟨_, rfl, rfl, rfl⟩ (dec_term m)
  rw [z117] at hl
  rw [z3] at v0 v1
  rw [z115] at v2
  exact ⟨_, CV.app v0 (CV.app v1 (CV.app v2 (CV.nil (by omega)) (by omega)) (by omega)) (by omega), ⟨a, b, t⟩, rfl, trivial⟩
theorem dec_tst (n : Nat) : Dec enc W sp held n 119 fun xs => ∃ s : Tst, xs = s.el ∧ True := by
  intro cs d ps h hb
  obtain ⟨m, _, hl, hF⟩ := flds Tryz.underlying119 h hb
  obtain ⟨x0, v0, a, rfl⟩ := hF.f 0 3 0 _ ⟨_, rfl, rfl, rfl⟩ (dec_int m)
  obtain ⟨x1, v1, t, rfl⟩ := hF.f 1 115 1 _ ⟨_, rfl, rfl, rfl⟩ (dec_term m)
  obtain ⟨x2, v2, u, rfl⟩ := hF.f 2 115 3 _ ⟨_, rfl, rfl, rfl⟩ (dec_term m)
  rw [z119] at hl
  rw [z3] at v0
  rw [z115] at v1 v2
  exact ⟨_, CV.app v0 (CV.app v1 (CV.app v2 (CV.nil (by omega)) (by omega)) (by omega)) (by omega), ⟨a, t, u⟩, rfl, trivial⟩
theorem dec_nums (n : Nat) : Dec enc W sp held n 26 fun xs => ∃ l : List Int, xs = [.slice 1 (nums l)] ∧ l.length ≤ 1048576 := by
  intro cs d ps h hb
  obtain ⟨xs, h1, l, h2, h3, _⟩ := dec_slice (el := fun m : Int => [AV.int .i64 m]) (G := fun _ => True) (n := n) Tryz.underlying26 z3 (fun x => ⟨rfl, by simp [AV.cell]⟩) (fun m _ cs d ps h hb => by obtain ⟨xs, h1, m, h2⟩ := dec_int m cs d ps h hb; exact ⟨xs, h1, m, h2, trivial⟩) cs d ps h hb
  exact ⟨xs, h1, l, h2, h3⟩
theorem dec_edgs (n : Nat) : Dec enc W sp held n 27 fun xs => ∃ l : List Edge, xs = [.slice 3 (edgs l)] ∧ l.length ≤ 1048576 := by
  intro cs d ps h hb
  obtain ⟨xs, h1, l, h2, h3, _⟩ := dec_slice (el := Edge.el) (G := fun _ => True) (n := n) Tryz.underlying27 z133 (fun x => ⟨rfl, by simp [AV.cell, Edge.el]⟩) (fun m _ => dec_edge m) cs d ps h hb
  exact ⟨xs, h1, l, h2, h3⟩
theorem dec_slts (n : Nat) : Dec enc W sp held n 30 fun xs => ∃ l : List Slot, xs = [.slice 4 (slts l)] ∧ l.length ≤ 1048576 := by
  intro cs d ps h hb
  obtain ⟨xs, h1, l, h2, h3, _⟩ := dec_slice (el := Slot.el) (G := fun _ => True) (n := n) Tryz.underlying30 z117 (fun x => ⟨rfl, by simp [AV.cell, Slot.el]⟩) (fun m _ => dec_slot m) cs d ps h hb
  exact ⟨xs, h1, l, h2, h3⟩
theorem dec_tsts (n : Nat) : Dec enc W sp held n 31 fun xs => ∃ l : List Tst, xs = [.slice 5 (tsts l)] ∧ l.length ≤ 1048576 := by
  intro cs d ps h hb
  obtain ⟨xs, h1, l, h2, h3, _⟩ := dec_slice (el := Tst.el) (G := fun _ => True) (n := n) Tryz.underlying31 z119 (fun x => ⟨rfl, by simp [AV.cell, Tst.el]⟩) (fun m _ => dec_tst m) cs d ps h hb
  exact ⟨xs, h1, l, h2, h3⟩
theorem dec_graph (n : Nat) : Dec enc W sp held n 29 fun xs => ∃ g : Graph, xs = g.cs := by
  intro cs d ps h hb
  obtain ⟨m, _, hl, hF⟩ := flds Tryz.underlying29 h hb
  obtain ⟨x0, v0, a, rfl, _⟩ := hF.f 0 26 0 _ ⟨_, rfl, rfl, rfl⟩ (dec_nums m)
  obtain ⟨x1, v1, b, rfl, _⟩ := hF.f 1 27 1 _ ⟨_, rfl, rfl, rfl⟩ (dec_edgs m)
  rw [z29] at hl
  rw [z26] at v0
  rw [z27] at v1
  exact ⟨_, CV.app v0 (CV.app v1 (CV.nil (by omega)) (by omega)) (by omega), ⟨a, b⟩, rfl⟩
theorem dec_part (n : Nat) : Dec enc W sp held n 35 fun xs => ∃ g : Mor, xs = g.cs := by
  intro cs d ps h hb
  obtain ⟨m, _, hl, hF⟩ := flds Tryz.underlying35 h hb
  obtain ⟨x0, v0, a, rfl, _⟩ := hF.f 0 26 0 _ ⟨_, rfl, rfl, rfl⟩ (dec_nums m)
  obtain ⟨x1, v1, b, rfl, _⟩ := hF.f 1 26 1 _ ⟨_, rfl, rfl, rfl⟩ (dec_nums m)
  rw [z35] at hl
  rw [z26] at v0 v1
  exact ⟨_, CV.app v0 (CV.app v1 (CV.nil (by omega)) (by omega)) (by omega), ⟨a, b⟩, rfl⟩
theorem dec_mor (n : Nat) : Dec enc W sp held n 36 fun xs => ∃ g : Mor, xs = g.cs := by
  intro cs d ps h hb
  obtain ⟨m, _, hl, hF⟩ := flds Tryz.underlying36 h hb
  obtain ⟨x0, v0, a, rfl, _⟩ := hF.f 0 26 0 _ ⟨_, rfl, rfl, rfl⟩ (dec_nums m)
  obtain ⟨x1, v1, b, rfl, _⟩ := hF.f 1 26 1 _ ⟨_, rfl, rfl, rfl⟩ (dec_nums m)
  rw [z36] at hl
  rw [z26] at v0 v1
  exact ⟨_, CV.app v0 (CV.app v1 (CV.nil (by omega)) (by omega)) (by omega), ⟨a, b⟩, rfl⟩
theorem dec_pat (n : Nat) : Dec enc W sp held n 33 fun xs => ∃ p : Pat, xs = p.cs ∧ p.slots.length ≤ 1048576 ∧ p.tests.length ≤ 1048576 := by
  intro cs d ps h hb
  obtain ⟨m, _, hl, hF⟩ := flds Tryz.underlying33 h hb
  obtain ⟨x0, v0, g, rfl⟩ := hF.f 0 29 0 _ ⟨_, rfl, rfl, rfl⟩ (dec_graph m)
  obtain ⟨x1, v1, s, rfl, hs⟩ := hF.f 1 30 2 _ ⟨_, rfl, rfl, rfl⟩ (dec_slts m)
  obtain ⟨x2, v2, k, rfl⟩ := hF.f 2 3 3 _ ⟨_, rfl, rfl, rfl⟩ (dec_int m)
  obtain ⟨x3, v3, t, rfl, ht⟩ := hF.f 3 31 4 _ ⟨_, rfl, rfl, rfl⟩ (dec_tsts m)
  rw [z33] at hl
  rw [z29] at v0
  rw [z30] at v1
  rw [z3] at v2
  rw [z31] at v3
  exact ⟨_, CV.app v0 (CV.app v1 (CV.app v2 (CV.app v3 (CV.nil (by omega)) (by omega)) (by omega)) (by omega)) (by omega), ⟨g, s, k, t⟩, rfl, hs, ht⟩
theorem cs_el (c : Cond) : El 9 c.el := by rw [Cond.el_cs]; exact ⟨rfl, by simp [AV.cell, Cond.cs]⟩
theorem dec_cond : ∀ n : Nat, Dec enc W sp held n 39 fun xs => ∃ c : Cond, xs = c.el ∧ kb c := by
  intro n
  induction n using Nat.strongRecOn with
  | ind n ih =>
    intro cs d ps h hb
    obtain ⟨m, hm, hl, hF⟩ := flds Tryz.underlying39 h hb
    obtain ⟨x0, v0, a, rfl⟩ := hF.f 0 3 0 _ ⟨_, rfl, rfl, rfl⟩ (dec_int m)
    obtain ⟨x1, v1, l, rfl, hl1, hl2⟩ := hF.f 1 37 1 _ ⟨_, rfl, rfl, rfl⟩ (dec_slice (n := m) (el := Cond.el) (G := kb) Tryz.underlying37 z39 cs_el (fun k hk => ih k (by omega)))
    obtain ⟨x2, v2, f, rfl⟩ := hF.f 2 36 2 _ ⟨_, rfl, rfl, rfl⟩ (dec_mor m)
    obtain ⟨x3, v3, p, rfl, _⟩ := hF.f 3 33 4 _ ⟨_, rfl, rfl, rfl⟩ (dec_pat m)
    rw [z39] at hl
    rw [z3] at v0
    rw [z37] at v1
    rw [z36] at v2
    rw [z33] at v3
    refine ⟨_, CV.app v0 (CV.app v1 (CV.app v2 (CV.app v3 (CV.nil (by omega)) (by omega)) (by omega)) (by omega)) (by omega), .mk a l f p, ?_, (kb_iff _).2 ⟨hl1, hl2⟩⟩
    rw [← cnds_map, Cond.el_cs]; rfl
theorem dec_rule (n : Nat) : Dec enc W sp held n 41 fun xs => ∃ r : Rule, xs = r.cs ∧ r.fine := by
  intro cs d ps h hb
  obtain ⟨m, hm, hl, hF⟩ := flds Tryz.underlying41 h hb
  obtain ⟨x0, v0, a, rfl⟩ := hF.f 0 9 0 _ ⟨_, rfl, rfl, rfl⟩ (dec_str m)
  obtain ⟨x1, v1, p, rfl, p1, p2⟩ := hF.f 1 33 1 _ ⟨_, rfl, rfl, rfl⟩ (dec_pat m)
  obtain ⟨x2, v2, q, rfl, q1, q2⟩ := hF.f 2 33 6 _ ⟨_, rfl, rfl, rfl⟩ (dec_pat m)
  obtain ⟨x3, v3, k, rfl⟩ := hF.f 3 35 11 _ ⟨_, rfl, rfl, rfl⟩ (dec_part m)
  obtain ⟨x4, v4, i, rfl⟩ := hF.f 4 36 13 _ ⟨_, rfl, rfl, rfl⟩ (dec_mor m)
  obtain ⟨x5, v5, b, rfl⟩ := hF.f 5 4 15 _ ⟨_, rfl, rfl, rfl⟩ (dec_bool m)
  obtain ⟨x6, v6, c, rfl, _⟩ := hF.f 6 39 16 _ ⟨_, rfl, rfl, rfl⟩ (dec_cond m)
  rw [z41] at hl
  rw [z9] at v0
  rw [z33] at v1 v2
  rw [z35] at v3
  rw [z36] at v4
  rw [z4] at v5
  rw [z39] at v6
  refine ⟨_, CV.app v0 (CV.app v1 (CV.app v2 (CV.app v3 (CV.app v4 (CV.app v5 (CV.app v6 (CV.nil (by omega)) (by omega)) (by omega)) (by omega)) (by omega)) (by omega)) (by omega)) (by omega), ⟨a, p, q, k, i, b, c⟩, ?_, by unfold Rule.fine; simp only; omega⟩
  rw [Cond.el_cs]; rfl
end
end Go.Av.Z

/- The arguments, as they are read: type graphs. -/
namespace Go.Av.Z
open Go.Proofs

section
variable {H : Type} {enc : TypeId × Value → H} {W : World} {sp : Nat → Bool} {held : Bool}
theorem dec_string (n : Nat) : Dec enc W sp held n 9 fun xs => ∃ s : ByteArray, xs = [.str s] ∧ s.size ≤ 1048576 := by
  intro cs d ps h hb
  obtain ⟨s, rfl, hx, _⟩ := DataW.trod_string Tryz.underlying9 h
  simp only [Prod.mk.injEq] at hx
  obtain ⟨rfl, _⟩ := hx
  simp only [YtaabmnpedhggoaaGreat.Rows.uptoBulk] at hb
  exact ⟨_, CV.one (.str s), s, rfl, by rw [← bytes_size]; omega⟩
theorem dec_strings (n : Nat) : Dec enc W sp held n 85 fun xs => ∃ l : List ByteArray, xs = [.slice 1 (strs l)] ∧ l.length ≤ 1048576 ∧ ∀ s ∈ l, s.size ≤ 1048576 :=
  dec_slice (el := fun s : ByteArray => [AV.str s]) (G := fun s => s.size ≤ 1048576) Tryz.underlying85 z9 (fun x => ⟨rfl, by simp [AV.cell]⟩) (fun m _ => dec_string m)
theorem zAttr : P.cellsOf 87 = 4 := by kernel_rfl
theorem zStrs : P.cellsOf 85 = 1 := by kernel_rfl
theorem zNodeT : P.cellsOf 82 = 4 := by kernel_rfl
theorem zEdgeT : P.cellsOf 84 = 7 := by kernel_rfl
theorem zAttrs : P.cellsOf 80 = 1 := by kernel_rfl
theorem zNodes : P.cellsOf 22 = 1 := by kernel_rfl
theorem zEdges : P.cellsOf 23 = 1 := by kernel_rfl
theorem zTypes : P.cellsOf 25 = 2 := by kernel_rfl
theorem dec_attr (n : Nat) : Dec enc W sp held n 87 fun xs => ∃ a : Attr, xs = a.el ∧ a.ok := by
  intro cs d ps h hb
  obtain ⟨m, _, hl, hF⟩ := flds Tryz.underlying87 h hb
  obtain ⟨x0, v0, a, rfl, g0⟩ := hF.f 0 9 0 _ ⟨_, rfl, rfl, rfl⟩ (dec_string m)
  obtain ⟨x1, v1, b, rfl⟩ := hF.f 1 3 1 _ ⟨_, rfl, rfl, rfl⟩ (dec_int m)
  obtain ⟨x2, v2, c, rfl⟩ := hF.f 2 3 2 _ ⟨_, rfl, rfl, rfl⟩ (dec_int m)
  obtain ⟨x3, v3, l, rfl, g1, g2⟩ := hF.f 3 85 3 _ ⟨_, rfl, rfl, rfl⟩ (dec_strings m)
  rw [zAttr] at hl
  rw [z9] at v0
  rw [z3] at v1 v2
  rw [zStrs] at v3
  exact ⟨_, CV.app v0 (CV.app v1 (CV.app v2 (CV.app v3 (CV.nil (by omega)) (by omega)) (by omega)) (by omega)) (by omega), ⟨a, b, c, l⟩, rfl, g0, g2, g1⟩
theorem dec_nodeT (n : Nat) : Dec enc W sp held n 82 fun xs => ∃ a : NodeT, xs = a.el ∧ a.ok := by
  intro cs d ps h hb
  obtain ⟨m, _, hl, hF⟩ := flds Tryz.underlying82 h hb
  obtain ⟨x0, v0, a, rfl, g0⟩ := hF.f 0 9 0 _ ⟨_, rfl, rfl, rfl⟩ (dec_string m)
  obtain ⟨x1, v1, b, rfl⟩ := hF.f 1 3 1 _ ⟨_, rfl, rfl, rfl⟩ (dec_int m)
  obtain ⟨x2, v2, c, rfl⟩ := hF.f 2 4 2 _ ⟨_, rfl, rfl, rfl⟩ (dec_bool m)
  obtain ⟨x3, v3, l, rfl, g1, g2⟩ := hF.f 3 80 3 _ ⟨_, rfl, rfl, rfl⟩ (dec_slice (n := m) (el := Attr.el) (G := Attr.ok) Tryz.underlying80 zAttr (fun x => ⟨rfl, by simp [AV.cell, Attr.el]⟩) (fun m _ => dec_attr m))
  rw [zNodeT] at hl
  rw [z9] at v0
  rw [z3] at v1
  rw [z4] at v2
  rw [zAttrs] at v3
  exact ⟨_, CV.app v0 (CV.app v1 (CV.app v2 (CV.app v3 (CV.nil (by omega)) (by omega)) (by omega)) (by omega)) (by omega), ⟨a, b, c, l⟩, rfl, g0, g1, g2⟩
theorem dec_edgeT (n : Nat) : Dec enc W sp held n 84 fun xs => ∃ a : EdgeT, xs = a.el ∧ a.name.size ≤ 1048576 := by
  intro cs d ps h hb
  obtain ⟨m, _, hl, hF⟩ := flds Tryz.underlying84 h hb
  obtain ⟨x0, v0, a, rfl, g0⟩ := hF.f 0 9 0 _ ⟨_, rfl, rfl, rfl⟩ (dec_string m)
  obtain ⟨x1, v1, b1, rfl⟩ := hF.f 1 3 1 _ ⟨_, rfl, rfl, rfl⟩ (dec_int m)
  obtain ⟨x2, v2, b2, rfl⟩ := hF.f 2 3 2 _ ⟨_, rfl, rfl, rfl⟩ (dec_int m)
  obtain ⟨x3, v3, b3, rfl⟩ := hF.f 3 3 3 _ ⟨_, rfl, rfl, rfl⟩ (dec_int m)
  obtain ⟨x4, v4, b4, rfl⟩ := hF.f 4 3 4 _ ⟨_, rfl, rfl, rfl⟩ (dec_int m)
  obtain ⟨x5, v5, b5, rfl⟩ := hF.f 5 3 5 _ ⟨_, rfl, rfl, rfl⟩ (dec_int m)
  obtain ⟨x6, v6, b6, rfl⟩ := hF.f 6 3 6 _ ⟨_, rfl, rfl, rfl⟩ (dec_int m)
  rw [zEdgeT] at hl
  rw [z9] at v0
  rw [z3] at v1 v2 v3 v4 v5 v6
  exact ⟨_, CV.app v0 (CV.app v1 (CV.app v2 (CV.app v3 (CV.app v4 (CV.app v5 (CV.app v6 (CV.nil (by omega)) (by omega)) (by omega)) (by omega)) (by omega)) (by omega)) (by omega)) (by omega), ⟨a, b1, b2, b3, b4, b5, b6⟩, rfl, g0⟩
theorem dec_types (n : Nat) : Dec enc W sp held n 25 fun xs => ∃ t : Types, xs = t.cs ∧ t.ok := by
  intro cs d ps h hb
  obtain ⟨m, _, hl, hF⟩ := flds Tryz.underlying25 h hb
  obtain ⟨x0, v0, l0, rfl, g0, k0⟩ := hF.f 0 22 0 _ ⟨_, rfl, rfl, rfl⟩ (dec_slice (n := m) (el := NodeT.el) (G := NodeT.ok) Tryz.underlying22 zNodeT (fun x => ⟨rfl, by simp [AV.cell, NodeT.el]⟩) (fun m _ => dec_nodeT m))
  obtain ⟨x1, v1, l1, rfl, g1, k1⟩ := hF.f 1 23 1 _ ⟨_, rfl, rfl, rfl⟩ (dec_slice (n := m) (el := EdgeT.el) (G := fun e => e.name.size ≤ 1048576) Tryz.underlying23 zEdgeT (fun x => ⟨rfl, by simp [AV.cell, EdgeT.el]⟩) (fun m _ => dec_edgeT m))
  rw [zTypes] at hl
  rw [zNodes] at v0
  rw [zEdges] at v1
  exact ⟨_, CV.app v0 (CV.app v1 (CV.nil (by omega)) (by omega)) (by omega), ⟨l0, l1⟩, rfl, k0, k1⟩
end
end Go.Av.Z

/- The row, the example's answer given. -/
namespace Go.Av.Z
open Go.Proofs Go.ChangeShapes Go.WideShapes Go.ChangeAt Go.RowKit
open YtaabmnpedhggoaaGreat

theorem own : ownKnob Tryz.prog.godebug = none := by kernel_rfl

section
variable {H : Type} {enc : TypeId × Value → H} {P : Program}
/-- What holds behind a call that leaves what was there as it was: '∀ a' of the kit's lemma is asked of what was trodden alone. -/
theorem post_below {f : Func} {s : ChangeSpec} {apart fresh handsOn again : Bool} {W W' : World} {args : Array Value} {v : Value} {ds gs : List (DataW H)} {before pa pv : List MemPlace}
    (hW : DataW.Whole enc P f.params.toList s.vars apart W args.toList ds gs before)
    (hres : ∀ (b : Nat) (sp : Nat → Bool) (hd : Bool), DataW.TrodAll enc P W' b sp hd f.resultTypes.toList (v.resultList f.resultTypes.size) (s.fn H (ds ++ gs)).results [])
    (hargs : ∀ sp : Nat → Bool, (∀ p ∈ before, sp p.block = true) → DataW.TrodAll enc P W' 0 sp true f.params.toList args.toList (s.fn H (ds ++ gs)).args pa)
    (hvars : ∀ sp : Nat → Bool, (∀ p ∈ before, sp p.block = true) → DataW.TrodVars enc P W' sp s.vars (s.fn H (ds ++ gs)).vars pv)
    (hps : before = pa ++ pv) (hb : Below W.heap.size W W')
    (hok : ∀ (j : Nat) (t : TypeId) (r : Value), f.resultTypes[j]? = some t → (v.resultList f.resultTypes.size)[j]? = some r → Value.okWide P W' .any 0 t r) :
    s.post enc P f apart fresh handsOn again W args v W' := by
  have hold : ∀ p ∈ before, (fun b => decide (b < W.heap.size)) p.block = true := fun p hp => by simpa using hW.lt p hp
  refine ⟨ds, gs, before, [], pa, pv, hW, hres _ _ _, hargs _ hold, hvars _ hold, World.keptBut_mono (fun p hp => ⟨hp, ?_⟩) (hb.frame _), fun _ => ?_⟩
  · rw [hps, List.mem_append] at hp
    exact Or.inr hp
  · have hlt := fun p hp => hW.lt (p := p) hp
    obtain ⟨_, _, _, _, _, hz, hn⟩ := hW
    refine ⟨hok, _, _, ([] ++ pa) ++ pv, ⟨[] ++ pa, pv, trodAll_append (hargs _ (fun _ _ => rfl)) (hres _ _ _), hvars _ (fun _ _ => rfl), rfl, ?_, ?_⟩, ?_⟩
    · intro b off hp
      have hm : MemPlace.cell b off ∈ before := by rw [hps]; simpa using hp
      rw [hb.frozen (p := ⟨b, off, none⟩) (hlt _ hm)]
      exact hz b off hm
    · intro ha
      have := hn ha
      rw [hps] at this
      simpa using this
    · intro p hp _
      rw [hps]
      simpa using hp
end

/-- A struct, told. -/
theorem CV.agg {W : World} {xs : List AV} {cs : Array Value} (h : CV W xs cs.toList) : Val W (allF W) noSig (.agg xs) (.agg cs) := by
  refine .agg _ _ (by have := h.1; simp at this; omega) fun j y hy => ?_
  have := h.2 j y hy
  rw [List.getD_eq_getElem?_getD] at this
  simpa [Array.getD_eq_getD_getElem?] using this

theorem simx0 (W : World) : SimX ⟨W, allF W, blocksOf noSig []⟩ noTM (hpOf []) act0 W noSig (allF W) :=
  ⟨rfl, fun t x h => (by cases h), fun id b h => by simp [hpOf] at h, fun id id' b b' sv sv' g h => by simp [hpOf] at h, fun id b sv g h => by simp [hpOf] at h, fun _ h => h, fun _ h => h, fun _ h _ => .inl h, rfl, rfl, rfl, Nat.le_refl _, fun _ _ _ => rfl⟩
/-- What is read is nothing: witnesses. -/
def wS : Value := .slice none 0 0
def wZ : Value := .int .i64 0
def wM {H : Type} : DataW H := .agg [.nil, .nil]
def wP {H : Type} : DataW H := .agg [wM, .nil, .lit (.int .i64 0), .nil]
def wC {H : Type} : DataW H := .agg [.lit (.int .i64 0), .nil, wM, wP]
def wR {H : Type} : DataW H := .agg [.lit (.string []), wP, wP, wM, wM, .lit (.bool false), wC]

def wT {H : Type} : DataW H := .agg [.nil, .nil]
end Go.Av.Z

/- The row of TransportPrune, its contract given. -/
namespace Go.Av.Z.TransportPrune
open Go.Proofs Go.ChangeShapes Go.WideShapes Go.ChangeAt Go.RowKit
open YtaabmnpedhggoaaGreat

theorem contract (hlaw : ∀ (T : Types) (ρ : Rule) (c : Cond), T.ok → ρ.fine → kb c → Con P 5 [] [T.av, ρ.av, c.av] (.bool true) []) (H : Type) (enc : TypeId × Value → H) (W : World) (base : Nat) (args : Array Value) (ds gs : List (DataW H)) (before : List MemPlace)
    (hval : ∀ (j : Nat) t v, Tryz.f5.params[j]? = some t → args[j]? = some v → Value.okWide Tryz.prog W .any base t v)
    (hW : DataW.Whole enc Tryz.prog Tryz.f5.params.toList Rows.transportPruneSpec.vars false W args.toList ds gs before)
    (hk : Rows.uptoSmall H (ds ++ gs) = true) :
    Calls Tryz.prog 5 args W fun e W' => ∃ v, e = .returned v ∧ Rows.transportPruneSpec.post enc Tryz.prog Tryz.f5 false true false false W args v W' := by
  have hW' := hW
  obtain ⟨p, q, hA0, hV, rfl, hfz, hnd⟩ := hW
  have hA : DataW.TrodAll enc Tryz.prog W 0 (fun _ => true) true Tryz.f5.params.toList args.toList ds p := hA0
  rw [Tryz.params5] at hA hval
  obtain ⟨v0, v1, v2, d0, d1, d2, p0, p1, p2, rfl, rfl, rfl, h0, h1, h2⟩ := trodAll_three hA
  obtain ⟨rfl, rfl⟩ := trodVars_none hV
  have hsm : Rows.uptoBulk d0 ≤ 1048576 ∧ Rows.uptoBulk d1 ≤ 1048576 ∧ Rows.uptoBulk d2 ≤ 1048576 := by
    have := of_decide_eq_true hk
    simp only [List.append_nil, Rows.uptoBulkAll] at this
    omega
  have k0 := hval 0 25 v0 rfl rfl
  unfold Value.okWide at k0
  rw [Tryz.underlying25] at k0
  obtain ⟨cs0, rfl, _, _⟩ := k0
  have h0k := h0
  obtain ⟨n0, h0⟩ := h0
  have k1 := hval 1 41 v1 rfl rfl
  unfold Value.okWide at k1
  rw [Tryz.underlying41] at k1
  obtain ⟨cs1, rfl, _, _⟩ := k1
  have h1k := h1
  obtain ⟨n1, h1⟩ := h1
  have k2 := hval 2 39 v2 rfl rfl
  unfold Value.okWide at k2
  rw [Tryz.underlying39] at k2
  obtain ⟨cs2, rfl, _, _⟩ := k2
  have h2k := h2
  obtain ⟨n2, h2⟩ := h2
  obtain ⟨x0, e0, T, rfl, g00⟩ := dec_types n0 _ _ _ h0 hsm.1
  obtain ⟨x1, e1, ρ, rfl, g10⟩ := dec_rule n1 _ _ _ h1 hsm.2.1
  obtain ⟨x2, e2, c, rfl, g20⟩ := dec_cond n2 _ _ _ h2 hsm.2.2
  have hargs : AllVal W (allF W) noSig [T.av, ρ.av, c.av] #[.agg cs0, .agg cs1, .agg cs2] := by
    refine ⟨rfl, fun j x hx => ?_⟩
    match j, hx with
    | 0, hx => simp at hx; subst hx; exact e0.agg
    | 1, hx => simp at hx; subst hx; exact e1.agg
    | 2, hx => simp at hx; subst hx; rw [Cond.el_cs] at e2; exact e2.agg
  refine ((hlaw T ρ c g00 g10 g20).spec W (allF W) noSig _ (simx0 W) (fun _ _ => rfl) hargs).mono fun e W' he => ?_
  obtain ⟨v, σ', F', rfl, _, _, hv, hS⟩ := he
  obtain rfl := hv.unbool
  have hb : Below W.heap.size W W' := ⟨hS.os, hS.tape, hS.output, hS.size, fun k hk => hS.bel k hk (fun ⟨i, b, sv, h1, _⟩ => by simp at h1)⟩
  simp only [List.append_nil] at hW'
  have hlt := fun x (hx : x ∈ _) => hW'.lt (p := x) hx
  simp only [List.mem_append] at hlt
  refine ⟨_, rfl, post_below (pv := []) hW' (fun _ _ _ => (trodAll_cons_mk (shut_bool Tryz.underlying4 _) trodAll_mk0)) (fun sp hsp => ?_) (fun _ _ => rfl) (List.append_nil _).symm hb (ok_one (by kernel_rfl) rfl (okWide_bool_mk Tryz.underlying4 _))⟩
  simp only [List.mem_append] at hsp
  have t0 := WideElems.Trod_stays (sp' := sp) (t := 25) (by kernel_rfl) (by kernel_rfl) (of_decide_eq_true (by kernel_rfl)) h0k (fun x hx => hb.same (hlt x (by simp [hx]))) (fun x hx => hsp x (by simp [hx]))
  have t1 := WideElems.Trod_stays (sp' := sp) (t := 41) (by kernel_rfl) (by kernel_rfl) (of_decide_eq_true (by kernel_rfl)) h1k (fun x hx => hb.same (hlt x (by simp [hx]))) (fun x hx => hsp x (by simp [hx]))
  have t2 := WideElems.Trod_stays (sp' := sp) (t := 39) (by kernel_rfl) (by kernel_rfl) (of_decide_eq_true (by kernel_rfl)) h2k (fun x hx => hb.same (hlt x (by simp [hx]))) (fun x hx => hsp x (by simp [hx]))
  rw [Tryz.params5]
  have : DataW.TrodAll enc Tryz.prog W' 0 sp true [25, 41, 39] [.agg cs0, .agg cs1, .agg cs2] [d0, d1, d2] (p0 ++ p1 ++ p2) := by simpa using trodAll_cons_mk t0 (trodAll_cons_mk t1 (trodAll_cons_mk t2 trodAll_mk0))
  exact this
def wit : Input := ⟨#[], #[.agg #[wS, wS], .agg #[.string ⟨#[]⟩, wS, wS, wS, wZ, wS, wS, wS, wS, wZ, wS, wS, wS, wS, wS, .bool false, wZ, wS, wS, wS, wS, wS, wS, wZ, wS], .agg #[wZ, wS, wS, wS, wS, wS, wS, wZ, wS]], []⟩
theorem lifted (hlaw : ∀ (T : Types) (ρ : Rule) (c : Cond), T.ok → ρ.fine → kb c → Con P 5 [] [T.av, ρ.av, c.av] (.bool true) []) (os : Os) (started : os.Started) (H : Type) (enc : TypeId × Value → H) (F : Stop.Interp) :
    ReturnsInHanded {} Tryz.checked os 5 .any ((Rows.OpenSpec.upto Rows.transportPruneSpec).pre6 enc Tryz.prog Tryz.f5 Rows.transportPruneUptoRow.domain false) (((Rows.OpenSpec.upto Rows.transportPruneSpec).at F).post enc Tryz.prog Tryz.f5 false true false false) := by
  refine returnsInHanded_of_cond (C := Tryz.checked) (s := Rows.OpenSpec.upto Rows.transportPruneSpec) (k := Rows.uptoSmall) rfl own started (by kernel_rfl) Tryz.func5
    (OpenSpec.witness (enc := enc) (C := Tryz.checked) (s := Rows.OpenSpec.upto Rows.transportPruneSpec) (k := Rows.uptoSmall) rfl false wit 8 (by kernel_rfl) (by kernel_rfl) (by kernel_rfl)
      (x := ([wT, wR, wC], [], [])) (by kernel_rfl) rfl (by kernel_rfl)) ?_
  intro W base args ds gs before hval hW _ hk _
  exact contract hlaw H enc W base args ds gs before hval hW hk
noncomputable abbrev P : Program := Tryz.pinned.checked.prog
abbrev f : FuncId := 5
noncomputable abbrev fn : Func := Tryz.f5
noncomputable abbrev s : ChangeSpec := (Rows.OpenSpec.upto Rows.transportPruneSpec).bare
noncomputable abbrev c : OpenClaim := Rows.transportPruneUptoRow
theorem k0 : (c.wf (OpenSpec.ofChange s)) = true := by kernel_rfl
theorem k1 : (laidOutB P) = true := by kernel_rfl
theorem k2 : (mapsRowed P) = true := by kernel_rfl
theorem k3 : (fn.params.all (P.readableRec ·)) = true := by kernel_rfl
theorem k4 : (namedTie P c.named s.vars) = true := by kernel_rfl
theorem k5 : ((c.stops == [])) = true := by kernel_rfl
theorem k6 : ((P.stops == [])) = true := by kernel_rfl
theorem k7 : ((c.knobs == [])) = true := by kernel_rfl
theorem k8 : ((P.stopKnobs == [])) = true := by kernel_rfl
theorem k9 : ((c.inPlace == P.inPlace f)) = true := by kernel_rfl
theorem k10 : ((c.unfollowed == P.unfollowed f)) = true := by kernel_rfl
theorem k11 : ((c.recurses == P.recurses f)) = true := by kernel_rfl
theorem k12 : ((c.named == P.varsNamed f)) = true := by kernel_rfl
theorem k13 : ((c.maps == (fn.params.toList ++ s.plain.varTypes P).any (P.mapsRec ·))) = true := by kernel_rfl
theorem k14 : ((c.ifaces == (fn.params.toList ++ s.plain.varTypes P).any (P.ifacesRec ·))) = true := by kernel_rfl
theorem k15 : ((c.mapsOut == P.mapsAmong fn.resultTypes.toList)) = true := by kernel_rfl
theorem k16 : ((c.loops == (fn.params.toList ++ s.plain.varTypes P).any (P.loopsFrom ·))) = true := by kernel_rfl
theorem k17 : ((c.wideKeys == (fn.params.toList ++ s.plain.varTypes P ++ fn.resultTypes.toList).any (P.wideKeysFrom ·))) = true := by kernel_rfl
theorem k18 : (s.vars.all (P.varReadable ·)) = true := by kernel_rfl
theorem k19 : (fn.resultTypes.all (fun t => P.readableRec t && decide (t < P.types.size))) = true := by kernel_rfl
theorem k20 : ((c.ifacesOut == fn.resultTypes.toList.any (P.ifacesRec ·))) = true := by kernel_rfl
theorem k21 : ((c.loopsOut == fn.resultTypes.toList.any (P.loopsFrom ·))) = true := by kernel_rfl
theorem k22 : ((c.plainKeys == P.plainKeys)) = true := by kernel_rfl
theorem k23 : (c.shortTexts.isNone) = true := by kernel_rfl
theorem k24 : (P.stopsHeard) = true := by kernel_rfl
theorem k25 : (P.mayEnter) = true := by kernel_rfl
theorem k26 : ((c.lifted == P.liftsFinal)) = true := by kernel_rfl
theorem k27 : ((P.make == some c.make)) = true := by kernel_rfl
theorem k28 : ((c.kinds == (if c.domain.isEmpty then [] else fn.params.toList.map fun t => match P.underlying t with | some (.int k) => some k | _ => none))) = true := by kernel_rfl
theorem k29 : ((c.pinned == c.pinnedBy)) = true := by kernel_rfl
theorem k30 : ((c.veiled == (fn.params.toList ++ s.plain.varTypes P ++ fn.resultTypes.toList).any (P.veiledRec ·))) = true := by kernel_rfl
theorem k31 : (c.veiledFits P fn.params.toList (fn.params.toList ++ s.plain.varTypes P ++ fn.resultTypes.toList)) = true := by kernel_rfl
theorem and_t {a b : Bool} (h : a = true) (h' : b = true) : (a && b) = true := by rw [h, h']; rfl
theorem closed : joinedFacts Tryz.pinned.checked.prog 5 Tryz.f5 (Rows.OpenSpec.upto Rows.transportPruneSpec).bare Rows.transportPruneUptoRow = true := and_t (and_t (and_t (and_t (and_t (and_t (and_t (and_t (and_t (and_t (and_t (and_t (and_t (and_t (and_t (and_t (and_t (and_t (and_t (and_t (and_t (and_t (and_t (and_t (and_t (and_t (and_t (and_t (and_t (and_t (and_t k0 k1) k2) k3) k4) k5) k6) k7) k8) k9) k10) k11) k12) k13) k14) k15) k16) k17) k18) k19) k20) k21) k22) k23) k24) k25) k26) k27) k28) k29) k30) k31
theorem over (hlaw : ∀ (T : Types) (ρ : Rule) (c : Cond), T.ok → ρ.fine → kb c → Con P 5 [] [T.av, ρ.av, c.av] (.bool true) []) : Rows.transportPruneUptoRow.holds Tryz.pinned (Rows.OpenSpec.upto Rows.transportPruneSpec) :=
  OpenClaim.holds_of_cond 5 Tryz.f5 rfl rfl rfl rfl rfl rfl rfl ⟨rfl, rfl, rfl, rfl, rfl⟩ rfl rfl rfl rfl rfl (by kernel_rfl) Tryz.func5 closed
    (of_decide_eq_true (by kernel_rfl)) (by unfold Func.isWrapper; first | (rw [if_pos (by decide +kernel)]; kernel_rfl) | (rw [if_neg (by decide +kernel)]; exact ⟨rfl, rfl⟩))
    (fun os started H enc _ F => lifted hlaw os started H enc F)
end Go.Av.Z.TransportPrune

/- The example: names. -/
namespace Go.Av.Z
open Go.Proofs

def sA : ByteArray := ⟨#[65]⟩
def se : ByteArray := ⟨#[101]⟩
/-- A name of the example. -/
def Nm (s : ByteArray) : Prop := s = sA ∨ s = se
def byt (s : ByteArray) : Int := (s[0]?.getD 0).toNat
theorem xc279 (s : ByteArray) (hs : Nm s) : Con P 279 [] [.int .u8 (byt s)] (.bool true) [] := by
  rcases hs with rfl | rfl
  all_goals
    refine go Tryz.func279 (by rfl) rfl rfl rfl fun hl => ?_
    refine W0 ?_
    refine fin_frz TT ?_ rfl
    rfl
theorem xc281 (s : ByteArray) (hs : Nm s) : Con P 281 [] [.int .u8 (byt s)] (.bool true) [] := by
  refine go Tryz.func281 (by rfl) rfl rfl rfl fun hl => ?_
  refine W0 ?_
  refine ⟨_, _, xc279 s hs, ?_⟩
  refine W0 ?_
  refine fin_frz TT ?_ rfl
  rfl
theorem xc280 (s : ByteArray) (hs : Nm s) : Con P 280 [] [.str s, .fn 281 []] (.int .i64 1) [] := by
  have h := xc281 s hs
  rcases hs with rfl | rfl
  all_goals
    refine go Tryz.func280 (by rfl) rfl rfl rfl fun hl => ?_
    refine W0 ?_
    refine R0 ?_
    refine ⟨_, _, h, ?_⟩
    refine R0 ?_
    refine fin_frz TT ?_ rfl
    rfl
theorem xc258 (s : ByteArray) (hs : Nm s) : Con P 258 [] [.str s] (.tuple [.int .i64 1, .int .i64 1, .int .i64 0]) [] := by
  have h := xc279 s hs
  have h2 := xc280 s hs
  rcases hs with rfl | rfl
  all_goals
    refine go Tryz.func258 (by rfl) rfl rfl rfl fun hl => ?_
    refine W0 ?_
    refine R0 ?_
    refine ⟨_, _, h, ?_⟩
    refine R0 ?_
    refine ⟨_, _, h2, ?_⟩
    refine R0 ?_
    refine fin_frz TT ?_ rfl
    rfl
theorem nm_ne (s : ByteArray) (hs : Nm s) : ¬ (s.toList == (⟨#[]⟩ : ByteArray).toList) = true := by
  have h1 : s.size = 1 := by rcases hs with rfl | rfl <;> rfl
  have h2 : ∃ b, s.toList = [b] := by
    unfold ByteArray.toList
    rw [ByteArray.toList.loop, if_pos (by omega), ByteArray.toList.loop, if_neg (by omega)]
    exact ⟨_, rfl⟩
  have h3 : (⟨#[]⟩ : ByteArray).toList = [] := by
    unfold ByteArray.toList
    rw [ByteArray.toList.loop, if_neg (by decide)]; rfl
  obtain ⟨b, h2⟩ := h2
  rw [h2, h3]
  exact Bool.false_ne_true
theorem xc224 (s : ByteArray) (hs : Nm s) : Con P 224 [] [.agg [.int .i64 1, .str s, .int .i64 0]] (.tuple [.str s, .bool true]) [] := by
  have h := xc258 s hs
  have h2 := nm_ne s hs
  rcases hs with rfl | rfl
  all_goals
    refine go Tryz.func224 (by rfl) rfl rfl rfl fun hl => ?_
    refine W0 ?_
    refine R0 ?_
    refine ⟨fun h => absurd h h2, fun _ => ?_⟩
    refine R0 ?_
    refine ⟨_, _, h, ?_⟩
    refine R0 ?_
    refine fin_frz TT ?_ rfl
    rfl
theorem xc177 (s : ByteArray) (hs : Nm s) : Con P 177 [] [.str s] (.bool true) [] := by
  refine go Tryz.func177 (by rfl) rfl rfl rfl fun hl => ?_
  refine W0 ?_
  refine ⟨_, _, xc224 s hs, ?_⟩
  refine R0 ?_
  refine fin_frz TT ?_ rfl
  rfl

/-- The type graph of the example. -/
def T0 : Types := ⟨[⟨sA, -1, false, []⟩], [⟨se, 0, 0, 0, -1, 0, -1⟩]⟩
def T0.av : AV := .agg T0.cs
theorem xc179 : Con P 179 [] [T0.av, .int .i64 0] (.slice 4 []) [] := by
  refine go Tryz.func179 (by rfl) rfl rfl rfl fun hl => ?_
  refine W0 ?_
  refine R0 ?_
  refine fin_frz TT ?_ rfl
  rfl
def N0 : NodeT := ⟨sA, -1, false, []⟩
def E0 : EdgeT := ⟨se, 0, 0, 0, -1, 0, -1⟩
theorem xc123 : Con P 123 [] [T0.av, .int .i64 0] (.int .i64 0) [] := by
  refine go Tryz.func123 (by rfl) rfl rfl rfl fun hl => ?_
  refine W0 ?_
  refine R0 ?_
  refine ⟨_, _, xc177 sA (.inl rfl), ?_⟩
  refine R0 ?_
  refine ⟨_, _, con_frz rfl rfl rfl (c152a N0.el [] 178 (fun _ => false) (fun x hx => by cases hx)), ?_⟩
  refine R0 ?_
  refine ⟨_, _, xc179, ?_⟩
  refine R0 ?_
  refine fin_frz TT ?_ rfl
  rfl
theorem xc181 : Con P 181 [] [.int .i64 0, .fptr T0.cs] (.bool true) [] := by
  refine go Tryz.func181 (by rfl) rfl rfl rfl fun hl => ?_
  refine W0 ?_
  refine R0 ?_
  refine fin_frz TT ?_ rfl
  rfl
theorem xc184 : Con P 184 [] [.int .i64 0, .int .i64 (-1)] (.bool true) [] := by
  refine go Tryz.func184 (by rfl) rfl rfl rfl fun hl => ?_
  refine W0 ?_
  refine R0 ?_
  refine fin_frz TT ?_ rfl
  rfl
theorem xc124 : Con P 124 [] [T0.av, .int .i64 0] (.int .i64 0) [] := by
  refine go Tryz.func124 (by rfl) rfl rfl rfl fun hl => ?_
  refine W0 ?_
  refine R0 ?_
  refine ⟨_, _, xc177 se (.inr rfl), ?_⟩
  refine R0 ?_
  refine ⟨_, _, con_frz rfl rfl rfl (c182a E0.el [] 183 (fun _ => false) (fun x hx => by cases hx)), ?_⟩
  refine R0 ?_
  refine ⟨_, _, con_frz rfl rfl rfl xc181, ?_⟩
  refine R0 ?_
  refine ⟨_, _, xc181, ?_⟩
  refine R0 ?_
  refine ⟨_, _, xc184, ?_⟩
  refine R0 ?_
  refine ⟨_, _, xc184, ?_⟩
  refine R0 ?_
  refine fin_frz TT ?_ rfl
  rfl
theorem xc68 : Con P 68 [] [T0.av] (.tuple [.str ⟨#[]⟩, .int .i64 0]) [] := by
  refine go Tryz.func68 (by rfl) rfl rfl rfl fun hl => ?_
  refine W0 ?_
  refine R0 ?_
  refine ⟨_, _, xc123, ?_⟩
  refine R0 ?_
  refine ⟨_, _, xc124, ?_⟩
  refine R0 ?_
  refine fin_frz TT ?_ rfl
  rfl
theorem c153 : Con P 153 [] [.agg N0.el, .fptr [.int .i64 0]] (.bool false) [] := by
  refine go Tryz.func153 (by rfl) rfl rfl rfl fun hl => ?_
  refine W0 ?_
  refine R0 ?_
  refine fin_frz TT ?_ rfl
  rfl
theorem c92 : Con P 92 [] [T0.av, .int .i64 0] (.bool true) [] := by
  refine go Tryz.func92 (by rfl) rfl rfl rfl fun hl => ?_
  refine W0 ?_
  refine R0 ?_
  refine ⟨_, _, con_frz rfl rfl rfl (c152a [.int .i64 0] [N0] 153 (fun _ => false) (fun x hx => by
    rw [List.mem_singleton] at hx
    subst hx; exact c153)), ?_⟩
  refine R0 ?_
  refine fin_frz TT ?_ rfl
  rfl
theorem c203 : Con P 203 [] [.int .i64 0, .fptr T0.cs] (.bool false) [] := by
  refine go Tryz.func203 (by rfl) rfl rfl rfl fun hl => ?_
  refine W0 ?_
  refine R0 ?_
  refine fin_frz TT ?_ rfl
  rfl
end Go.Av.Z

/- The example: the type graph's words, on. -/
namespace Go.Av.Z
open Go.Proofs

theorem c157x : Con P 157 [] [.slice 1 (nums [0, 0]), .fn 203 [.fptr T0.cs]] (.int .i64 (-1)) [] := by
  refine go Tryz.func157 (by rfl) rfl rfl rfl fun hl => ?_
  refine W0 ?_
  refine R0 ?_
  refine ⟨_, _, c203, ?_⟩
  refine R0 ?_
  refine ⟨_, _, c203, ?_⟩
  refine R0 ?_
  refine fin_frz TT ?_ rfl
  rfl
theorem c99x : Con P 99 [] [.slice 1 (nums [0, 0]), .fn 203 [.fptr T0.cs]] (.bool false) [] := by
  refine go Tryz.func99 (by rfl) rfl rfl rfl fun hl => ?_
  refine W0 ?_
  refine R0 ?_
  refine ⟨_, _, c157x, ?_⟩
  refine R0 ?_
  refine fin_frz TT ?_ rfl
  rfl
theorem c155 : Con P 155 [] [T0.av, .slice 1 (nums [0, 0])] (.int .i64 0) [] := by
  refine go Tryz.func155 (by rfl) rfl rfl rfl fun hl => ?_
  refine W0 ?_
  refine R0 ?_
  refine ⟨_, _, xc68, ?_⟩
  refine R0 ?_
  refine ⟨_, _, con_frz rfl rfl rfl c99x, ?_⟩
  refine R0 ?_
  refine fin_frz TT ?_ rfl
  rfl
theorem c249x : Con P 249 [.row 3 1 (nums [0])] [.ref 0] (.tuple []) [.row 3 1 (nums [0])] := by
  refine go Tryz.func249 (by rfl) rfl rfl rfl fun hl => ?_
  refine W0 ?_
  refine R0 ?_
  exact le_of [0] rfl rfl rfl ⟨rfl, trivial⟩ ⟨rfl, trivial⟩
theorem c204 : Con P 204 [] [T0.av, .int .i64 0] (.slice 1 (nums [0])) [] := by
  refine go Tryz.func204 (by rfl) rfl rfl rfl fun hl => ?_
  refine W0 ?_
  refine R0 ?_
  refine ⟨_, _, c249x, ?_⟩
  refine R0 ?_
  refine fin_frz TT ?_ rfl
  rfl
theorem c156 : Con P 156 [] [T0.av, .int .i64 0, .int .i64 0] (.bool true) [] := by
  refine go Tryz.func156 (by rfl) rfl rfl rfl fun hl => ?_
  refine W0 ?_
  refine R0 ?_
  refine ⟨_, _, c204, ?_⟩
  refine R0 ?_
  refine ⟨_, _, c43 [0] 0, ?_⟩
  refine R0 ?_
  refine fin_frz TT ?_ rfl
  rfl
theorem c97 : Con P 97 [] [T0.av, .int .i64 0, .int .i64 0, .int .i64 0] (.bool true) [] := by
  refine go Tryz.func97 (by rfl) rfl rfl rfl fun hl => ?_
  refine W0 ?_
  refine R0 ?_
  refine ⟨_, _, con_frz rfl rfl rfl c155, ?_⟩
  refine R0 ?_
  refine ⟨_, _, c156, ?_⟩
  refine R0 ?_
  refine ⟨_, _, c156, ?_⟩
  refine R0 ?_
  refine fin_frz TT ?_ rfl
  rfl
def g1 : Graph := ⟨[0], []⟩
def g2 : Graph := ⟨[0, 0], []⟩
theorem c93a : Con P 93 [] [T0.av, g1.av] (.bool true) [] := by
  refine go Tryz.func93 (by rfl) rfl rfl rfl fun hl => ?_
  refine W0 ?_
  refine R0 ?_
  refine ⟨_, _, c92, ?_⟩
  refine R0 ?_
  refine ⟨_, _, con_frz rfl rfl rfl (c102b T0.cs g1.cs [] 154 (fun _ => false) (fun x hx => by cases hx)), ?_⟩
  refine R0 ?_
  refine fin_frz TT ?_ rfl
  rfl
theorem c93b : Con P 93 [] [T0.av, g2.av] (.bool true) [] := by
  refine go Tryz.func93 (by rfl) rfl rfl rfl fun hl => ?_
  refine W0 ?_
  refine R0 ?_
  refine ⟨_, _, c92, ?_⟩
  refine R0 ?_
  refine ⟨_, _, c92, ?_⟩
  refine R0 ?_
  refine ⟨_, _, con_frz rfl rfl rfl (c102b T0.cs g2.cs [] 154 (fun _ => false) (fun x hx => by cases hx)), ?_⟩
  refine R0 ?_
  refine fin_frz TT ?_ rfl
  rfl
def p1 : Pat := ⟨g1, [], 0, []⟩
def p2 : Pat := ⟨g2, [], 0, []⟩
def m0 : Mor := ⟨[0], []⟩
/-- The rule of the example: it deletes a node. -/
def D0 : Rule := ⟨⟨#[]⟩, p2, p1, m0, m0, true, .zero⟩
theorem D0_fine : D0.fine := by unfold Rule.fine; decide
theorem D0_strc : strc D0 = 0 := by decide
theorem c41 : Con P 41 [] [T0.av, D0.av] (.int .i64 0) [] := by
  refine go Tryz.func41 (by rfl) rfl rfl rfl fun hl => ?_
  refine W0 ?_
  refine R0 ?_
  refine ⟨_, _, xc68, ?_⟩
  refine R0 ?_
  refine ⟨_, _, c62 D0 D0_fine, ?_⟩
  rw [D0_strc]
  refine R0 ?_
  refine ⟨_, _, c92, ?_⟩
  refine R0 ?_
  refine ⟨_, _, c93b, ?_⟩
  refine R0 ?_
  refine ⟨_, _, c93a, ?_⟩
  refine R0 ?_
  refine fin_frz TT ?_ rfl
  rfl
end Go.Av.Z

/- The example: what can be applied. -/
namespace Go.Av.Z
open Go.Proofs

theorem c94a : Con P 94 [] [.int .i64 2] (.slice 1 (nums [0, 1])) [] := by
  refine go Tryz.func94 (by rfl) rfl rfl rfl fun hl => ?_
  refine W0 ?_
  refine R0 ?_
  refine fin_frz TT ?_ rfl
  rfl
theorem c94b : Con P 94 [] [.int .i64 0] (.slice 1 (nums [])) [] := by
  refine go Tryz.func94 (by rfl) rfl rfl rfl fun hl => ?_
  refine W0 ?_
  refine R0 ?_
  refine fin_frz TT ?_ rfl
  rfl
theorem g2_val : gval g2 = 0 := by decide
def i2 : Mor := ⟨[0, 1], []⟩
theorem c42 : Con P 42 [] [g2.av] (.tuple [i2.av, .int .i64 0]) [] := by
  refine go Tryz.func42 (by rfl) rfl rfl rfl fun hl => ?_
  refine W0 ?_
  refine R0 ?_
  refine ⟨_, _, c45 g2, ?_⟩
  rw [g2_val]
  refine R0 ?_
  refine ⟨_, _, c94a, ?_⟩
  refine R0 ?_
  refine ⟨_, _, c94b, ?_⟩
  refine R0 ?_
  refine fin_frz TT ?_ rfl
  rfl

/-- The edge that is added: a node's, ahead or behind. -/
def eAt (out : Bool) (i : Int) : Edge := bif out then ⟨0, 1, i⟩ else ⟨0, i, 1⟩
def gAt (out : Bool) (i : Int) (ns : List Int) : Graph := ⟨ns, [eAt out i]⟩
def grs (l : List Graph) : List (List AV) := l.map Graph.cs
theorem c96 (out : Bool) (i : Int) (ns : List Int) (h : (out, i, ns) ∈ [(true, 0, [0, 0]), (true, 1, [0, 0]), (true, 2, [0, 0, 0]), (false, 0, [0, 0]), (false, 2, [0, 0, 0])]) (gs : List (List AV)) (hg : gs.length ≤ 100) :
    Con P 96 [.row 3 1 (nums ns), .box 3 [.int .i64 0], .box 3 [.int .i64 1], .box 4 [.bool out], .box 25 T0.cs, .box 100 [.ref 7], .box 29 g2.cs, .row 29 2 gs] [.int .i64 i, .ref 0, .bptr 1 0, .bptr 2 0, .bptr 3 0, .bptr 4 0, .bptr 5 0, .bptr 6 0] (.tuple [])
      [.frz (.slice 1 (nums ns)), .box 3 [.int .i64 0], .box 3 [.int .i64 1], .box 4 [.bool out], .box 25 T0.cs, .box 100 [.ref 8], .box 29 g2.cs, .dead, .row 29 2 (gs ++ [(gAt out i ns).cs])] := by
  simp only [List.mem_cons, Prod.mk.injEq, List.not_mem_nil, or_false] at h
  rcases h with ⟨rfl, rfl, rfl⟩ | ⟨rfl, rfl, rfl⟩ | ⟨rfl, rfl, rfl⟩ | ⟨rfl, rfl, rfl⟩ | ⟨rfl, rfl, rfl⟩
  all_goals
    refine go Tryz.func96 (by rfl) rfl rfl rfl fun hl => ?_
    refine W0 ?_
    refine R0 ?_
    try (refine ⟨by kernel_rfl, ?_⟩; refine R0 ?_)
    refine ⟨_, _, c97, ?_⟩
    refine R0 ?_
    refine ⟨by kernel_rfl, ?_⟩
    refine R0 ?_
    refine ⟨_, _, c98 [] (by decide), ?_⟩
    refine R0 ?_
    refine ⟨by show (gs.length + 1) * 48 ≤ _; omega, ?_⟩
    refine R0 ?_
    refine ⟨by kernel_rfl, ?_⟩
    refine R0 ?_
    exact le_of [0, 1, 2, 3, 4, 5, 6, 7, 15] rfl rfl rfl ⟨rfl, trivial⟩ ⟨rfl, rfl, rfl, rfl, rfl, rfl, rfl, rfl, rfl, trivial⟩
end Go.Av.Z

/- The example: the larger graphs. -/
namespace Go.Av.Z
open Go.Proofs

def Gt : List Graph := [gAt true 0 [0, 0], gAt true 1 [0, 0], gAt true 2 [0, 0, 0]]
def Gf : List Graph := [gAt false 0 [0, 0], gAt false 2 [0, 0, 0]]
theorem c44t : Con P 44 [] [T0.av, g2.av, .int .i64 1, .int .i64 0, .bool true] (.ref 0) [.row 29 2 (grs Gt)] := by
  refine go Tryz.func44 (by rfl) rfl rfl rfl fun hl => ?_
  refine W0 ?_
  refine R0 ?_
  refine ⟨_, _, c46 [0, 0] (by decide), ?_⟩
  refine R0 ?_
  refine ⟨_, _, c96 true 0 [0, 0] (by simp) [] (by decide), ?_⟩
  refine R0 ?_
  refine ⟨_, _, c46 [0, 0] (by decide), ?_⟩
  refine R0 ?_
  refine ⟨_, _, c96 true 1 [0, 0] (by simp) _ (by decide), ?_⟩
  refine R0 ?_
  refine ⟨_, _, c92, ?_⟩
  refine R0 ?_
  refine ⟨_, _, c46 [0, 0] (by decide), ?_⟩
  refine R0 ?_
  refine ⟨_, _, c96 true 2 [0, 0, 0] (by simp) _ (by decide), ?_⟩
  refine R0 ?_
  exact le_of [21] rfl rfl rfl ⟨rfl, trivial⟩ ⟨rfl, trivial⟩
theorem c44f : Con P 44 [] [T0.av, g2.av, .int .i64 1, .int .i64 0, .bool false] (.ref 0) [.row 29 2 (grs Gf)] := by
  refine go Tryz.func44 (by rfl) rfl rfl rfl fun hl => ?_
  refine W0 ?_
  refine R0 ?_
  refine ⟨_, _, c46 [0, 0] (by decide), ?_⟩
  refine R0 ?_
  refine ⟨_, _, c96 false 0 [0, 0] (by simp) [] (by decide), ?_⟩
  refine R0 ?_
  refine ⟨_, _, c92, ?_⟩
  refine R0 ?_
  refine ⟨_, _, c46 [0, 0] (by decide), ?_⟩
  refine R0 ?_
  refine ⟨_, _, c96 false 2 [0, 0, 0] (by simp) _ (by decide), ?_⟩
  refine R0 ?_
  first
  | exact le_of [17] rfl rfl rfl ⟨rfl, trivial⟩ ⟨rfl, trivial⟩
  | exact le_of [16] rfl rfl rfl ⟨rfl, trivial⟩ ⟨rfl, trivial⟩
  | exact le_of [15] rfl rfl rfl ⟨rfl, trivial⟩ ⟨rfl, trivial⟩
  | exact le_of [14] rfl rfl rfl ⟨rfl, trivial⟩ ⟨rfl, trivial⟩
  | exact le_of [18] rfl rfl rfl ⟨rfl, trivial⟩ ⟨rfl, trivial⟩
  | exact le_of [19] rfl rfl rfl ⟨rfl, trivial⟩ ⟨rfl, trivial⟩
end Go.Av.Z

/- The example: Applicable. -/
namespace Go.Av.Z
open Go.Proofs

theorem con_args {f : FuncId} {M M' : List Blk} {args args' : List AV} {r : AV} (e : args = args') (c : Con P f M args' r M') : Con P f M args r M' := e ▸ c
theorem gv1 : gval (gAt true 0 [0, 0]) = 0 := by decide
theorem gv2 : gval (gAt true 1 [0, 0]) = 0 := by decide
theorem gv3 : gval (gAt true 2 [0, 0, 0]) = 0 := by decide
theorem gv4 : gval (gAt false 0 [0, 0]) = 0 := by decide
theorem gv5 : gval (gAt false 2 [0, 0, 0]) = 0 := by decide
/-- 'Not: there is the graph'. -/
def kid (g : Graph) : Cond := .mk 2 [.mk 5 [cyes] i2 ⟨g, [], 0, []⟩] ⟨[], []⟩ ⟨⟨[], []⟩, [], 0, []⟩
def C5 : Cond := .mk 3 ((Gt ++ Gf).map kid) ⟨[], []⟩ ⟨⟨[], []⟩, [], 0, []⟩
theorem C5_val : cval g2 C5 = 0 := by decide
theorem c14 : Con P 14 [] [T0.av, D0.av] (.tuple [C5.av, .int .i64 0]) [] := by
  refine go Tryz.func14 (by rfl) rfl rfl rfl fun hl => ?_
  refine W0 ?_
  refine R0 ?_
  refine ⟨_, _, c41, ?_⟩
  refine R0 ?_
  refine ⟨_, _, c42, ?_⟩
  refine R0 ?_
  refine ⟨_, _, c43 [0] 0, ?_⟩
  refine R0 ?_
  refine ⟨_, _, c43 [0] 1, ?_⟩
  refine R0 ?_
  refine ⟨_, _, c44t, ?_⟩
  refine R0 ?_
  refine ⟨_, _, c44f, ?_⟩
  refine R0 ?_
  refine ⟨_, _, c45 (gAt true 0 [0, 0]), ?_⟩
  refine R0 ?_
  refine ⟨_, _, c46 [0, 1] (by decide), ?_⟩
  refine R0 ?_
  refine ⟨_, _, c46 [] (by decide), ?_⟩
  refine R0 ?_
  refine ⟨_, _, c47, ?_⟩
  refine R0 ?_
  refine ⟨_, _, c45 (gAt true 1 [0, 0]), ?_⟩
  refine R0 ?_
  refine ⟨_, _, c46 [0, 1] (by decide), ?_⟩
  refine R0 ?_
  refine ⟨_, _, c46 [] (by decide), ?_⟩
  refine R0 ?_
  refine ⟨_, _, c47, ?_⟩
  refine R0 ?_
  refine ⟨_, _, c45 (gAt true 2 [0, 0, 0]), ?_⟩
  refine R0 ?_
  refine ⟨_, _, c46 [0, 1] (by decide), ?_⟩
  refine R0 ?_
  refine ⟨_, _, c46 [] (by decide), ?_⟩
  refine R0 ?_
  refine ⟨_, _, c47, ?_⟩
  refine R0 ?_
  refine ⟨_, _, c45 (gAt false 0 [0, 0]), ?_⟩
  refine R0 ?_
  refine ⟨_, _, c46 [0, 1] (by decide), ?_⟩
  refine R0 ?_
  refine ⟨_, _, c46 [] (by decide), ?_⟩
  refine R0 ?_
  refine ⟨_, _, c47, ?_⟩
  refine R0 ?_
  refine ⟨_, _, c45 (gAt false 2 [0, 0, 0]), ?_⟩
  refine R0 ?_
  refine ⟨_, _, c46 [0, 1] (by decide), ?_⟩
  refine R0 ?_
  refine ⟨_, _, c46 [] (by decide), ?_⟩
  refine R0 ?_
  refine ⟨_, _, c47, ?_⟩
  refine R0 ?_
  refine ⟨.int .i64 0, _, con_frz rfl rfl rfl (con_args (args' := [g2.av, C5.av]) (by kernel_rfl) (C5_val ▸ c48 g2 C5)), ?_⟩
  refine R0 ?_
  refine fin_frz TT ?_ rfl
  kernel_rfl
end Go.Av.Z

/- The example. -/
namespace Go.Av.Z
open Go.Proofs

theorem c31a : Con P 31 [] [.int .i64 2] g2.av [] := by
  refine go Tryz.func31 (by rfl) rfl rfl rfl fun hl => ?_
  refine W0 ?_
  refine R0 ?_
  refine fin_frz TT ?_ rfl
  rfl
theorem c31b : Con P 31 [] [.int .i64 1] g1.av [] := by
  refine go Tryz.func31 (by rfl) rfl rfl rfl fun hl => ?_
  refine W0 ?_
  refine R0 ?_
  refine fin_frz TT ?_ rfl
  rfl
theorem c32 : Con P 32 [] [] D0.av [] := by
  refine go Tryz.func32 (by rfl) rfl rfl rfl fun hl => ?_
  refine W0 ?_
  refine R0 ?_
  refine ⟨_, _, c31a, ?_⟩
  refine R0 ?_
  refine ⟨_, _, c31b, ?_⟩
  refine R0 ?_
  refine fin_frz TT ?_ rfl
  kernel_rfl
def C0 : Cond := .mk 5 [cyes] m0 p2
theorem C0_kb : kb C0 := (kb_iff _).2 ⟨by decide, fun x hx => by
  have : x = cyes := by simpa [C0, Cond.kids] using hx
  subst this
  exact (kb_iff _).2 ⟨by decide, fun x hx => by simp [cyes, Cond.kids] at hx⟩⟩
theorem kpt0 : kpt m0 = m0 := by simp [kpt, srt, m0]
def z0 : Mor := cpart g1 g2 m0 m0
def s0 : Span := ⟨ext g2 m0, g2, ext g2 z0, m0, gmor m0 m0 z0⟩
theorem s0_eq : sOf g2 g1 g2 m0 m0 m0 = s0 := by unfold sOf zOf; rw [kpt0]; rfl
theorem s0_err : poErr s0 = 0 := by decide
theorem trn_yes (y x : Graph) (k i : Mor) : trn y x k i cyes = (cyes, 0) := by
  unfold cyes
  rw [trn, if_neg (by decide), trns, if_neg (by decide)]
def L0 : Cond := .mk 5 [cyes] (poL s0) ⟨poG s0, [], 0, []⟩
theorem trn0 : trn g2 g1 m0 m0 C0 = (L0, 0) := by
  have h1 : ¬ (cerr g1 g2 m0 m0 ≠ 0) := by decide
  unfold C0
  rw [trn, if_pos (by decide), kpt0]
  show (if cerr g1 g2 m0 m0 ≠ 0 then _ else if poErr (sOf g2 g1 g2 m0 m0 m0) ≠ 0 then _ else trnK (poL (sOf g2 g1 g2 m0 m0 m0)) (poG (sOf g2 g1 g2 m0 m0 m0)) _ _ _ _) = _
  rw [if_neg h1, s0_eq, if_neg (by rw [s0_err]; decide), trnK, trn_yes, if_neg (by decide)]
  rfl
theorem L0_lrg : lrg L0 = 0 := by decide
theorem L0_nodes : L0.pat.graph.nodes.length = 3 := by decide
theorem lft0 : lft D0 C0 = (L0, 0) := by
  have h2 : cval g1 C0 = 0 := by decide
  rw [lft, if_neg (by rw [D0_strc]; decide)]
  show mvd g2 g1 m0 m0 C0 = _
  rw [mvd, h2, trn0]
  show (if (0 : Int) ≠ 0 then _ else if (0 : Int) ≠ 0 then _ else if lrg L0 ≠ 0 then _ else _) = _
  rw [L0_lrg]
  rfl
theorem c10 : Con P 10 [] [] (.bool true) [] := by
  have h7 := c25 D0 C0 D0_fine C0_kb
  rw [lft0] at h7
  refine go Tryz.func10 (by rfl) rfl rfl rfl fun hl => ?_
  refine W0 ?_
  refine R0 ?_
  refine ⟨_, _, c31a, ?_⟩
  refine R0 ?_
  refine ⟨_, _, c32, ?_⟩
  refine R0 ?_
  refine ⟨.tuple [L0.av, .int .i64 0], _, con_frz rfl rfl rfl (con_args (args' := [D0.av, C0.av]) (by kernel_rfl) h7), ?_⟩
  refine R0 ?_
  refine ⟨_, _, c32, ?_⟩
  refine R0 ?_
  refine ⟨.tuple [C5.av, .int .i64 0], _, con_frz rfl rfl rfl (con_args (args' := [T0.av, D0.av]) (by kernel_rfl) c14), ?_⟩
  refine R0 ?_
  refine fin_frz TT ?_ rfl
  kernel_rfl
end Go.Av.Z

/- The statement: for all types, rules and conditions of bulk at most 1048576 the law of Prune answers true, and its arguments read behind the call as before. -/
namespace Go.Proofs.YtaabmnpedhggoaaGreat
theorem transport_prune : Rows.TransportPruneUptoSaid := Go.Av.Z.TransportPrune.over (Go.Av.Z.tLawPrune Go.Av.Z.c10)
end Go.Proofs.YtaabmnpedhggoaaGreat
