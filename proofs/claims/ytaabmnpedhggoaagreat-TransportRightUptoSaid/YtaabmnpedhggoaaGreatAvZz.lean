/- The statement TransportRightUpto is proved at the end of the last of these texts: for every rule and condition of bulk at most 1048576 the law answers true, and its arguments read as before. Part 4 of 4 of a proof: the logic Av, contracts of functions. -/
import Derived.Test.YtaabmnpedhggoaaGreatAvC
import Derived.Test.YtaabmnpedhggoaaGreatRows
import Derived.WalkKit
import Derived.ProofKit
import Derived.OpenShut
import Derived.JoinedCond
set_option linter.unusedVariables false
set_option maxRecDepth 100000
/- The plain law of one step of the transport. -/
namespace Go.Av.Z

/-- A span of a structural rule: left and right graph, what is kept, where it goes. -/
structure Inv (l r : Graph) (k i : Mor) : Prop where
  kp : pval l k = 0
  im : mval (ext l k) r i = 0
  n1 : i.nodes.Nodup
  n2 : i.edges.Nodup
def gmor (i m z : Mor) : Mor := ⟨(i.nodes.map (at0 m.nodes)).map (plc z.nodes), (i.edges.map (at0 m.edges)).map (plc z.edges)⟩
/-- What a step of the transport wants. -/
structure Stp (l r x : Graph) (k i m : Mor) : Prop where
  inv : Inv l r k i
  mm : mval r x m = 0
  m1 : m.nodes.Nodup
  m2 : m.edges.Nodup
def zOf (r x : Graph) (i m : Mor) : Mor := cpart r x (kpt i) m
def sOf (l r x : Graph) (k i m : Mor) : Span := ⟨ext l k, l, ext x (zOf r x i m), k, gmor i m (zOf r x i m)⟩
section
variable {l r x : Graph} {k i m : Mor}
theorem Stp.cmp (h : Stp l r x k i m) : Cmp r x (kpt i) m := ⟨h.mm, h.m1, h.m2, pval_img h.inv.im h.inv.n1 h.inv.n2⟩
end
/-- An injective morphism from a part, turned around. -/
theorem Inv.turn {x y : Graph} {z q : Mor} (hz : pval x z = 0) (hq : mval (ext x z) y q = 0) (q1 : q.nodes.Nodup) (q2 : q.edges.Nodup) : Inv y x (kpt q) (kin q z) := by
  obtain ⟨zn, ze⟩ := pval_nd hz
  have hx := (pval_ok hz).1
  have bz1 := (aval_ok (pval_ok hz).2.1).1
  have bz2 := (aval_ok (pval_ok hz).2.2.1).1
  obtain ⟨e1, e2⟩ := ext_len x z
  have lq := mval_ok hq
  have hpv := pval_img hq q1 q2
  have ly := ext_len y (kpt q)
  have kl1 : (kpt q).nodes.length = q.nodes.length := srt_len _
  have kl2 : (kpt q).edges.length = q.edges.length := srt_len _
  have il1 : (kin q z).nodes.length = q.nodes.length := by simp [kin, srt_len]
  have il2 : (kin q z).edges.length = q.edges.length := by simp [kin, srt_len]
  have gn : ∀ j, j < q.nodes.length → ∃ t, t < q.nodes.length ∧ gt (kpt q).nodes j = gt q.nodes t ∧ gt (kin q z).nodes j = gt z.nodes t ∧ plc q.nodes (gt (kpt q).nodes j) = t := by
    intro j hj
    have hm : gt (kpt q).nodes j ∈ q.nodes := srt_mem.1 (gt_mem (by omega : j < (kpt q).nodes.length))
    obtain ⟨p1, p2, p3⟩ := plc_mem q1 hm
    refine ⟨(plc q.nodes (gt (kpt q).nodes j)).toNat, by omega, p3.symm, ?_, by omega⟩
    show gt ((srt q.nodes).map (ledTo q.nodes z.nodes)) j = _
    rw [gt_map (by rw [srt_len]; exact hj)]; rfl
  have ge : ∀ j, j < q.edges.length → ∃ t, t < q.edges.length ∧ gt (kpt q).edges j = gt q.edges t ∧ gt (kin q z).edges j = gt z.edges t ∧ plc q.edges (gt (kpt q).edges j) = t := by
    intro j hj
    have hm : gt (kpt q).edges j ∈ q.edges := srt_mem.1 (gt_mem (by omega : j < (kpt q).edges.length))
    obtain ⟨p1, p2, p3⟩ := plc_mem q2 hm
    refine ⟨(plc q.edges (gt (kpt q).edges j)).toNat, by omega, p3.symm, ?_, by omega⟩
    show gt ((srt q.edges).map (ledTo q.edges z.edges)) j = _
    rw [gt_map (by rw [srt_len]; exact hj)]; rfl
  -- where the node q t of y goes
  have lead : ∀ t : Nat, t < q.nodes.length → at0 (kin q z).nodes (plc (kpt q).nodes (gt q.nodes t)) = gt z.nodes t := by
    intro t ht
    have hm : gt q.nodes t ∈ (kpt q).nodes := srt_mem.2 (gt_mem ht)
    obtain ⟨p1, p2, p3⟩ := plc_mem (pval_nd hpv).1 hm
    obtain ⟨t', ht', a1, a2, a3⟩ := gn (plc (kpt q).nodes (gt q.nodes t)).toNat (by omega)
    rw [gt_at0, a2]
    rw [p3] at a1
    rw [gt_inj q1 ht ht' a1]
  refine ⟨hpv, mval_mk (gval_ext hpv) hx (by omega) (by omega) ?_ ?_, ?_, ?_⟩
  · intro j hj
    obtain ⟨t, ht, a1, a2, a3⟩ := gn j (by omega)
    have hb := bz1 _ (gt_mem (by omega : t < z.nodes.length))
    rw [a2]
    refine ⟨hb.1, hb.2, ?_⟩
    rw [ext_node (by omega), a1, mval_nt hq (by omega), ext_node (by omega)]
  · intro j hj
    obtain ⟨t, ht, a1, a2, a3⟩ := ge j (by omega)
    have hb := bz2 _ (gt_mem (by omega : t < z.edges.length))
    have te := mval_et hq (j := t) (by omega)
    rw [ext_edge (by omega)] at te
    obtain ⟨m1, m2⟩ := pval_edge hz _ (gt_mem (by omega : t < z.edges.length))
    obtain ⟨s1, s2, s3⟩ := plc_mem zn m1
    obtain ⟨d1, d2, d3⟩ := plc_mem zn m2
    rw [ext_edge (by omega), a2, a1]
    simp only [extE] at te ⊢
    refine ⟨hb.1, hb.2, te.1.symm, ?_, ?_⟩
    · rw [← te.2.1, gt_at0 q.nodes, lead _ (by omega), s3]
    · rw [← te.2.2, gt_at0 q.nodes, lead _ (by omega), d3]
  · refine nodup_gt fun a b ha hb e => ?_
    obtain ⟨t, ht, a1, a2, a3⟩ := gn a (by omega)
    obtain ⟨t', ht', b1, b2, b3⟩ := gn b (by omega)
    rw [a2, b2] at e
    have := gt_inj zn (by omega) (by omega) e
    subst this
    exact gt_inj (pval_nd hpv).1 (by omega) (by omega) (by rw [a1, b1])
  · refine nodup_gt fun a b ha hb e => ?_
    obtain ⟨t, ht, a1, a2, a3⟩ := ge a (by omega)
    obtain ⟨t', ht', b1, b2, b3⟩ := ge b (by omega)
    rw [a2, b2] at e
    have := gt_inj ze (by omega) (by omega) e
    subst this
    exact gt_inj (pval_nd hpv).2 (by omega) (by omega) (by rw [a1, b1])
section
variable {l r x : Graph} {k i m : Mor}
theorem Stp.z (h : Stp l r x k i m) (he : cerr r x (kpt i) m = 0) : pval x (zOf r x i m) = 0 := h.cmp.z he
theorem Stp.vn (h : Stp l r x k i m) (he : cerr r x (kpt i) m = 0) {j : Nat} (hj : j < i.nodes.length) : gt m.nodes (gt i.nodes j).toNat ∈ (zOf r x i m).nodes := by
  have hb := mval_node h.inv.im _ (gt_mem hj)
  exact h.cmp.kn he (by omega) (by rw [Int.toNat_of_nonneg hb.1]; exact srt_mem.2 (gt_mem hj))
theorem Stp.ve (h : Stp l r x k i m) (he : cerr r x (kpt i) m = 0) {j : Nat} (hj : j < i.edges.length) : gt m.edges (gt i.edges j).toNat ∈ (zOf r x i m).edges := by
  have hb := mval_edge h.inv.im _ (gt_mem hj)
  exact h.cmp.ke he (by omega) (by rw [Int.toNat_of_nonneg hb.1]; exact srt_mem.2 (gt_mem hj))
theorem Stp.gn (h : Stp l r x k i m) (he : cerr r x (kpt i) m = 0) {j : Nat} (hj : j < i.nodes.length) : gt (gmor i m (zOf r x i m)).nodes j = plc (zOf r x i m).nodes (gt m.nodes (gt i.nodes j).toNat) := by
  unfold gmor
  simp only
  rw [gt_map (by rw [List.length_map]; exact hj), gt_map hj]; rfl
theorem Stp.ge (h : Stp l r x k i m) (he : cerr r x (kpt i) m = 0) {j : Nat} (hj : j < i.edges.length) : gt (gmor i m (zOf r x i m)).edges j = plc (zOf r x i m).edges (gt m.edges (gt i.edges j).toNat) := by
  unfold gmor
  simp only
  rw [gt_map (by rw [List.length_map]; exact hj), gt_map hj]; rfl
theorem Stp.gval' (h : Stp l r x k i m) (he : cerr r x (kpt i) m = 0) : mval (ext l k) (ext x (zOf r x i m)) (gmor i m (zOf r x i m)) = 0 := by
  have hz := h.z he
  obtain ⟨zn, ze⟩ := pval_nd hz
  obtain ⟨h1, h2, l1, l2, _⟩ := mval_ok h.inv.im
  have lm := mval_ok h.mm
  obtain ⟨e1, e2⟩ := ext_len x (zOf r x i m)
  refine mval_mk h1 (gval_ext hz) (by simp [gmor]; exact l1) (by simp [gmor]; exact l2) ?_ ?_
  · intro j hj
    have hb := mval_node h.inv.im _ (gt_mem (by omega : j < i.nodes.length))
    obtain ⟨p1, p2, p3⟩ := plc_mem zn (h.vn he (j := j) (by omega))
    rw [h.gn he (by omega)]
    refine ⟨p1, by omega, ?_⟩
    rw [ext_node (by omega), p3, mval_nt h.mm (by omega), mval_nt h.inv.im hj]
  · intro j hj
    have hb := mval_edge h.inv.im _ (gt_mem (by omega : j < i.edges.length))
    obtain ⟨p1, p2, p3⟩ := plc_mem ze (h.ve he (j := j) (by omega))
    have hv := gval_edges h1 _ (atE_mem (l := (ext l k).edges) (n := (j : Nat)) (by omega) (by omega))
    have t1 := mval_et h.inv.im hj
    have t2 := mval_et h.mm (j := (gt i.edges j).toNat) (by omega)
    rw [Int.toNat_of_nonneg hb.1] at t2
    rw [h.ge he (by omega)]
    refine ⟨p1, by omega, ?_⟩
    have e3 : atE (ext x (zOf r x i m)).edges (plc (zOf r x i m).edges (gt m.edges (gt i.edges j).toNat)) = extE x (zOf r x i m) (gt m.edges (gt i.edges j).toNat) := by
      have := ext_edge (g := x) (p := zOf r x i m) (j := (plc (zOf r x i m).edges (gt m.edges (gt i.edges j).toNat)).toNat) (by omega)
      rw [Int.toNat_of_nonneg p1] at this
      rw [this, p3]
    rw [e3]
    simp only [extE]
    refine ⟨by rw [t1.1, t2.1], ?_, ?_⟩
    · rw [gt_at0, h.gn he (by omega), ← t2.2.1, ← t1.2.1]; rfl
    · rw [gt_at0, h.gn he (by omega), ← t2.2.2, ← t1.2.2]; rfl
theorem Stp.gnd (h : Stp l r x k i m) (he : cerr r x (kpt i) m = 0) : (gmor i m (zOf r x i m)).nodes.Nodup ∧ (gmor i m (zOf r x i m)).edges.Nodup := by
  have hz := h.z he
  obtain ⟨zn, ze⟩ := pval_nd hz
  have lm := mval_ok h.mm
  have g1 : (gmor i m (zOf r x i m)).nodes.length = i.nodes.length := by simp [gmor]
  have g2 : (gmor i m (zOf r x i m)).edges.length = i.edges.length := by simp [gmor]
  constructor
  · refine nodup_gt fun a b ha hb e => ?_
    rw [h.gn he (by omega), h.gn he (by omega)] at e
    obtain ⟨p1, p2, p3⟩ := plc_mem zn (h.vn he (j := a) (by omega))
    obtain ⟨q1, q2, q3⟩ := plc_mem zn (h.vn he (j := b) (by omega))
    rw [e, q3] at p3
    have b1 := mval_node h.inv.im _ (gt_mem (by omega : a < i.nodes.length))
    have b2 := mval_node h.inv.im _ (gt_mem (by omega : b < i.nodes.length))
    have := gt_inj h.m1 (by omega) (by omega) p3
    exact gt_inj h.inv.n1 (by omega) (by omega) (by omega)
  · refine nodup_gt fun a b ha hb e => ?_
    rw [h.ge he (by omega), h.ge he (by omega)] at e
    obtain ⟨p1, p2, p3⟩ := plc_mem ze (h.ve he (j := a) (by omega))
    obtain ⟨q1, q2, q3⟩ := plc_mem ze (h.ve he (j := b) (by omega))
    rw [e, q3] at p3
    have b1 := mval_edge h.inv.im _ (gt_mem (by omega : a < i.edges.length))
    have b2 := mval_edge h.inv.im _ (gt_mem (by omega : b < i.edges.length))
    have := gt_inj h.m2 (by omega) (by omega) p3
    exact gt_inj h.inv.n2 (by omega) (by omega) (by omega)
theorem Stp.spn (h : Stp l r x k i m) (he : cerr r x (kpt i) m = 0) : Z.spn (sOf l r x k i m) = 0 := by
  unfold Z.spn sOf
  simp only
  rw [if_neg (by simp [mval_incl h.inv.kp]), h.gval' he]
theorem Stp.po (h : Stp l r x k i m) (he : cerr r x (kpt i) m = 0) (hu : uerr l (ext x (zOf r x i m)) = 0) : PoInj (sOf l r x k i m) :=
  ⟨⟨mval_incl h.inv.kp, h.gval' he, hu⟩, (pval_nd h.inv.kp).1, (pval_nd h.inv.kp).2, (h.gnd he).1, (h.gnd he).2⟩
/-- The span of what lies inside. -/
theorem Stp.next (h : Stp l r x k i m) (he : cerr r x (kpt i) m = 0) (hu : uerr l (ext x (zOf r x i m)) = 0) : Inv (poG (sOf l r x k i m)) x (kpt (poR (sOf l r x k i m))) (kin (poR (sOf l r x k i m)) (zOf r x i m)) := by
  have hp := h.po he hu
  obtain ⟨q1, q2⟩ := hp.right
  exact Inv.turn (h.z he) hp.ok.right q1 q2
end
end Go.Av.Z

/- Transport to the left. -/
set_option maxHeartbeats 4000000
namespace Go.Av.Z
open Go.Proofs

mutual
/-- A condition over the right graph, transported to the left. -/
def trn (l r : Graph) (k i : Mor) : Cond → Cond × Int
  | .mk kind kids m p =>
    if (kind == 5) = true then
      (if cerr r p.graph (kpt i) m ≠ 0 then (cno, 0)
      else if poErr (sOf l r p.graph k i m) ≠ 0 then (.zero, poErr (sOf l r p.graph k i m))
      else trnK (poL (sOf l r p.graph k i m)) (poG (sOf l r p.graph k i m)) p.graph (kpt (poR (sOf l r p.graph k i m))) (kin (poR (sOf l r p.graph k i m)) (zOf r p.graph i m)) kids)
    else (if (trns l r k i kids).2 ≠ 0 then (.zero, (trns l r k i kids).2) else (.mk kind (trns l r k i kids).1 ⟨[], []⟩ ⟨⟨[], []⟩, [], 0, []⟩, 0))
def trns (l r : Graph) (k i : Mor) : List Cond → List Cond × Int
  | [] => ([], 0)
  | c :: rest => if (trn l r k i c).2 ≠ 0 then ([], (trn l r k i c).2) else ((trn l r k i c).1 :: (trns l r k i rest).1, (trns l r k i rest).2)
def trnK (p : Mor) (y x : Graph) (k i : Mor) : List Cond → Cond × Int
  | [] => (.zero, 0)
  | c :: _ => if (trn y x k i c).2 ≠ 0 then (.zero, (trn y x k i c).2) else (.mk 5 [(trn y x k i c).1] p ⟨y, [], 0, []⟩, 0)
end
theorem trns_errs (l r : Graph) (k i : Mor) : ∀ (cs : List Cond) (n : Nat), (trns l r k i cs).2 = errs (fun _ x => (trn l r k i x).2) n cs ∧ ((trns l r k i cs).2 = 0 → (trns l r k i cs).1 = cs.map fun x => (trn l r k i x).1)
  | [], n => by rw [trns]; exact ⟨rfl, fun _ => rfl⟩
  | c :: rest, n => by
    obtain ⟨h1, h2⟩ := trns_errs l r k i rest (n + 1)
    rw [trns, errs]
    by_cases h : (trn l r k i c).2 = 0
    · rw [if_neg (by simp [h]), if_pos h]
      exact ⟨h1, fun e => by rw [List.map_cons, h2 e]⟩
    · rw [if_pos h, if_neg h]
      exact ⟨rfl, fun e => absurd e h⟩
def eL (l r : Graph) (k i : Mor) (cs : List Cond) : Int := errs (fun _ x => (trn l r k i x).2) 0 cs
theorem trn_else (l r : Graph) (k i : Mor) (c : Cond) (h : (c.kind == 5) = false) : trn l r k i c = if eL l r k i c.kids ≠ 0 then (.zero, eL l r k i c.kids) else (.mk c.kind (c.kids.map fun x => (trn l r k i x).1) ⟨[], []⟩ ⟨⟨[], []⟩, [], 0, []⟩, 0) := by
  cases c with
  | mk kind kids m p =>
    have h : (kind == 5) = false := h
    obtain ⟨h1, h2⟩ := trns_errs l r k i kids 0
    have h1 : (trns l r k i kids).2 = eL l r k i kids := h1
    rw [trn, if_neg (by simp [h]), h1]
    show (if eL l r k i kids ≠ 0 then _ else _) = if eL l r k i kids ≠ 0 then _ else _
    by_cases e : eL l r k i kids = 0
    · rw [if_neg (by simp [e]), if_neg (by simp [e]), h2 (by rw [h1, e])]; rfl
    · rw [if_pos e, if_pos e]; rfl
theorem trn_five (l r : Graph) (k i : Mor) (c y : Cond) (h : (c.kind == 5) = true) (hk : c.kids = [y]) : trn l r k i c =
    if cerr r c.pat.graph (kpt i) c.map ≠ 0 then (cno, 0)
    else if poErr (sOf l r c.pat.graph k i c.map) ≠ 0 then (.zero, poErr (sOf l r c.pat.graph k i c.map))
    else if (trn (poG (sOf l r c.pat.graph k i c.map)) c.pat.graph (kpt (poR (sOf l r c.pat.graph k i c.map))) (kin (poR (sOf l r c.pat.graph k i c.map)) (zOf r c.pat.graph i c.map)) y).2 ≠ 0 then (.zero, (trn (poG (sOf l r c.pat.graph k i c.map)) c.pat.graph (kpt (poR (sOf l r c.pat.graph k i c.map))) (kin (poR (sOf l r c.pat.graph k i c.map)) (zOf r c.pat.graph i c.map)) y).2)
    else (.mk 5 [(trn (poG (sOf l r c.pat.graph k i c.map)) c.pat.graph (kpt (poR (sOf l r c.pat.graph k i c.map))) (kin (poR (sOf l r c.pat.graph k i c.map)) (zOf r c.pat.graph i c.map)) y).1] (poL (sOf l r c.pat.graph k i c.map)) ⟨poG (sOf l r c.pat.graph k i c.map), [], 0, []⟩, 0) := by
  cases c with
  | mk kind kids m p =>
    have h' : (kind == 5) = true := h
    have hk' : kids = [y] := hk
    rw [trn, if_pos h', hk', trnK]; rfl
/-- A valid condition over a graph, an Exists. -/
theorem ovr_five {r : Graph} {c : Cond} (h : ovr r c = 0) (h5 : (c.kind == 5) = true) : (∃ y, c.kids = [y] ∧ ovr c.pat.graph y = 0) ∧ mval r c.pat.graph c.map = 0 ∧ c.map.nodes.Nodup ∧ c.map.edges.Nodup := by
  rw [ovr_eq] at h
  split at h
  · exact absurd h ‹_›
  · rename_i h1
    have h1 := Classical.not_not.1 h1
    obtain ⟨y, hy⟩ := shp_five h1 h5
    try rw [if_pos h5] at h
    split at h
    · exact absurd h ‹_›
    · split at h
      · cases h
      · rename_i h2 h3
        have h3 : minj r c.pat.graph c.map = true := by simpa using h3
        rw [hy, ovrs, ovrs] at h
        refine ⟨⟨y, hy, ?_⟩, minj_ok h3⟩
        split at h
        · exact absurd h ‹_›
        · rename_i k; exact Classical.not_not.1 k
theorem ovr_else {r : Graph} {c : Cond} (h : ovr r c = 0) (h5 : (c.kind == 5) = false) : ∀ x ∈ c.kids, ovr r x = 0 := by
  rw [ovr_eq] at h
  split at h
  · exact absurd h ‹_›
  · rw [if_neg (by simp [h5]), ovrs_errs _ _ 0] at h
    intro x hx
    obtain ⟨j, hj⟩ := List.mem_iff_getElem?.1 hx
    exact errs_off h j x hj
theorem ovr_shp {r : Graph} {c : Cond} (h : ovr r c = 0) : shp c = 0 := by
  rw [ovr_eq] at h
  split at h
  · exact absurd h ‹_›
  · rename_i k; exact Classical.not_not.1 k
/-- No condition inside has too many kids. -/
def kb (c : Cond) : Prop := c.kids.length ≤ 1048576 ∧ ∀ x, ∀ _ : x ∈ c.kids, kb x
  termination_by SizeOf.sizeOf c
  decreasing_by exact kid_lt (by assumption)
theorem kb_iff (c : Cond) : kb c ↔ c.kids.length ≤ 1048576 ∧ ∀ x ∈ c.kids, kb x := by rw [kb]
theorem cnds_app (l : List Cond) (c : Cond) : cnds (l ++ [c]) = cnds l ++ [c.cs] := by
  rw [cnds_map, cnds_map, List.map_append, List.map_singleton, Cond.el_cs]
def trV (l r : Graph) (k i : Mor) (c : Cond) : AV := .tuple [(trn l r k i c).1.av, .int .i64 (trn l r k i c).2]
theorem stp_of {l r : Graph} {k i : Mor} (hi : Inv l r k i) {c : Cond} (h : ovr r c = 0) (h5 : (c.kind == 5) = true) : Stp l r c.pat.graph k i c.map := by
  obtain ⟨_, h1, h2, h3⟩ := ovr_five h h5
  exact ⟨hi, h1, h2, h3⟩
theorem inv_len {l r : Graph} {k i : Mor} (h : Inv l r k i) : i.nodes.length ≤ 40 ∧ i.edges.length ≤ 80 := by
  have := mval_len h.im; omega

theorem cnds_one (t : Cond) : cnds [t] = [t.cs] := by rw [cnds, cnds, Cond.el_cs]
theorem mkE (t : Cond) (p : Mor) (y : Graph) : (Cond.mk 5 [t] p ⟨y, [], 0, []⟩).av = .agg [.int .i64 5, .slice 9 [t.cs], .slice 1 (nums p.nodes), .slice 1 (nums p.edges), .slice 1 (nums y.nodes), .slice 3 (edgs y.edges), .slice 4 [], .int .i64 0, .slice 5 []] := by
  show AV.agg [.int .i64 5, .slice 9 (cnds [t]), .slice 1 (nums p.nodes), .slice 1 (nums p.edges), .slice 1 (nums y.nodes), .slice 3 (edgs y.edges), .slice 4 [], .int .i64 0, .slice 5 []] = _
  rw [cnds_one]
theorem m80 (l r : Graph) (k i : Mor) (c y : Cond) (hi : Inv l r k i) (ho : ovr r c = 0) (h5 : (c.kind == 5) = true) (hy : c.kids = [y])
    (ih : ∀ (l r : Graph) (k i : Mor), Inv l r k i → ovr r y = 0 → Con P 118 [] [.agg (glu l r k i), y.av] (trV l r k i y) []) : Con P 172 [] [.agg (glu l r k i), c.av] (trV l r k i c) [] := by
  obtain ⟨⟨y', hy', hoy⟩, hm, hm1, hm2⟩ := ovr_five ho h5
  rw [hy] at hy'
  obtain rfl : y = y' := by simpa using hy'
  have hy0 : c.kids[0]? = some y := by rw [hy]; rfl
  have hs := stp_of hi ho h5
  have li := inv_len hi
  have e5 := trn_five l r k i c y h5 hy
  unfold trV
  refine go Tryz.func172 (by rfl) rfl rfl rfl fun hl => ?_
  refine W0 ?_
  refine ⟨_, _, c119 i.nodes (by omega), ?_⟩
  refine W0 ?_
  refine ⟨_, _, c119 i.edges (by omega), ?_⟩
  refine W0 ?_
  refine ⟨_, _, c75 r c.pat.graph (kpt i) c.map, ?_⟩
  refine W0 ?_
  refine ⟨by kernel_rfl, ?_⟩
  refine W0 ?_
  refine ⟨fun h => ?_, fun h => ?_⟩
  · have h : cerr r c.pat.graph (kpt i) c.map ≠ 0 := by simpa using h
    rw [if_pos h] at e5
    refine W0 ?_
    refine ⟨_, _, c127, ?_⟩
    refine W0 ?_
    refine fin_frz TT ?_ rfl
    rw [e5]; rfl
  have he : cerr r c.pat.graph (kpt i) c.map = 0 := by simpa using h
  rw [if_neg (by simp [he])] at e5
  have hz := hs.z he
  have hzl := gval_len (gval_ext hz)
  have hmi := mval_ok hi.im
  have hmm := mval_ok hm
  have hnd := hs.gnd he
  refine W0 ?_
  refine ⟨_, _, c117 c.pat.graph (zOf r c.pat.graph i c.map) hz, ?_⟩
  refine W0 ?_
  refine ⟨_, _, c117 l k hi.kp, ?_⟩
  refine W0 ?_
  refine ⟨_, _, c215 c.map.nodes i.nodes (by omega) (fun v hv => by have := mval_node hi.im v hv; omega), ?_⟩
  refine W0 ?_
  refine ⟨_, _, c214 (zOf r c.pat.graph i c.map).nodes (i.nodes.map (at0 c.map.nodes)) (by rw [List.length_map]; omega), ?_⟩
  refine W0 ?_
  refine ⟨_, _, c215 c.map.edges i.edges (by omega) (fun v hv => by have := mval_edge hi.im v hv; omega), ?_⟩
  refine W0 ?_
  refine ⟨_, _, c214 (zOf r c.pat.graph i c.map).edges (i.edges.map (at0 c.map.edges)) (by rw [List.length_map]; omega), ?_⟩
  refine W0 ?_
  refine ⟨by kernel_rfl, ?_⟩
  refine W0 ?_
  refine ⟨_, _, c79 (sOf l r c.pat.graph k i c.map), ?_⟩
  by_cases hp : poErr (sOf l r c.pat.graph k i c.map) = 0
  · rw [if_neg (by simp [hp])] at e5
    have hu : uerr l (ext c.pat.graph (zOf r c.pat.graph i c.map)) = 0 := (poErr_ok hp).u
    have hn := hs.next he hu
    have hpo := hs.po he hu
    have hq := hpo.ok.right
    have lq := mval_len hq
    have nq := hpo.right
    rw [poV, if_pos hp]
    refine W0 ?_
    refine ⟨_, _, c119 (poR (sOf l r c.pat.graph k i c.map)).nodes (by omega), ?_⟩
    refine W0 ?_
    refine ⟨_, _, c119 (poR (sOf l r c.pat.graph k i c.map)).edges (by omega), ?_⟩
    refine W0 ?_
    refine ⟨by kernel_rfl, ?_⟩
    refine W0 ?_
    have lz := ext_len c.pat.graph (zOf r c.pat.graph i c.map)
    have lq2 : (poR (sOf l r c.pat.graph k i c.map)).nodes.length = (ext c.pat.graph (zOf r c.pat.graph i c.map)).nodes.length ∧ (poR (sOf l r c.pat.graph k i c.map)).edges.length = (ext c.pat.graph (zOf r c.pat.graph i c.map)).edges.length := ⟨(mval_ok hq).2.2.1, (mval_ok hq).2.2.2.1⟩
    refine ⟨_, _, c120 (srt (poR (sOf l r c.pat.graph k i c.map)).nodes) (poR (sOf l r c.pat.graph k i c.map)).nodes (zOf r c.pat.graph i c.map).nodes (by rw [srt_len]; omega) (fun v hv => by have := plc_mem nq.1 (srt_mem.1 hv); omega), ?_⟩
    refine W0 ?_
    refine ⟨_, _, c120 (srt (poR (sOf l r c.pat.graph k i c.map)).edges) (poR (sOf l r c.pat.graph k i c.map)).edges (zOf r c.pat.graph i c.map).edges (by rw [srt_len]; omega) (fun v hv => by have := plc_mem nq.2 (srt_mem.1 hv); omega), ?_⟩
    refine W0 ?_
    refine ⟨by kernel_rfl, ?_⟩
    refine W0 ?_
    refine ⟨by omega, _, cnds_at hy0, ?_⟩
    refine W0 ?_
    refine ⟨_, _, ih _ _ _ _ hn hoy, ?_⟩
    refine W0 ?_
    refine ⟨by kernel_rfl, ?_⟩
    refine W0 ?_
    refine ⟨fun h => ?_, fun h => ?_⟩
    · rw [if_pos (by simpa using h)] at e5
      refine W0 ?_
      refine fin_frz TT ?_ rfl
      rw [e5]; rfl
    · rw [if_neg (by simpa using h)] at e5
      refine W0 ?_
      refine fin_frz TT ?_ rfl
      rw [e5]
      show _ = AV.tuple [(Cond.mk 5 [_] _ ⟨_, [], 0, []⟩).av, .int .i64 0]
      rw [mkE]; rfl
  · rw [if_pos hp] at e5
    rw [poV, if_neg hp]
    refine W0 ?_
    refine ⟨fun _ => ?_, fun h => absurd h (by simpa using hp)⟩
    refine W0 ?_
    refine fin_frz TT ?_ rfl
    rw [e5]; rfl
end Go.Av.Z

/- Transport to the left, on. -/
set_option maxHeartbeats 4000000
namespace Go.Av.Z
open Go.Proofs

def trF (l r : Graph) (k i : Mor) (x : Cond) : Cond := (trn l r k i x).1
theorem m42 (l r : Graph) (k i : Mor) (c : Cond) (hi : Inv l r k i) (ho : ovr r c = 0) (hk : kb c)
    (ih : ∀ x ∈ c.kids, ∀ (l r : Graph) (k i : Mor), Inv l r k i → ovr r x = 0 → Con P 118 [] [.agg (glu l r k i), x.av] (trV l r k i x) []) : Con P 118 [] [.agg (glu l r k i), c.av] (trV l r k i c) [] := by
  have hkl := ((kb_iff c).1 hk).1
  by_cases h5 : (c.kind == 5) = true
  · obtain ⟨⟨y, hy, hoy⟩, _⟩ := ovr_five ho h5
    have c172 := m80 l r k i c y hi ho h5 hy (fun l r k i => ih y (by rw [hy]; exact List.mem_singleton.2 rfl) l r k i)
    unfold trV at c172 ⊢
    refine go Tryz.func118 (by rfl) rfl rfl rfl fun hl => ?_
    refine W0 ?_
    refine ⟨fun _ => ?_, fun h => absurd h (by rw [h5]; simp)⟩
    refine W0 ?_
    refine ⟨_, _, c172, ?_⟩
    refine W0 ?_
    refine fin_frz TT ?_ rfl
    rfl
  · have h5 : (c.kind == 5) = false := by simpa using h5
    have hok := ovr_else ho h5
    have e := trn_else l r k i c h5
    unfold trV
    refine go Tryz.func118 (by rfl) rfl rfl rfl fun hl => ?_
    refine W0 ?_
    refine ⟨fun h => absurd h (by rw [h5]; simp), fun _ => ?_⟩
    refine W0 ?_
    rw [cnds_len]
    refine loop (fun n : Nat => mkSt [(25, .int .i64 n), (24, .int .i64 c.kids.length), (23, .slice 9 (cnds c.kids)), (6, .bptr 10 0), (2, .bptr 0 0), (3, .bptr 1 0), (4, .bptr 2 0)] [.box 125 (glu l r k i), .box 39 c.cs, .box 39 [.int .i64 0, .ref 3, .ref 4, .ref 5, .ref 6, .ref 7, .ref 8, .int .i64 0, .ref 9], .row 39 9 [], .row 3 1 [], .row 3 1 [], .row 3 1 [], .row 133 3 [], .row 117 4 [], .row 119 5 [], .box 39 [.int .i64 c.kind, .ref 11, .ref 12, .ref 13, .ref 14, .ref 15, .ref 16, .int .i64 0, .ref 17], .row 39 9 (cnds ((c.kids.take n).map (trF l r k i))), .row 3 1 [], .row 3 1 [], .row 3 1 [], .row 133 3 [], .row 117 4 [], .row 119 5 []])
        (fun n => n ≤ c.kids.length ∧ ∀ j y, j < n → c.kids[j]? = some y → (trn l r k i y).2 = 0) (fun n => c.kids.length - n) 0 ⟨Nat.zero_le _, fun j y h => by omega⟩
      (le_of [0, 1, 2, 3, 4, 5, 6, 7, 8, 9, 10, 18, 19, 20, 21, 22, 23, 24] rfl rfl rfl ⟨rfl, rfl, rfl, rfl, rfl, rfl, rfl, trivial⟩ ⟨rfl, rfl, rfl, rfl, rfl, rfl, rfl, rfl, rfl, rfl, rfl, rfl, rfl, rfl, rfl, rfl, rfl, rfl, trivial⟩) ?_
    rintro n ⟨hn, hno⟩
    refine W0 ?_
    refine ⟨fun hlt => ?_, fun hge => ?_⟩
    · have hlt := of_lt hlt
      have hx : c.kids[n]? = some c.kids[n] := List.getElem?_eq_getElem hlt
      generalize c.kids[n] = x at hx
      have hm := List.mem_of_getElem? hx
      have c118 := ih x hm l r k i hi (hok x hm)
      unfold trV at c118
      refine W0 ?_
      refine ⟨by omega, _, cnds_at hx, ?_⟩
      refine W0 ?_
      refine ⟨_, _, c118, ?_⟩
      refine W0 ?_
      refine ⟨fun h => ?_, fun h => ?_⟩
      · have h : (trn l r k i x).2 ≠ 0 := by simpa using h
        have he : eL l r k i c.kids = (trn l r k i x).2 := errs_first (f := fun _ x => (trn l r k i x).2) hno hx h
        rw [if_pos (by rw [he]; exact h), he] at e
        refine W0 ?_
        refine fin_frz TT ?_ rfl
        rw [e]; rfl
      · have h : (trn l r k i x).2 = 0 := by simpa using h
        refine W0 ?_
        refine ⟨by rw [cnds_len, List.length_map, List.length_take]; show (_ + 1) * 184 ≤ _; omega, ?_⟩
        refine W0 ?_
        exact ⟨n + 1, ⟨hlt, zero_upto (f := fun _ x => (trn l r k i x).2) hno hx h⟩, by show c.kids.length - (n + 1) < c.kids.length - n; omega, le_of [0, 1, 2, 3, 4, 5, 6, 7, 8, 9, 10, 36, 12, 13, 14, 15, 16, 17] rfl rfl rfl ⟨step_num hlt (by omega), rfl, rfl, rfl, rfl, rfl, rfl, trivial⟩ ⟨rfl, rfl, rfl, rfl, rfl, rfl, rfl, rfl, rfl, rfl, rfl, by rw [take_map _ hx, cnds_app]; rfl, rfl, rfl, rfl, rfl, rfl, rfl, trivial⟩⟩
    · have hge := of_ge hge
      have he : eL l r k i c.kids = 0 := errs_all (f := fun _ x => (trn l r k i x).2) hno (by omega)
      rw [if_neg (by simp [he])] at e
      rw [take_of_all hge]
      refine W0 ?_
      refine fin_frz TT ?_ rfl
      rw [e]; rfl
theorem c118 (c : Cond) (hk : kb c) (l r : Graph) (k i : Mor) (hi : Inv l r k i) (ho : ovr r c = 0) : Con P 118 [] [.agg (glu l r k i), c.av] (trV l r k i c) [] :=
  m42 l r k i c hi ho hk fun x hx l r k i hi ho => c118 x (((kb_iff c).1 hk).2 x hx) l r k i hi ho
  termination_by SizeOf.sizeOf c
  decreasing_by exact kid_lt hx
end Go.Av.Z

/- The reference: transport to the left. -/
set_option maxHeartbeats 4000000
namespace Go.Av.Z
open Go.Proofs

theorem down_eq {l : List Int} {z : List Int} {n : Nat} (h : ∀ x ∈ l, 0 ≤ x ∧ x < n) : l.map (at0 (back z n)) = l.map (plc z) := by
  apply List.map_congr_left
  intro x hx
  exact back_at (h x hx).1 (h x hx).2
theorem bne_t {n : Int} (h : (n != 0) = true) : n ≠ 0 := by simpa using h
theorem bne_f {n : Int} (h : (n != 0) = false) : n = 0 := by simpa using h
theorem m23x (ρ : Rule) (c y : Cond) (hi : Inv ρ.left.graph ρ.right.graph ρ.keep ρ.into) (ho : ovr ρ.right.graph c = 0) (h5 : (c.kind == 5) = true) (hy : c.kids = [y])
    (ih : ∀ (ρ : Rule), Inv ρ.left.graph ρ.right.graph ρ.keep ρ.into → ovr ρ.right.graph y = 0 → Con P 121 [] [ρ.av, y.av] (trV ρ.left.graph ρ.right.graph ρ.keep ρ.into y) []) : Con P 121 [] [ρ.av, c.av] (trV ρ.left.graph ρ.right.graph ρ.keep ρ.into c) [] := by
  obtain ⟨⟨y', hy', hoy⟩, hm, hm1, hm2⟩ := ovr_five ho h5
  rw [hy] at hy'
  obtain rfl : y = y' := by simpa using hy'
  have hy0 : c.kids[0]? = some y := by rw [hy]; rfl
  have hs := stp_of hi ho h5
  have li := inv_len hi
  have e5 := trn_five ρ.left.graph ρ.right.graph ρ.keep ρ.into c y h5 hy
  have hmi := mval_ok hi.im
  have hmm := mval_ok hm
  have hrl := gval_len hmm.1
  have hxl := gval_len hmm.2.1
  have ni := mval_node hi.im
  have ei := mval_edge hi.im
  have nm := mval_node hm
  have em := mval_edge hm
  unfold trV
  refine go Tryz.func121 (by rfl) rfl rfl rfl fun hl => ?_
  refine W0 ?_
  refine ⟨fun h => absurd h (by simp at h5; simp [h5]), fun _ => ?_⟩
  refine W0 ?_
  refine ⟨_, _, c173 ρ.into.nodes (fun v hv => by have := ni v hv; omega) (by omega), ?_⟩
  refine W0 ?_
  refine ⟨_, _, c173 ρ.into.edges (fun v hv => by have := ei v hv; omega) (by omega), ?_⟩
  refine W0 ?_
  refine ⟨by kernel_rfl, ?_⟩
  refine W0 ?_
  refine ⟨_, _, c174 ρ.right.graph c.pat.graph (kpt ρ.into) c.map, ?_⟩
  refine W0 ?_
  refine ⟨fun h => ?_, fun h => ?_⟩
  · have h : cerr ρ.right.graph c.pat.graph (kpt ρ.into) c.map = 14 := by simpa using h
    rw [if_pos (by rw [h]; decide)] at e5
    refine W0 ?_
    refine ⟨_, _, c130, ?_⟩
    refine W0 ?_
    refine fin_frz TT ?_ rfl
    rw [e5]; rfl
  have he : cerr ρ.right.graph c.pat.graph (kpt ρ.into) c.map = 0 := by
    have h : cerr ρ.right.graph c.pat.graph (kpt ρ.into) c.map ≠ 14 := by simpa using h
    have h2 := hs.cmp.err
    split at h2
    · exact absurd h2 h
    · exact h2
  rw [if_neg (by simp [he])] at e5
  have hz := hs.z he
  have hzl := gval_len (gval_ext hz)
  have lz := ext_len c.pat.graph (zOf ρ.right.graph c.pat.graph ρ.into c.map)
  have zd := pval_nd hz
  have hnd := hs.gnd he
  refine W0 ?_
  refine ⟨fun h => absurd h (by simp [he]), fun _ => ?_⟩
  refine W0 ?_
  refine ⟨_, _, c38 ρ.left.graph ρ.keep hi.kp, ?_⟩
  refine W0 ?_
  refine ⟨_, _, c38 c.pat.graph (zOf ρ.right.graph c.pat.graph ρ.into c.map) hz, ?_⟩
  refine W0 ?_
  refine ⟨_, _, c76 ρ.into c.map (by omega) (by omega) (fun v hv => by have := ni v hv; omega) (fun v hv => by have := ei v hv; omega), ?_⟩
  refine W0 ?_
  rw [nums_len]
  refine ⟨_, _, c78 (zOf ρ.right.graph c.pat.graph ρ.into c.map).nodes c.pat.graph.nodes.length zd.1 (by omega) (by omega), ?_⟩
  refine W0 ?_
  have d1 : ∀ v ∈ (mthen ρ.into c.map).nodes, 0 ≤ v ∧ v < c.pat.graph.nodes.length := fun v hv => by
    obtain ⟨w, hw, rfl⟩ := List.mem_map.1 (show v ∈ ρ.into.nodes.map (at0 c.map.nodes) from hv)
    have := ni w hw
    exact nm _ (gt_mem (by omega))
  have d2 : ∀ v ∈ (mthen ρ.into c.map).edges, 0 ≤ v ∧ v < c.pat.graph.edges.length := fun v hv => by
    obtain ⟨w, hw, rfl⟩ := List.mem_map.1 (show v ∈ ρ.into.edges.map (at0 c.map.edges) from hv)
    have := ei w hw
    exact em _ (gt_mem (by omega))
  refine ⟨_, _, c77 (mthen ρ.into c.map).nodes (back (zOf ρ.right.graph c.pat.graph ρ.into c.map).nodes c.pat.graph.nodes.length) (by simp [mthen]; omega) (fun v hv => by rw [back_len]; exact d1 v hv), ?_⟩
  refine W0 ?_
  rw [edgs_len]
  refine ⟨_, _, c78 (zOf ρ.right.graph c.pat.graph ρ.into c.map).edges c.pat.graph.edges.length zd.2 (by omega) (by omega), ?_⟩
  refine W0 ?_
  refine ⟨_, _, c77 (mthen ρ.into c.map).edges (back (zOf ρ.right.graph c.pat.graph ρ.into c.map).edges c.pat.graph.edges.length) (by simp [mthen]; omega) (fun v hv => by rw [back_len]; exact d2 v hv), ?_⟩
  rw [down_eq d1, down_eq d2]
  refine W0 ?_
  refine ⟨by kernel_rfl, ?_⟩
  refine W0 ?_
  refine ⟨_, _, c175 (sOf ρ.left.graph ρ.right.graph c.pat.graph ρ.keep ρ.into c.map), ?_⟩
  by_cases hp : poErr (sOf ρ.left.graph ρ.right.graph c.pat.graph ρ.keep ρ.into c.map) = 0
  · rw [if_neg (by simp [hp])] at e5
    have hu : uerr ρ.left.graph (ext c.pat.graph (zOf ρ.right.graph c.pat.graph ρ.into c.map)) = 0 := (poErr_ok hp).u
    have hn := hs.next he hu
    have hpo := hs.po he hu
    have hq := hpo.ok.right
    have lq := mval_len hq
    have nq := hpo.right
    have hyl := gval_len hpo.ok.gv
    have lq2 : (poR (sOf ρ.left.graph ρ.right.graph c.pat.graph ρ.keep ρ.into c.map)).nodes.length = (ext c.pat.graph (zOf ρ.right.graph c.pat.graph ρ.into c.map)).nodes.length ∧ (poR (sOf ρ.left.graph ρ.right.graph c.pat.graph ρ.keep ρ.into c.map)).edges.length = (ext c.pat.graph (zOf ρ.right.graph c.pat.graph ρ.into c.map)).edges.length := ⟨(mval_ok hq).2.2.1, (mval_ok hq).2.2.2.1⟩
    rw [poV, if_pos hp]
    refine W0 ?_
    refine ⟨_, _, c122 (poG (sOf ρ.left.graph ρ.right.graph c.pat.graph ρ.keep ρ.into c.map)) c.pat.graph (zOf ρ.right.graph c.pat.graph ρ.into c.map) (poR (sOf ρ.left.graph ρ.right.graph c.pat.graph ρ.keep ρ.into c.map)) nq.1 nq.2 (by omega) (by omega) (fun v hv => by have := mval_node hq v hv; omega) (fun v hv => by have := mval_edge hq v hv; omega) (by omega) (by omega), ?_⟩
    refine W0 ?_
    refine ⟨by omega, _, cnds_at hy0, ?_⟩
    refine W0 ?_
    refine ⟨_, _, ih (mkR _ _ _ _) hn hoy, ?_⟩
    refine W0 ?_
    refine ⟨by kernel_rfl, ?_⟩
    refine W0 ?_
    refine ⟨fun h => ?_, fun h => ?_⟩
    · have h : (trn (poG (sOf ρ.left.graph ρ.right.graph c.pat.graph ρ.keep ρ.into c.map)) c.pat.graph (kpt (poR (sOf ρ.left.graph ρ.right.graph c.pat.graph ρ.keep ρ.into c.map))) (kin (poR (sOf ρ.left.graph ρ.right.graph c.pat.graph ρ.keep ρ.into c.map)) (zOf ρ.right.graph c.pat.graph ρ.into c.map)) y).2 ≠ 0 := bne_t h
      rw [if_pos h] at e5
      refine W0 ?_
      refine fin_frz TT ?_ rfl
      rw [e5]; rfl
    · have h : (trn (poG (sOf ρ.left.graph ρ.right.graph c.pat.graph ρ.keep ρ.into c.map)) c.pat.graph (kpt (poR (sOf ρ.left.graph ρ.right.graph c.pat.graph ρ.keep ρ.into c.map))) (kin (poR (sOf ρ.left.graph ρ.right.graph c.pat.graph ρ.keep ρ.into c.map)) (zOf ρ.right.graph c.pat.graph ρ.into c.map)) y).2 = 0 := bne_f h
      rw [if_neg (by simp [h])] at e5
      refine W0 ?_
      refine fin_frz TT ?_ rfl
      rw [e5]
      show _ = AV.tuple [(Cond.mk 5 [_] _ ⟨_, [], 0, []⟩).av, .int .i64 0]
      rw [mkE]; rfl
  · rw [if_pos hp] at e5
    rw [poV, if_neg hp]
    refine W0 ?_
    refine ⟨fun _ => ?_, fun h => absurd h (by simpa using hp)⟩
    refine W0 ?_
    refine fin_frz TT ?_ rfl
    rw [e5]; rfl
theorem m23 (ρ : Rule) (c : Cond) (hi : Inv ρ.left.graph ρ.right.graph ρ.keep ρ.into) (ho : ovr ρ.right.graph c = 0) (hk : kb c)
    (ih : ∀ y ∈ c.kids, ∀ (ρ : Rule), Inv ρ.left.graph ρ.right.graph ρ.keep ρ.into → ovr ρ.right.graph y = 0 → Con P 121 [] [ρ.av, y.av] (trV ρ.left.graph ρ.right.graph ρ.keep ρ.into y) []) : Con P 121 [] [ρ.av, c.av] (trV ρ.left.graph ρ.right.graph ρ.keep ρ.into c) [] := by
  have hkl := ((kb_iff c).1 hk).1
  by_cases h5 : (c.kind == 5) = true
  · obtain ⟨⟨y, hy, hoy⟩, _⟩ := ovr_five ho h5
    exact m23x ρ c y hi ho h5 hy fun ρ => ih y (by rw [hy]; exact List.mem_singleton.2 rfl) ρ
  · have h5 : (c.kind == 5) = false := by simpa using h5
    have hok := ovr_else ho h5
    have e := trn_else ρ.left.graph ρ.right.graph ρ.keep ρ.into c h5
    unfold trV
    refine go Tryz.func121 (by rfl) rfl rfl rfl fun hl => ?_
    refine W0 ?_
    refine ⟨fun _ => ?_, fun h => absurd h (by simp at h5; simp [h5])⟩
    refine W0 ?_
    refine loop (fun n : Nat => mkSt [(7, .int .i64 n), (6, .bptr 10 0), (2, .bptr 0 0), (3, .bptr 1 0), (4, .bptr 2 0)] [.box 41 ρ.cs, .box 39 c.cs, .box 39 [.int .i64 0, .ref 3, .ref 4, .ref 5, .ref 6, .ref 7, .ref 8, .int .i64 0, .ref 9], .row 39 9 [], .row 3 1 [], .row 3 1 [], .row 3 1 [], .row 133 3 [], .row 117 4 [], .row 119 5 [], .box 39 [.int .i64 c.kind, .ref 11, .ref 12, .ref 13, .ref 14, .ref 15, .ref 16, .int .i64 0, .ref 17], .row 39 9 (cnds ((c.kids.take n).map (trF ρ.left.graph ρ.right.graph ρ.keep ρ.into))), .row 3 1 [], .row 3 1 [], .row 3 1 [], .row 133 3 [], .row 117 4 [], .row 119 5 []])
        (fun n => n ≤ c.kids.length ∧ ∀ j y, j < n → c.kids[j]? = some y → (trn ρ.left.graph ρ.right.graph ρ.keep ρ.into y).2 = 0) (fun n => c.kids.length - n) 0 ⟨Nat.zero_le _, fun j y h => by omega⟩
      (le_of [0, 1, 2, 3, 4, 5, 6, 7, 8, 9, 10, 18, 19, 20, 21, 22, 23, 24] rfl rfl rfl ⟨rfl, rfl, rfl, rfl, rfl, trivial⟩ ⟨rfl, rfl, rfl, rfl, rfl, rfl, rfl, rfl, rfl, rfl, rfl, rfl, rfl, rfl, rfl, rfl, rfl, rfl, trivial⟩) ?_
    rintro n ⟨hn, hno⟩
    refine W0 ?_
    rw [cnds_len]
    refine ⟨fun hlt => ?_, fun hge => ?_⟩
    · have hlt := of_lt hlt
      have hx : c.kids[n]? = some c.kids[n] := List.getElem?_eq_getElem hlt
      generalize c.kids[n] = x at hx
      have hm := List.mem_of_getElem? hx
      have c121 := ih x hm ρ hi (hok x hm)
      unfold trV at c121
      refine W0 ?_
      refine ⟨by omega, _, cnds_at hx, ?_⟩
      refine W0 ?_
      refine ⟨_, _, c121, ?_⟩
      refine W0 ?_
      refine ⟨by kernel_rfl, ?_⟩
      refine W0 ?_
      refine ⟨fun h => ?_, fun h => ?_⟩
      · have h := bne_t h
        have he : eL ρ.left.graph ρ.right.graph ρ.keep ρ.into c.kids = (trn ρ.left.graph ρ.right.graph ρ.keep ρ.into x).2 := errs_first (f := fun _ x => (trn ρ.left.graph ρ.right.graph ρ.keep ρ.into x).2) hno hx h
        rw [if_pos (by rw [he]; exact h), he] at e
        refine W0 ?_
        refine fin_frz TT ?_ rfl
        rw [e]; rfl
      · have h := bne_f h
        refine W0 ?_
        refine ⟨by rw [cnds_len, List.length_map, List.length_take]; show (_ + 1) * 184 ≤ _; omega, ?_⟩
        refine W0 ?_
        exact ⟨n + 1, ⟨hlt, zero_upto (f := fun _ x => (trn ρ.left.graph ρ.right.graph ρ.keep ρ.into x).2) hno hx h⟩, by show c.kids.length - (n + 1) < c.kids.length - n; omega, le_of [0, 1, 2, 3, 4, 5, 6, 7, 8, 9, 10, 28, 12, 13, 14, 15, 16, 17] rfl rfl rfl ⟨step_num hlt (by omega), rfl, rfl, rfl, rfl, trivial⟩ ⟨rfl, rfl, rfl, rfl, rfl, rfl, rfl, rfl, rfl, rfl, rfl, by rw [take_map _ hx, cnds_app]; rfl, rfl, rfl, rfl, rfl, rfl, rfl, trivial⟩⟩
    · have hge := of_ge hge
      have he : eL ρ.left.graph ρ.right.graph ρ.keep ρ.into c.kids = 0 := errs_all (f := fun _ x => (trn ρ.left.graph ρ.right.graph ρ.keep ρ.into x).2) hno (by omega)
      rw [if_neg (by simp [he])] at e
      rw [take_of_all hge]
      refine W0 ?_
      refine fin_frz TT ?_ rfl
      rw [e]; rfl
theorem c121 (c : Cond) (hk : kb c) (ρ : Rule) (hi : Inv ρ.left.graph ρ.right.graph ρ.keep ρ.into) (ho : ovr ρ.right.graph c = 0) : Con P 121 [] [ρ.av, c.av] (trV ρ.left.graph ρ.right.graph ρ.keep ρ.into c) [] :=
  m23 ρ c hi ho hk fun x hx ρ hi ho => c121 x (((kb_iff c).1 hk).2 x hx) ρ hi ho
  termination_by SizeOf.sizeOf c
  decreasing_by exact kid_lt hx
end Go.Av.Z

/- What is transported is valid. -/
set_option maxHeartbeats 4000000
namespace Go.Av.Z
open Go.Proofs

theorem shpOk_kids {c : Cond} (h : shp c = 0) (h5 : (c.kind == 5) = false) {ks : List Cond} (hl : ks.length = c.kids.length) : shp (.mk c.kind ks ⟨[], []⟩ ⟨⟨[], []⟩, [], 0, []⟩) = 0 := by
  have h1 : shpOk c = true := by
    unfold shp at h
    split at h
    · cases h
    · rename_i h1; simpa using h1
  cases c with
  | mk kind kids m p =>
    have hl' : ks.length = kids.length := hl
    have h5' : (kind == 5) = false := h5
    have hu : unusedB (.mk kind ks ⟨[], []⟩ ⟨⟨[], []⟩, [], 0, []⟩) = true := rfl
    have h2 : shpOk (.mk kind ks ⟨[], []⟩ ⟨⟨[], []⟩, [], 0, []⟩) = true := by
      have e1 : shpOk (.mk kind kids m p) = if (kind == 1) = true then ((kids.length : Int) == 0) && unusedB (.mk kind kids m p) else if (kind == 2) = true then ((kids.length : Int) == 1) && unusedB (.mk kind kids m p)
        else if (kind == 3) = true ∨ (kind == 4) = true then decide ((0 : Int) < kids.length) && unusedB (.mk kind kids m p) else if (kind == 5) = true then ((kids.length : Int) == 1) else false := rfl
      have e2 : shpOk (.mk kind ks ⟨[], []⟩ ⟨⟨[], []⟩, [], 0, []⟩) = if (kind == 1) = true then ((ks.length : Int) == 0) && true else if (kind == 2) = true then ((ks.length : Int) == 1) && true
        else if (kind == 3) = true ∨ (kind == 4) = true then decide ((0 : Int) < ks.length) && true else if (kind == 5) = true then ((ks.length : Int) == 1) else false := rfl
      rw [e1] at h1
      rw [e2, hl']
      by_cases k1 : (kind == 1) = true
      · rw [if_pos k1] at h1 ⊢
        simp only [Bool.and_eq_true] at h1 ⊢; exact ⟨h1.1, trivial⟩
      · rw [if_neg k1] at h1 ⊢
        by_cases k2 : (kind == 2) = true
        · rw [if_pos k2] at h1 ⊢
          simp only [Bool.and_eq_true] at h1 ⊢; exact ⟨h1.1, trivial⟩
        · rw [if_neg k2] at h1 ⊢
          by_cases k3 : (kind == 3) = true ∨ (kind == 4) = true
          · rw [if_pos k3] at h1 ⊢
            simp only [Bool.and_eq_true] at h1 ⊢; exact ⟨h1.1, trivial⟩
          · rw [if_neg k3, if_neg (by rw [h5']; simp)] at h1
            cases h1
    show shp (.mk kind ks ⟨[], []⟩ ⟨⟨[], []⟩, [], 0, []⟩) = 0
    rw [shp, h2]; rfl
structure Good (l : Graph) (o : Cond) : Prop where
  ov : ovr l o = 0
  sp : shps o = 0
  ns : noSl o
  fn : fineA o
theorem good_yes (l : Graph) : Good l cyes := by
  refine ⟨?_, ?_, (noSl_iff _).2 ⟨⟨rfl, rfl⟩, fun x hx => by cases hx⟩, (fineA_iff _).2 ⟨⟨by decide, by decide, by decide, by decide, by decide, by decide⟩, fun x hx => by cases hx⟩⟩
  · rw [ovr_eq, if_neg (by decide), if_neg (by decide)]; exact ovrs_errs l [] 0
  · rw [shps_eq, if_neg (by decide)]; exact shpss_errs [] 0
theorem good_no (l : Graph) : Good l cno := by
  have g := good_yes l
  refine ⟨?_, ?_, (noSl_iff _).2 ⟨⟨rfl, rfl⟩, fun x hx => ?_⟩, (fineA_iff _).2 ⟨⟨by decide, by decide, by decide, by decide, by decide, by decide⟩, fun x hx => ?_⟩⟩
  · rw [ovr_eq, if_neg (by decide), if_neg (by decide)]
    show ovrs l [cyes] = 0
    rw [ovrs_errs _ _ 0]; exact errs_zero fun j x hx => by
      have : x = cyes := by cases j <;> simp at hx; exact hx.symm
      rw [this]; exact g.ov
  · rw [shps_eq, if_neg (by decide)]
    show shpss [cyes] = 0
    rw [shpss_errs _ 0]; exact errs_zero fun j x hx => by
      have : x = cyes := by cases j <;> simp at hx; exact hx.symm
      rw [this]; exact g.sp
  · have : x = cyes := by simpa [cno, Cond.kids] using hx
    rw [this]; exact g.ns
  · have : x = cyes := by simpa [cno, Cond.kids] using hx
    rw [this]; exact g.fn
theorem good_trn (c : Cond) (l r : Graph) (k i : Mor) (hi : Inv l r k i) (ho : ovr r c = 0) (he : (trn l r k i c).2 = 0) : Good l (trn l r k i c).1 := by
  by_cases h5 : (c.kind == 5) = true
  · obtain ⟨⟨y, hy, hoy⟩, hm, hm1, hm2⟩ := ovr_five ho h5
    have hs := stp_of hi ho h5
    have e5 := trn_five l r k i c y h5 hy
    by_cases hc : cerr r c.pat.graph (kpt i) c.map = 0
    · rw [if_neg (by simp [hc])] at e5
      by_cases hp : poErr (sOf l r c.pat.graph k i c.map) = 0
      · rw [if_neg (by simp [hp])] at e5
        have hu : uerr l (ext c.pat.graph (zOf r c.pat.graph i c.map)) = 0 := (poErr_ok hp).u
        have hn := hs.next hc hu
        have hpo := hs.po hc hu
        split at e5
        · rename_i hne
          rw [e5] at he
          exact absurd he hne
        · rename_i h0
          have h0 := Classical.not_not.1 h0
          have ih := good_trn y _ _ _ _ hn hoy h0
          rw [e5]
          have hml : mval l (poG (sOf l r c.pat.graph k i c.map)) (poL (sOf l r c.pat.graph k i c.map)) = 0 := hpo.ok.left
          have hmi := minj_mk hml hpo.left.1 hpo.left.2
          have hml2 := mval_len hml
          have hgl := gval_len hpo.ok.gv
          generalize poG (sOf l r c.pat.graph k i c.map) = yy at *
          generalize poL (sOf l r c.pat.graph k i c.map) = pp at *
          generalize (trn yy c.pat.graph (kpt (poR (sOf l r c.pat.graph k i c.map))) (kin (poR (sOf l r c.pat.graph k i c.map)) (zOf r c.pat.graph i c.map)) y).1 = t at *
          have hsh : shp (.mk 5 [t] pp ⟨yy, [], 0, []⟩) = 0 := rfl
          refine ⟨?_, ?_, (noSl_iff _).2 ⟨⟨rfl, rfl⟩, fun x hx => ?_⟩, (fineA_iff _).2 ⟨?_, fun x hx => ?_⟩⟩
          · rw [ovr_eq, if_neg (by simp [hsh])]
            show (if ((5 : Int) == 5) = true then (if mval l yy pp ≠ 0 then mval l yy pp else if minj l yy pp = false then (1 : Int) else ovrs yy [t]) else ovrs l [t]) = 0
            rw [if_pos (show ((5 : Int) == 5) = true from rfl), if_neg (by simp [hml]), if_neg (by simp [hmi]), ovrs_errs _ _ 0]
            exact errs_zero fun j x hx => by
              have : x = t := by cases j <;> simp at hx; exact hx.symm
              rw [this]; exact ih.ov
          · rw [shps_eq, if_neg (by simp [hsh])]
            show shpss [t] = 0
            rw [shpss_errs _ 0]; exact errs_zero fun j x hx => by
              have : x = t := by cases j <;> simp at hx; exact hx.symm
              rw [this]; exact ih.sp
          · have : x = t := by simpa [Cond.kids] using hx
            rw [this]; exact ih.ns
          · unfold Cond.fine
            simp only [Cond.map, Cond.pat, List.length_nil]
            omega
          · have : x = t := by simpa [Cond.kids] using hx
            rw [this]; exact ih.fn
      · rw [if_pos hp] at e5
        rw [e5] at he
        exact absurd he hp
    · rw [if_pos hc] at e5
      rw [e5]; exact good_no l
  · have h5 : (c.kind == 5) = false := by simpa using h5
    have hok := ovr_else ho h5
    have e := trn_else l r k i c h5
    split at e
    · rename_i hne
      rw [e] at he
      exact absurd he hne
    · rename_i h0
      have h0 : eL l r k i c.kids = 0 := Classical.not_not.1 h0
      have ih : ∀ x ∈ c.kids, Good l (trn l r k i x).1 := fun x hx => by
        obtain ⟨j, hj⟩ := List.mem_iff_getElem?.1 hx
        exact good_trn x l r k i hi (hok x hx) (errs_off h0 j x hj)
      have ihm : ∀ x ∈ c.kids.map (fun x => (trn l r k i x).1), Good l x := fun x hx => by
        obtain ⟨y, hy, rfl⟩ := List.mem_map.1 hx
        exact ih y hy
      rw [e]
      have hlm : (c.kids.map fun x => (trn l r k i x).1).length = c.kids.length := List.length_map _
      generalize c.kids.map (fun x => (trn l r k i x).1) = ks at *
      have hsh := shpOk_kids (ovr_shp ho) h5 hlm
      refine ⟨?_, ?_, (noSl_iff _).2 ⟨⟨rfl, rfl⟩, fun x hx => (ihm x hx).ns⟩, (fineA_iff _).2 ⟨⟨Nat.zero_le _, Nat.zero_le _, Nat.zero_le _, Nat.zero_le _, Nat.zero_le _, Nat.zero_le _⟩, fun x hx => (ihm x hx).fn⟩⟩
      · rw [ovr_eq, if_neg (by simp [hsh]), if_neg (by show ¬ (c.kind == 5) = true; rw [h5]; simp)]
        show ovrs l ks = 0
        rw [ovrs_errs _ _ 0]; exact errs_zero fun j x hx => (ihm x (List.mem_of_getElem? hx)).ov
      · rw [shps_eq, if_neg (by simp [hsh])]
        show shpss ks = 0
        rw [shpss_errs _ 0]; exact errs_zero fun j x hx => (ihm x (List.mem_of_getElem? hx)).sp
  termination_by SizeOf.sizeOf c
  decreasing_by
  · exact kid_lt (by rw [hy]; exact List.mem_singleton.2 rfl)
  · exact kid_lt hx
end Go.Av.Z

/- Left, and the reference's. -/
set_option maxHeartbeats 4000000
namespace Go.Av.Z
open Go.Proofs

/-- A condition over a graph, transported, and its size looked at. -/
def mvd (l r : Graph) (k i : Mor) (c : Cond) : Cond × Int :=
  if cval r c ≠ 0 then (.zero, cval r c) else if (trn l r k i c).2 ≠ 0 then (.zero, (trn l r k i c).2) else if lrg (trn l r k i c).1 ≠ 0 then (.zero, lrg (trn l r k i c).1) else ((trn l r k i c).1, 0)
def lft (ρ : Rule) (c : Cond) : Cond × Int := if strc ρ ≠ 0 then (.zero, strc ρ) else mvd ρ.left.graph ρ.right.graph ρ.keep ρ.into c
theorem strc_ok {ρ : Rule} (h : strc ρ = 0) : Inv ρ.left.graph ρ.right.graph ρ.keep ρ.into := by
  unfold strc at h
  split at h
  · exact absurd h ‹_›
  · split at h
    · exact absurd h ‹_›
    · split at h
      · exact absurd h ‹_›
      · split at h
        · exact absurd h ‹_›
        · split at h
          · cases h
          · rename_i h3 h4 h5
            have h5 : minj (kep ρ) ρ.right.graph ρ.into = true := by simpa using h5
            obtain ⟨m1, m2, m3⟩ := minj_ok h5
            exact ⟨Classical.not_not.1 h3, m1, m2, m3⟩
theorem cval_ok {a : Graph} {c : Cond} (h : cval a c = 0) : gval a = 0 ∧ ovr a c = 0 := by
  unfold cval at h
  split at h
  · exact absurd h ‹_›
  · split at h
    · exact absurd h ‹_›
    · rename_i h1 h2; exact ⟨Classical.not_not.1 h1, Classical.not_not.1 h2⟩
theorem c63 (l r : Graph) (k i : Mor) (c : Cond) (hi : Inv l r k i) (hk : kb c) : Con P 63 [] [.agg (glu l r k i), c.av] (.tuple [(mvd l r k i c).1.av, .int .i64 (mvd l r k i c).2]) [] := by
  by_cases h1 : cval r c = 0
  · have ho := (cval_ok h1).2
    have c118' := c118 c hk l r k i hi ho
    unfold trV at c118'
    by_cases h2 : (trn l r k i c).2 = 0
    · have hg := good_trn c l r k i hi ho h2
      have hl : gval l = 0 := (pval_ok hi.kp).1
      have e : cval l (trn l r k i c).1 = lrg (trn l r k i c).1 := by rw [cval, if_neg (by simp [hl]), if_neg (by simp [hg.ov])]
      have e2 : mvd l r k i c = if lrg (trn l r k i c).1 ≠ 0 then (.zero, lrg (trn l r k i c).1) else ((trn l r k i c).1, 0) := by rw [mvd, if_neg (by simp [h1]), if_neg (by simp [h2])]
      have c48' := c48 l (trn l r k i c).1
      rw [e] at c48'
      rw [h2] at c118'
      refine go Tryz.func63 (by rfl) rfl rfl rfl fun hl => ?_
      refine W0 ?_
      refine ⟨_, _, c48 r c, ?_⟩
      rw [h1]
      refine W0 ?_
      refine ⟨_, _, c118', ?_⟩
      refine W0 ?_
      refine ⟨_, _, c48', ?_⟩
      refine W0 ?_
      refine ⟨fun h => ?_, fun h => ?_⟩
      · rw [if_pos (bne_t h)] at e2
        refine W0 ?_
        refine fin_frz TT ?_ rfl
        rw [e2]; rfl
      · rw [if_neg (by simp [bne_f h])] at e2
        refine W0 ?_
        refine fin_frz TT ?_ rfl
        rw [e2]; rfl
    · have e2 : mvd l r k i c = (.zero, (trn l r k i c).2) := by rw [mvd, if_neg (by simp [h1]), if_pos h2]
      refine go Tryz.func63 (by rfl) rfl rfl rfl fun hl => ?_
      refine W0 ?_
      refine ⟨_, _, c48 r c, ?_⟩
      rw [h1]
      refine W0 ?_
      refine ⟨_, _, c118', ?_⟩
      refine W0 ?_
      refine ⟨fun h => ?_, fun h => absurd (bne_f h) h2⟩
      refine W0 ?_
      refine fin_frz TT ?_ rfl
      rw [e2]; rfl
  · have e2 : mvd l r k i c = (.zero, cval r c) := by rw [mvd, if_pos h1]
    refine go Tryz.func63 (by rfl) rfl rfl rfl fun hl => ?_
    refine W0 ?_
    refine ⟨_, _, c48 r c, ?_⟩
    refine W0 ?_
    refine ⟨fun h => ?_, fun h => absurd (bne_f h) h1⟩
    refine W0 ?_
    refine fin_frz TT ?_ rfl
    rw [e2]; rfl
theorem c25 (ρ : Rule) (c : Cond) (hf : ρ.fine) (hk : kb c) : Con P 25 [] [ρ.av, c.av] (.tuple [(lft ρ c).1.av, .int .i64 (lft ρ c).2]) [] := by
  refine go Tryz.func25 (by rfl) rfl rfl rfl fun hl => ?_
  refine W0 ?_
  refine ⟨_, _, c62 ρ hf, ?_⟩
  refine W0 ?_
  refine ⟨fun h => ?_, fun h => ?_⟩
  · have e : lft ρ c = (.zero, strc ρ) := by rw [lft, if_pos (bne_t h)]
    refine W0 ?_
    refine fin_frz TT ?_ rfl
    rw [e]; rfl
  · have h := bne_f h
    have e : lft ρ c = mvd ρ.left.graph ρ.right.graph ρ.keep ρ.into c := by rw [lft, if_neg (by simp [h])]
    refine W0 ?_
    refine ⟨_, _, c65 ρ, ?_⟩
    refine W0 ?_
    refine ⟨_, _, c63 ρ.left.graph ρ.right.graph ρ.keep ρ.into c (strc_ok h) hk, ?_⟩
    refine W0 ?_
    refine ⟨by kernel_rfl, ?_⟩
    refine W0 ?_
    refine fin_frz TT ?_ rfl
    rw [e]; rfl
theorem c66 (ρ : Rule) (c : Cond) (hf : ρ.fine) (hk : kb c) (hfa : fineA c) : Con P 66 [] [ρ.av, c.av] (.tuple [(lft ρ c).1.av, .int .i64 (lft ρ c).2]) [] := by
  refine go Tryz.func66 (by rfl) rfl rfl rfl fun hl => ?_
  refine W0 ?_
  refine ⟨_, _, c13 ρ hf, ?_⟩
  refine W0 ?_
  refine ⟨fun h => ?_, fun h => ?_⟩
  · have e : lft ρ c = (.zero, strc ρ) := by rw [lft, if_pos (bne_t h)]
    refine W0 ?_
    refine fin_frz TT ?_ rfl
    rw [e]; rfl
  have h := bne_f h
  have hi := strc_ok h
  have e : lft ρ c = mvd ρ.left.graph ρ.right.graph ρ.keep ρ.into c := by rw [lft, if_neg (by simp [h])]
  refine W0 ?_
  refine ⟨_, _, c61 ρ.right.graph c hfa, ?_⟩
  refine W0 ?_
  refine ⟨fun h1 => ?_, fun h1 => ?_⟩
  · have e2 : mvd ρ.left.graph ρ.right.graph ρ.keep ρ.into c = (.zero, cval ρ.right.graph c) := by rw [mvd, if_pos (bne_t h1)]
    refine W0 ?_
    refine fin_frz TT ?_ rfl
    rw [e, e2]; rfl
  have h1 := bne_f h1
  have ho := (cval_ok h1).2
  have c121' := c121 c hk ρ hi ho
  unfold trV at c121'
  refine W0 ?_
  refine ⟨_, _, c121', ?_⟩
  refine W0 ?_
  refine ⟨fun h2 => ?_, fun h2 => ?_⟩
  · have e2 : mvd ρ.left.graph ρ.right.graph ρ.keep ρ.into c = (.zero, (trn ρ.left.graph ρ.right.graph ρ.keep ρ.into c).2) := by rw [mvd, if_neg (by simp [h1]), if_pos (bne_t h2)]
    refine W0 ?_
    refine fin_frz TT ?_ rfl
    rw [e, e2]; rfl
  have h2 := bne_f h2
  have hg := good_trn c _ _ _ _ hi ho h2
  have e2 : mvd ρ.left.graph ρ.right.graph ρ.keep ρ.into c = (smallC (trn ρ.left.graph ρ.right.graph ρ.keep ρ.into c).1, szErr (trn ρ.left.graph ρ.right.graph ρ.keep ρ.into c).1) := by
    have es : szErr (trn ρ.left.graph ρ.right.graph ρ.keep ρ.into c).1 = lrg (trn ρ.left.graph ρ.right.graph ρ.keep ρ.into c).1 := by rw [szErr, if_neg (by simp [hg.sp])]
    rw [mvd, if_neg (by simp [h1]), if_neg (by simp [h2]), smallC, es]
    by_cases h3 : lrg (trn ρ.left.graph ρ.right.graph ρ.keep ρ.into c).1 = 0
    · rw [if_neg (by simp [h3]), if_pos h3, h3]
    · rw [if_pos h3, if_neg h3]
  refine W0 ?_
  refine ⟨_, _, c56 (trn ρ.left.graph ρ.right.graph ρ.keep ρ.into c).1 hg.fn, ?_⟩
  refine W0 ?_
  refine fin_frz TT ?_ rfl
  rw [e, e2]; rfl
theorem noSl_zero : noSl .zero := (noSl_iff _).2 ⟨⟨rfl, rfl⟩, fun x hx => by cases hx⟩
theorem noSl_lft (ρ : Rule) (c : Cond) : noSl (lft ρ c).1 := by
  unfold lft
  split
  · exact noSl_zero
  · rename_i h
    have hi := strc_ok (Classical.not_not.1 h)
    unfold mvd
    split
    · exact noSl_zero
    · rename_i h1
      split
      · exact noSl_zero
      · rename_i h2
        split
        · exact noSl_zero
        · exact (good_trn c _ _ _ _ hi (cval_ok (Classical.not_not.1 h1)).2 (Classical.not_not.1 h2)).ns

end Go.Av.Z

/- The arguments, as they are read: values that nobody writes. -/
namespace Go.Av.Z
open Go.Proofs

/-- All that lies in memory. -/
def allF (W : World) : Nat → Prop := fun g => g < W.heap.size
/-- Cells told. -/
def CV (W : World) (xs : List AV) (cs : List Value) : Prop := xs.length = cs.length ∧ ∀ (j : Nat) y, xs[j]? = some y → Val W (allF W) noSig y (cs.getD j undef)
theorem CV.one {W : World} {y : AV} {v : Value} (h : Val W (allF W) noSig y v) : CV W [y] [v] := ⟨rfl, fun j z hz => by
  cases j with
  | zero => simp at hz; subst hz; exact h
  | succ j => simp at hz⟩
theorem CV.app {W : World} {xs ys : List AV} {cs : List Value} {o s : Nat} (h1 : CV W xs ((cs.drop o).take s)) (h2 : CV W ys (cs.drop (o + s))) (hl : o + s ≤ cs.length) : CV W (xs ++ ys) (cs.drop o) := by
  obtain ⟨l1, v1⟩ := h1
  obtain ⟨l2, v2⟩ := h2
  simp only [List.length_take, List.length_drop] at l1 l2
  refine ⟨by simp only [List.length_append, List.length_drop]; omega, fun j y hy => ?_⟩
  rw [List.getElem?_append] at hy
  split at hy
  · rename_i hj
    have := v1 j y hy
    rw [List.getD_eq_getElem?_getD, List.getElem?_take, if_pos (by omega)] at this
    rw [List.getD_eq_getElem?_getD]; exact this
  · rename_i hj
    have := v2 (j - xs.length) y hy
    rw [List.getD_eq_getElem?_getD, List.getElem?_drop] at this ⊢
    rw [show o + s + (j - xs.length) = o + j by omega] at this
    exact this
theorem CV.nil {W : World} {cs : List Value} {o : Nat} (h : cs.length ≤ o) : CV W [] (cs.drop o) := ⟨by simp; omega, fun j y hy => by simp at hy⟩

section
variable {H : Type} {enc : TypeId × Value → H} {W : World} {sp : Nat → Bool} {held : Bool}
/-- What is read at type t, with n rounds, is told by cells that R speaks of. -/
def Dec (enc : TypeId × Value → H) (W : World) (sp : Nat → Bool) (held : Bool) (n : Nat) (t : TypeId) (R : List AV → Prop) : Prop :=
  ∀ (cs : List Value) (d : DataW H) (ps : List MemPlace), DataW.trod enc P W 0 sp held n t cs = some (d, ps) → YtaabmnpedhggoaaGreat.Rows.uptoBulk d ≤ 1048576 → ∃ xs, CV W xs cs ∧ R xs
theorem bulk_part {d : DataW H} {l : List (DataW H)} (h : d ∈ l) : YtaabmnpedhggoaaGreat.Rows.uptoBulk d ≤ YtaabmnpedhggoaaGreat.Rows.uptoBulkAll l := by
  induction l with
  | nil => cases h
  | cons x r ih =>
    simp only [YtaabmnpedhggoaaGreat.Rows.uptoBulkAll]
    cases List.mem_cons.1 h with
    | inl e => subst e; omega
    | inr e => have := ih e; omega
theorem bulk_one (d : DataW H) : 1 ≤ YtaabmnpedhggoaaGreat.Rows.uptoBulk d := by
  cases d with
  | lit l => cases l <;> simp [YtaabmnpedhggoaaGreat.Rows.uptoBulk]
  | _ => simp [YtaabmnpedhggoaaGreat.Rows.uptoBulk]
theorem bulk_len (l : List (DataW H)) : l.length ≤ YtaabmnpedhggoaaGreat.Rows.uptoBulkAll l := by
  induction l with
  | nil => simp [YtaabmnpedhggoaaGreat.Rows.uptoBulkAll]
  | cons x r ih => have := bulk_one x; simp only [YtaabmnpedhggoaaGreat.Rows.uptoBulkAll, List.length_cons]; omega
theorem dec_int (n : Nat) : Dec enc W sp held n 3 fun xs => ∃ m, xs = [.int .i64 m] := by
  intro cs d ps h _
  obtain ⟨m, rfl, _⟩ := DataW.trod_int Tryz.underlying3 h
  exact ⟨_, CV.one (.int _ m), m, rfl⟩
theorem dec_bool (n : Nat) : Dec enc W sp held n 4 fun xs => ∃ b, xs = [.bool b] := by
  intro cs d ps h _
  obtain ⟨b, rfl, _⟩ := DataW.trod_bool Tryz.underlying4 h
  exact ⟨_, CV.one (.bool b), b, rfl⟩
theorem dec_str (n : Nat) : Dec enc W sp held n 9 fun xs => ∃ s, xs = [.str s] := by
  intro cs d ps h _
  obtain ⟨s, rfl, _⟩ := DataW.trod_string Tryz.underlying9 h
  exact ⟨_, CV.one (.str s), s, rfl⟩
theorem exists_list {α : Type} {R : Nat → α → Prop} : ∀ n : Nat, (∀ i, i < n → ∃ x, R i x) → ∃ l : List α, l.length = n ∧ ∀ i x, l[i]? = some x → R i x
  | 0, _ => ⟨[], rfl, fun i x h => by simp at h⟩
  | n + 1, h => by
    obtain ⟨l, h1, h2⟩ := exists_list n fun i hi => h i (by omega)
    obtain ⟨x, hx⟩ := h n (by omega)
    refine ⟨l ++ [x], by simp [h1], fun i y hy => ?_⟩
    rw [List.getElem?_append] at hy
    split at hy
    · exact h2 i y hy
    · have : i = n := by
        have := (List.getElem?_eq_some_iff.1 hy).1
        simp at this; omega
      subst this
      rw [h1, Nat.sub_self] at hy
      simp at hy; subst hy; exact hx
/-- A slice. -/
theorem dec_slice {α : Type} {el : α → List AV} {G : α → Prop} {n : Nat} {t e : TypeId} {sz : Nat} (ht : P.underlying t = some (.slice e)) (hsz : P.cellsOf e = sz) (hel : ∀ x, El sz (el x))
    (hd : ∀ m, m < n → Dec enc W sp held m e fun xs => ∃ x, xs = el x ∧ G x) : Dec enc W sp held n t fun xs => ∃ l : List α, xs = [.slice sz (l.map el)] ∧ l.length ≤ 1048576 ∧ ∀ x ∈ l, G x := by
  intro cs d ps h hb
  rcases DataW.trod_slice ht h with ⟨rfl, hx⟩ | ⟨a, len, cap, elems, rest, m, hm, rfl, hx, _, hlc, hcm, hlen, hE, _, _⟩
  · exact ⟨[.slice sz []], CV.one (.slice sz [] none 0 (fun _ _ => undef) (Nat.le_refl _) (Nat.zero_le _) (by simp) (fun h => absurd rfl h) (by simp)), [], rfl, by simp, by simp⟩
  · simp only [Prod.mk.injEq] at hx
    obtain ⟨rfl, _⟩ := hx
    have hbl : elems.length ≤ 1048576 := by
      have h1 := bulk_len (elems.map (·.1))
      simp only [YtaabmnpedhggoaaGreat.Rows.uptoBulk, List.length_map] at hb h1
      omega
    have hbe : ∀ x ∈ elems, YtaabmnpedhggoaaGreat.Rows.uptoBulk x.1 ≤ 1048576 := fun x hx => by
      have h1 := bulk_part (List.mem_map_of_mem (f := (·.1)) hx)
      simp only [YtaabmnpedhggoaaGreat.Rows.uptoBulk] at hb
      omega
    obtain ⟨l, hl, hlx⟩ := exists_list (R := fun i (x : α × List Value) => (W.cells? 0 (a.add (i * sz)) sz = some x.2 ∧ CV W (el x.1) x.2) ∧ G x.1) len fun i hi => by
      have h1 := hE i hi
      rw [hsz] at h1
      have h2 : elems[i]? = some elems[i] := List.getElem?_eq_getElem (by omega)
      rw [h2] at h1
      obtain ⟨c, hc1, hc2⟩ := Option.bind_eq_some_iff.1 h1
      obtain ⟨xs, k1, x, rfl, k3⟩ := hd m (by omega) c elems[i].1 elems[i].2 hc2 (hbe _ (List.getElem_mem _))
      exact ⟨(x, c), ⟨hc1, k1⟩, k3⟩
    have hat : ∀ (j q : Nat) (y : AV), (((l.map (·.1)).map el).getD j [])[q]? = some y → ∃ x c, l[j]? = some (x, c) ∧ (el x)[q]? = some y := by
      intro j q y hy
      rw [List.getD_eq_getElem?_getD, List.getElem?_map, List.getElem?_map] at hy
      cases hj : l[j]? with
      | none => rw [hj] at hy; simp at hy
      | some x => rw [hj] at hy; exact ⟨x.1, x.2, rfl, by simpa using hy⟩
    have hcell : ∀ (j q : Nat) x c, l[j]? = some (x, c) → q < sz → W.cell? (a.add (j * sz + q)) = some (c.getD q undef) := by
      intro j q x c hj hq
      obtain ⟨⟨k1, k2⟩, _⟩ := hlx j _ hj
      have k1 : W.cells? 0 (a.add (j * sz)) sz = some c := k1
      unfold World.cells? at k1
      rw [if_pos (Nat.zero_le _)] at k1
      have h3 := mapM_some_get k1 q q (by simp [hq])
      have h4 : c.length = sz := by simpa using mapM_some_length k1
      rw [Addr.add_add] at h3
      rw [h3, List.getD_eq_getElem?_getD, List.getElem?_eq_getElem (by omega)]; rfl
    have hll : (l.map (·.1)).length = len := by rw [List.length_map, hl]
    refine ⟨[.slice sz ((l.map (·.1)).map el)], CV.one ?_, l.map (·.1), rfl, by omega, fun x hx => ?_⟩
    · have := Val.slice (w := W) (F := allF W) (σ := noSig) sz ((l.map (·.1)).map el) (some a) cap (fun j q => ((l[j]?.map (·.2)).getD []).getD q undef) (by rw [List.length_map]; omega) (by rw [List.length_map]; omega)
        (fun z hz => by obtain ⟨x, _, rfl⟩ := List.mem_map.1 hz; exact hel x)
        (fun hne => ⟨a, rfl, fun j q y hy => by
          obtain ⟨x, c, k1, k2⟩ := hat j q y hy
          have hq : q < sz := by have := (List.getElem?_eq_some_iff.1 k2).1; have := (hel x).1; omega
          have hc := hcell j q x c k1 hq
          refine ⟨?_, by rw [k1]; exact hc⟩
          unfold World.cell? at hc
          show a.block < W.heap.size
          have hblk : (a.add (j * sz + q)).block = a.block := by unfold Addr.add; split <;> rfl
          rw [hblk] at hc
          rcases Nat.lt_or_ge a.block W.heap.size with h | h
          · exact h
          · rw [Array.getElem?_eq_none h] at hc; simp at hc⟩)
        (fun j q y hy => by
          obtain ⟨x, c, k1, k2⟩ := hat j q y hy
          rw [k1]
          exact (hlx j _ k1).1.2.2 q y k2)
      rw [List.length_map, hll] at this
      exact this
    · obtain ⟨y, hy, rfl⟩ := List.mem_map.1 hx
      obtain ⟨j, hj⟩ := List.mem_iff_getElem?.1 hy
      exact (hlx j y hj).2
end
end Go.Av.Z

/- The arguments, as they are read: the program's structs. -/
namespace Go.Av.Z
open Go.Proofs

section
variable {H : Type} {enc : TypeId × Value → H} {W : World} {sp : Nat → Bool} {held : Bool}
/-- What is read at a struct, by its fields. -/
structure Flds (enc : TypeId × Value → H) (W : World) (sp : Nat → Bool) (held : Bool) (fs : Array Field) (m : Nat) (cs : List Value) : Prop where
  f : ∀ (i t o : Nat) (R : List AV → Prop), (∃ f, fs[i]? = some f ∧ f.type = t ∧ f.offset = o) → Dec enc W sp held m t R → ∃ xs, CV W xs ((cs.drop o).take (P.cellsOf t)) ∧ R xs
theorem flds {t : TypeId} {fs : Array Field} {n : Nat} {cs : List Value} {d : DataW H} {ps : List MemPlace} (ht : P.underlying t = some (.struct fs)) (h : DataW.trod enc P W 0 sp held n t cs = some (d, ps)) (hb : YtaabmnpedhggoaaGreat.Rows.uptoBulk d ≤ 1048576) :
    ∃ m, m < n ∧ cs.length = P.cellsOf t ∧ Flds enc W sp held fs m cs := by
  obtain ⟨ys, m, hn, hx, hl, hlen, hf⟩ := DataW.trod_struct ht h
  simp only [Prod.mk.injEq] at hx
  obtain ⟨rfl, _⟩ := hx
  refine ⟨m, by omega, hl, ⟨fun i t o R ⟨f, hi, ht, ho⟩ hd => ?_⟩⟩
  subst ht ho
  have h1 := hf i f hi
  have hi' : i < ys.length := by
    rw [hlen]
    exact (Array.getElem?_eq_some_iff.1 hi).1
  rw [List.getElem?_eq_getElem hi'] at h1
  refine hd _ ys[i].1 ys[i].2 h1 ?_
  have h2 := bulk_part (List.mem_map_of_mem (f := (·.1)) (List.getElem_mem hi'))
  simp only [YtaabmnpedhggoaaGreat.Rows.uptoBulk] at hb
  omega
theorem z3 : P.cellsOf 3 = 1 := by kernel_rfl
theorem z4 : P.cellsOf 4 = 1 := by kernel_rfl
theorem z9 : P.cellsOf 9 = 1 := by kernel_rfl
theorem z26 : P.cellsOf 26 = 1 := by kernel_rfl
theorem z27 : P.cellsOf 27 = 1 := by kernel_rfl
theorem z29 : P.cellsOf 29 = 2 := by kernel_rfl
theorem z30 : P.cellsOf 30 = 1 := by kernel_rfl
theorem z31 : P.cellsOf 31 = 1 := by kernel_rfl
theorem z33 : P.cellsOf 33 = 5 := by kernel_rfl
theorem z35 : P.cellsOf 35 = 2 := by kernel_rfl
theorem z36 : P.cellsOf 36 = 2 := by kernel_rfl
theorem z37 : P.cellsOf 37 = 1 := by kernel_rfl
theorem z39 : P.cellsOf 39 = 9 := by kernel_rfl
theorem z41 : P.cellsOf 41 = 25 := by kernel_rfl
theorem z115 : P.cellsOf 115 = 2 := by kernel_rfl
theorem z117 : P.cellsOf 117 = 4 := by kernel_rfl
theorem z119 : P.cellsOf 119 = 5 := by kernel_rfl
theorem z133 : P.cellsOf 133 = 3 := by kernel_rfl

theorem dec_term (n : Nat) : Dec enc W sp held n 115 fun xs => ∃ t : Term, xs = [.int .i64 t.var, .int .i64 t.add] := by
  intro cs d ps h hb
  obtain ⟨m, _, hl, hF⟩ := flds Tryz.underlying115 h hb
  obtain ⟨x0, v0, a, rfl⟩ := hF.f 0 3 0 _ ⟨_, rfl, rfl, rfl⟩ (dec_int m)
  obtain ⟨x1, v1, b, rfl⟩ := hF.f 1 3 1 _ ⟨_, rfl, rfl, rfl⟩ (dec_int m)
  rw [z115] at hl
  rw [z3] at v0 v1
  exact ⟨_, CV.app v0 (CV.app v1 (CV.nil (by omega)) (by omega)) (by omega), ⟨a, b⟩, rfl⟩
theorem dec_edge (n : Nat) : Dec enc W sp held n 133 fun xs => ∃ e : Edge, xs = e.el ∧ True := by
  intro cs d ps h hb
  obtain ⟨m, _, hl, hF⟩ := flds Tryz.underlying133 h hb
  obtain ⟨x0, v0, a, rfl⟩ := hF.f 0 3 0 _ ⟨_, rfl, rfl, rfl⟩ (dec_int m)
  obtain ⟨x1, v1, b, rfl⟩ := hF.f 1 3 1 _ ⟨_, rfl, rfl, rfl⟩ (dec_int m)
  obtain ⟨x2, v2, c, rfl⟩ := hF.f 2 3 2 _ ⟨_, rfl, rfl, rfl⟩ (dec_int m)
  rw [z133] at hl
  rw [z3] at v0 v1 v2
  exact ⟨_, CV.app v0 (CV.app v1 (CV.app v2 (CV.nil (by omega)) (by omega)) (by omega)) (by omega), ⟨a, b, c⟩, rfl, trivial⟩
theorem dec_slot (n : Nat) : Dec enc W sp held n 117 fun xs => ∃ s : Slot, xs = s.el ∧ True := by
  intro cs d ps h hb
  obtain ⟨m, _, hl, hF⟩ := flds Tryz.underlying117 h hb
  obtain ⟨x0, v0, a, rfl⟩ := hF.f 0 3 0 _ ⟨_, rfl, rfl, rfl⟩ (dec_int m)
  obtain ⟨x1, v1, b, rfl⟩ := hF.f 1 3 1 _ ⟨_, rfl, rfl, rfl⟩ (dec_int m)
  obtain ⟨x2, v2, t, rfl⟩ := hF.f 2 115 2 _ ⟨_, rfl, rfl, rfl⟩ (dec_term m)
  rw [z117] at hl
  rw [z3] at v0 v1
  rw [z115] at v2
  exact ⟨_, CV.app v0 (CV.app v1 (CV.app v2 (CV.nil (by omega)) (by omega)) (by omega)) (by omega), ⟨a, b, t⟩, rfl, trivial⟩
theorem dec_tst (n : Nat) : Dec enc W sp held n 119 fun xs => ∃ s : Tst, xs = s.el ∧ True := by
  intro cs d ps h hb
  obtain ⟨m, _, hl, hF⟩ := flds Tryz.underlying119 h hb
  obtain ⟨x0, v0, a, rfl⟩ := hF.f 0 3 0 _ ⟨_, rfl, rfl, rfl⟩ (dec_int m)
  obtain ⟨x1, v1, t, rfl⟩ := hF.f 1 115 1 _ ⟨_, rfl, rfl, rfl⟩ (dec_term m)
  obtain ⟨x2, v2, u, rfl⟩ := hF.f 2 115 3 _ ⟨_, rfl, rfl, rfl⟩ (dec_term m)
  rw [z119] at hl
  rw [z3] at v0
  rw [z115] at v1 v2
  exact ⟨_, CV.app v0 (CV.app v1 (CV.app v2 (CV.nil (by omega)) (by omega)) (by omega)) (by omega), ⟨a, t, u⟩, rfl, trivial⟩
theorem dec_nums (n : Nat) : Dec enc W sp held n 26 fun xs => ∃ l : List Int, xs = [.slice 1 (nums l)] ∧ l.length ≤ 1048576 := by
  intro cs d ps h hb
  obtain ⟨xs, h1, l, h2, h3, _⟩ := dec_slice (el := fun m : Int => [AV.int .i64 m]) (G := fun _ => True) (n := n) Tryz.underlying26 z3 (fun x => ⟨rfl, by simp [AV.cell]⟩) (fun m _ cs d ps h hb => by obtain ⟨xs, h1, m, h2⟩ := dec_int m cs d ps h hb; exact ⟨xs, h1, m, h2, trivial⟩) cs d ps h hb
  exact ⟨xs, h1, l, h2, h3⟩
theorem dec_edgs (n : Nat) : Dec enc W sp held n 27 fun xs => ∃ l : List Edge, xs = [.slice 3 (edgs l)] ∧ l.length ≤ 1048576 := by
  intro cs d ps h hb
  obtain ⟨xs, h1, l, h2, h3, _⟩ := dec_slice (el := Edge.el) (G := fun _ => True) (n := n) Tryz.underlying27 z133 (fun x => ⟨rfl, by simp [AV.cell, Edge.el]⟩) (fun m _ => dec_edge m) cs d ps h hb
  exact ⟨xs, h1, l, h2, h3⟩
theorem dec_slts (n : Nat) : Dec enc W sp held n 30 fun xs => ∃ l : List Slot, xs = [.slice 4 (slts l)] ∧ l.length ≤ 1048576 := by
  intro cs d ps h hb
  obtain ⟨xs, h1, l, h2, h3, _⟩ := dec_slice (el := Slot.el) (G := fun _ => True) (n := n) Tryz.underlying30 z117 (fun x => ⟨rfl, by simp [AV.cell, Slot.el]⟩) (fun m _ => dec_slot m) cs d ps h hb
  exact ⟨xs, h1, l, h2, h3⟩
theorem dec_tsts (n : Nat) : Dec enc W sp held n 31 fun xs => ∃ l : List Tst, xs = [.slice 5 (tsts l)] ∧ l.length ≤ 1048576 := by
  intro cs d ps h hb
  obtain ⟨xs, h1, l, h2, h3, _⟩ := dec_slice (el := Tst.el) (G := fun _ => True) (n := n) Tryz.underlying31 z119 (fun x => ⟨rfl, by simp [AV.cell, Tst.el]⟩) (fun m _ => dec_tst m) cs d ps h hb
  exact ⟨xs, h1, l, h2, h3⟩
theorem dec_graph (n : Nat) : Dec enc W sp held n 29 fun xs => ∃ g : Graph, xs = g.cs := by
  intro cs d ps h hb
  obtain ⟨m, _, hl, hF⟩ := flds Tryz.underlying29 h hb
  obtain ⟨x0, v0, a, rfl, _⟩ := hF.f 0 26 0 _ ⟨_, rfl, rfl, rfl⟩ (dec_nums m)
  obtain ⟨x1, v1, b, rfl, _⟩ := hF.f 1 27 1 _ ⟨_, rfl, rfl, rfl⟩ (dec_edgs m)
  rw [z29] at hl
  rw [z26] at v0
  rw [z27] at v1
  exact ⟨_, CV.app v0 (CV.app v1 (CV.nil (by omega)) (by omega)) (by omega), ⟨a, b⟩, rfl⟩
theorem dec_part (n : Nat) : Dec enc W sp held n 35 fun xs => ∃ g : Mor, xs = g.cs := by
  intro cs d ps h hb
  obtain ⟨m, _, hl, hF⟩ := flds Tryz.underlying35 h hb
  obtain ⟨x0, v0, a, rfl, _⟩ := hF.f 0 26 0 _ ⟨_, rfl, rfl, rfl⟩ (dec_nums m)
  obtain ⟨x1, v1, b, rfl, _⟩ := hF.f 1 26 1 _ ⟨_, rfl, rfl, rfl⟩ (dec_nums m)
  rw [z35] at hl
  rw [z26] at v0 v1
  exact ⟨_, CV.app v0 (CV.app v1 (CV.nil (by omega)) (by omega)) (by omega), ⟨a, b⟩, rfl⟩
theorem dec_mor (n : Nat) : Dec enc W sp held n 36 fun xs => ∃ g : Mor, xs = g.cs := by
  intro cs d ps h hb
  obtain ⟨m, _, hl, hF⟩ := flds Tryz.underlying36 h hb
  obtain ⟨x0, v0, a, rfl, _⟩ := hF.f 0 26 0 _ ⟨_, rfl, rfl, rfl⟩ (dec_nums m)
  obtain ⟨x1, v1, b, rfl, _⟩ := hF.f 1 26 1 _ ⟨_, rfl, rfl, rfl⟩ (dec_nums m)
  rw [z36] at hl
  rw [z26] at v0 v1
  exact ⟨_, CV.app v0 (CV.app v1 (CV.nil (by omega)) (by omega)) (by omega), ⟨a, b⟩, rfl⟩
theorem dec_pat (n : Nat) : Dec enc W sp held n 33 fun xs => ∃ p : Pat, xs = p.cs ∧ p.slots.length ≤ 1048576 ∧ p.tests.length ≤ 1048576 := by
  intro cs d ps h hb
  obtain ⟨m, _, hl, hF⟩ := flds Tryz.underlying33 h hb
  obtain ⟨x0, v0, g, rfl⟩ := hF.f 0 29 0 _ ⟨_, rfl, rfl, rfl⟩ (dec_graph m)
  obtain ⟨x1, v1, s, rfl, hs⟩ := hF.f 1 30 2 _ ⟨_, rfl, rfl, rfl⟩ (dec_slts m)
  obtain ⟨x2, v2, k, rfl⟩ := hF.f 2 3 3 _ ⟨_, rfl, rfl, rfl⟩ (dec_int m)
  obtain ⟨x3, v3, t, rfl, ht⟩ := hF.f 3 31 4 _ ⟨_, rfl, rfl, rfl⟩ (dec_tsts m)
  rw [z33] at hl
  rw [z29] at v0
  rw [z30] at v1
  rw [z3] at v2
  rw [z31] at v3
  exact ⟨_, CV.app v0 (CV.app v1 (CV.app v2 (CV.app v3 (CV.nil (by omega)) (by omega)) (by omega)) (by omega)) (by omega), ⟨g, s, k, t⟩, rfl, hs, ht⟩
theorem cs_el (c : Cond) : El 9 c.el := by rw [Cond.el_cs]; exact ⟨rfl, by simp [AV.cell, Cond.cs]⟩
theorem dec_cond : ∀ n : Nat, Dec enc W sp held n 39 fun xs => ∃ c : Cond, xs = c.el ∧ kb c := by
  intro n
  induction n using Nat.strongRecOn with
  | ind n ih =>
    intro cs d ps h hb
    obtain ⟨m, hm, hl, hF⟩ := flds Tryz.underlying39 h hb
    obtain ⟨x0, v0, a, rfl⟩ := hF.f 0 3 0 _ ⟨_, rfl, rfl, rfl⟩ (dec_int m)
    obtain ⟨x1, v1, l, rfl, hl1, hl2⟩ := hF.f 1 37 1 _ ⟨_, rfl, rfl, rfl⟩ (dec_slice (n := m) (el := Cond.el) (G := kb) Tryz.underlying37 z39 cs_el (fun k hk => ih k (by omega)))
    obtain ⟨x2, v2, f, rfl⟩ := hF.f 2 36 2 _ ⟨_, rfl, rfl, rfl⟩ (dec_mor m)
    obtain ⟨x3, v3, p, rfl, _⟩ := hF.f 3 33 4 _ ⟨_, rfl, rfl, rfl⟩ (dec_pat m)
    rw [z39] at hl
    rw [z3] at v0
    rw [z37] at v1
    rw [z36] at v2
    rw [z33] at v3
    refine ⟨_, CV.app v0 (CV.app v1 (CV.app v2 (CV.app v3 (CV.nil (by omega)) (by omega)) (by omega)) (by omega)) (by omega), .mk a l f p, ?_, (kb_iff _).2 ⟨hl1, hl2⟩⟩
    rw [← cnds_map, Cond.el_cs]; rfl
theorem dec_rule (n : Nat) : Dec enc W sp held n 41 fun xs => ∃ r : Rule, xs = r.cs ∧ r.fine := by
  intro cs d ps h hb
  obtain ⟨m, hm, hl, hF⟩ := flds Tryz.underlying41 h hb
  obtain ⟨x0, v0, a, rfl⟩ := hF.f 0 9 0 _ ⟨_, rfl, rfl, rfl⟩ (dec_str m)
  obtain ⟨x1, v1, p, rfl, p1, p2⟩ := hF.f 1 33 1 _ ⟨_, rfl, rfl, rfl⟩ (dec_pat m)
  obtain ⟨x2, v2, q, rfl, q1, q2⟩ := hF.f 2 33 6 _ ⟨_, rfl, rfl, rfl⟩ (dec_pat m)
  obtain ⟨x3, v3, k, rfl⟩ := hF.f 3 35 11 _ ⟨_, rfl, rfl, rfl⟩ (dec_part m)
  obtain ⟨x4, v4, i, rfl⟩ := hF.f 4 36 13 _ ⟨_, rfl, rfl, rfl⟩ (dec_mor m)
  obtain ⟨x5, v5, b, rfl⟩ := hF.f 5 4 15 _ ⟨_, rfl, rfl, rfl⟩ (dec_bool m)
  obtain ⟨x6, v6, c, rfl, _⟩ := hF.f 6 39 16 _ ⟨_, rfl, rfl, rfl⟩ (dec_cond m)
  rw [z41] at hl
  rw [z9] at v0
  rw [z33] at v1 v2
  rw [z35] at v3
  rw [z36] at v4
  rw [z4] at v5
  rw [z39] at v6
  refine ⟨_, CV.app v0 (CV.app v1 (CV.app v2 (CV.app v3 (CV.app v4 (CV.app v5 (CV.app v6 (CV.nil (by omega)) (by omega)) (by omega)) (by omega)) (by omega)) (by omega)) (by omega)) (by omega), ⟨a, p, q, k, i, b, c⟩, ?_, by unfold Rule.fine; simp only; omega⟩
  rw [Cond.el_cs]; rfl
end
end Go.Av.Z

/- The inverse of a structural rule is structural. -/
namespace Go.Av.Z
open Go.Proofs

theorem Inv.inv {l r : Graph} {k i : Mor} (h : Inv l r k i) : Inv r l (kpt i) (kin i k) := Inv.turn h.kp h.im h.n1 h.n2
theorem strc_mk {l r : Graph} {k i : Mor} (h : Inv l r k i) : strc (mkR l r k i) = 0 := by
  have g1 : gval l = 0 := (pval_ok h.kp).1
  have g2 : gval r = 0 := by
    have := h.im
    unfold mval at this
    split at this
    · exact absurd this ‹_›
    · split at this
      · exact absurd this ‹_›
      · rename_i h2; exact Classical.not_not.1 h2
  have g3 : minj (ext l k) r i = true := by
    unfold minj
    rw [h.im]; simp [h.n1, h.n2]
  show (if gval l ≠ 0 then gval l else if gval r ≠ 0 then gval r else if pval l k ≠ 0 then pval l k else
    if mval (ext l k) r i ≠ 0 then mval (ext l k) r i else if minj (ext l k) r i = false then 11 else
    if (plainB ⟨l, [], 0, []⟩ && plainB ⟨r, [], 0, []⟩) = false then 8 else if true = false then 8 else 0) = 0
  rw [if_neg (by simp [g1]), if_neg (by simp [g2]), if_neg (by simp [h.kp]), if_neg (by simp [h.im]), if_neg (by simp [g3]), if_neg (by simp [plainB]), if_neg (by simp)]
theorem mkR_fine (l r : Graph) (k i : Mor) : (mkR l r k i).fine := by unfold Rule.fine mkR; simp
/-- A condition over Left, transported to the right. -/
def rgt (ρ : Rule) (c : Cond) : Cond × Int := if strc ρ ≠ 0 then (.zero, strc ρ) else mvd ρ.right.graph ρ.left.graph (kpt ρ.into) (kin ρ.into ρ.keep) c
theorem lft_inv {l r : Graph} {k i : Mor} (h : Inv l r k i) (c : Cond) : lft (mkR r l (kpt i) (kin i k)) c = mvd r l (kpt i) (kin i k) c := by
  rw [lft, if_neg (by simp [strc_mk h.inv])]; rfl
theorem noSl_rgt (ρ : Rule) (c : Cond) : noSl (rgt ρ c).1 := by
  unfold rgt
  split
  · exact noSl_zero
  · rename_i h
    rw [← lft_inv (strc_ok (Classical.not_not.1 h))]
    exact noSl_lft _ c
theorem mval_big {a b : Graph} {m : Mor} (h : mval a b m = 0) : b.nodes.length ≤ 40 ∧ b.edges.length ≤ 80 := by
  refine gval_len ?_
  unfold mval at h
  split at h
  · exact absurd h ‹_›
  · split at h
    · exact absurd h ‹_›
    · rename_i h2; exact Classical.not_not.1 h2
end Go.Av.Z

/- Right, and the reference's. -/
set_option maxHeartbeats 4000000
namespace Go.Av.Z
open Go.Proofs

theorem plc_srt {l k : List Int} (hd : l.Nodup) (hl : l.length = k.length) : ∀ v ∈ srt l, 0 ≤ plc l v ∧ plc l v < k.length := by
  intro v hv
  have := plc_mem hd (srt_mem.1 hv)
  omega
theorem tInverse (l r : Graph) (k i : Mor) (h : Inv l r k i) : Con P 64 [] [.agg (glu l r k i)] (.agg (glu r l (kpt i) (kin i k))) [] := by
  have e1 := ext_len l k
  have e2 := mval_len h.im
  refine go Tryz.func64 (by rfl) rfl rfl rfl fun hl => ?_
  refine W0 ?_
  refine ⟨_, _, c119 i.nodes (by omega), ?_⟩
  refine V0 ?_
  refine ⟨_, _, c119 i.edges (by omega), ?_⟩
  refine V0 ?_
  refine ⟨_, _, c120 (srt i.nodes) i.nodes k.nodes (by rw [srt_len]; omega) (plc_srt h.n1 (by omega)), ?_⟩
  refine V0 ?_
  refine ⟨_, _, c120 (srt i.edges) i.edges k.edges (by rw [srt_len]; omega) (plc_srt h.n2 (by omega)), ?_⟩
  refine V0 ?_
  refine fin_frz TT ?_ rfl
  rfl
theorem tRight (ρ : Rule) (c : Cond) (hf : ρ.fine) (hk : kb c) : Con P 18 [] [ρ.av, c.av] (.tuple [(rgt ρ c).1.av, .int .i64 (rgt ρ c).2]) [] := by
  refine go Tryz.func18 (by rfl) rfl rfl rfl fun hl => ?_
  refine W0 ?_
  refine ⟨_, _, c62 ρ hf, ?_⟩
  refine V0 ?_
  refine ⟨fun h => ?_, fun h => ?_⟩
  · have e : rgt ρ c = (.zero, strc ρ) := by rw [rgt, if_pos (bne_t h)]
    refine V0 ?_
    refine fin_frz TT ?_ rfl
    rw [e]; rfl
  · have h := bne_f h
    have e : rgt ρ c = mvd ρ.right.graph ρ.left.graph (kpt ρ.into) (kin ρ.into ρ.keep) c := by rw [rgt, if_neg (by simp [h])]
    refine V0 ?_
    refine ⟨_, _, c65 ρ, ?_⟩
    refine V0 ?_
    refine ⟨_, _, tInverse ρ.left.graph ρ.right.graph ρ.keep ρ.into (strc_ok h), ?_⟩
    refine V0 ?_
    refine ⟨_, _, c63 ρ.right.graph ρ.left.graph (kpt ρ.into) (kin ρ.into ρ.keep) c (strc_ok h).inv hk, ?_⟩
    refine V0 ?_
    refine fin_frz TT ?_ rfl
    rw [e]; rfl
theorem rInverse (ρ : Rule) (h : Inv ρ.left.graph ρ.right.graph ρ.keep ρ.into) : Con P 67 [] [ρ.av] (mkR ρ.right.graph ρ.left.graph (kpt ρ.into) (kin ρ.into ρ.keep)).av [] := by
  have e1 := ext_len ρ.left.graph ρ.keep
  have e2 := mval_len h.im
  refine go Tryz.func67 (by rfl) rfl rfl rfl fun hl => ?_
  refine W0 ?_
  refine ⟨_, _, c122 ρ.right.graph ρ.left.graph ρ.keep ρ.into h.n1 h.n2 (by omega) (by omega) (fun v hv => by have := mval_node h.im v hv; have := (mval_big h.im).1; omega) (fun v hv => by have := mval_edge h.im v hv; have := (mval_big h.im).2; omega) (by omega) (by omega), ?_⟩
  refine V0 ?_
  refine fin_frz TT ?_ rfl
  rfl
theorem rRight (ρ : Rule) (c : Cond) (hf : ρ.fine) (hk : kb c) (hfa : fineA c) : Con P 19 [] [ρ.av, c.av] (.tuple [(rgt ρ c).1.av, .int .i64 (rgt ρ c).2]) [] := by
  refine go Tryz.func19 (by rfl) rfl rfl rfl fun hl => ?_
  refine W0 ?_
  refine ⟨_, _, c13 ρ hf, ?_⟩
  refine V0 ?_
  refine ⟨fun h => ?_, fun h => ?_⟩
  · have e : rgt ρ c = (.zero, strc ρ) := by rw [rgt, if_pos (bne_t h)]
    refine V0 ?_
    refine fin_frz TT ?_ rfl
    rw [e]; rfl
  · have h := bne_f h
    have e : rgt ρ c = lft (mkR ρ.right.graph ρ.left.graph (kpt ρ.into) (kin ρ.into ρ.keep)) c := by rw [rgt, if_neg (by simp [h]), lft_inv (strc_ok h)]
    refine V0 ?_
    refine ⟨_, _, rInverse ρ (strc_ok h), ?_⟩
    refine V0 ?_
    refine ⟨_, _, c66 (mkR ρ.right.graph ρ.left.graph (kpt ρ.into) (kin ρ.into ρ.keep)) c (mkR_fine ..) hk hfa, ?_⟩
    refine V0 ?_
    refine fin_frz TT ?_ rfl
    rw [e]; rfl
/-- The law, the example's answer given. -/
theorem tLawRight (hw : Con P 10 [] [] (.bool true) []) (ρ : Rule) (c : Cond) (hf : ρ.fine) (hk : kb c) : Con P 4 [] [ρ.av, c.av] (.bool true) [] := by
  refine go Tryz.func4 (by rfl) rfl rfl rfl fun hl => ?_
  refine W0 ?_
  refine ⟨_, _, hw, ?_⟩
  refine V0 ?_
  refine ⟨_, _, c12 ρ, ?_⟩
  refine V0 ?_
  refine ⟨fun h1 => ?_, fun h1 => ?_⟩
  · refine V0 ?_
    refine ⟨_, _, hw, ?_⟩
    refine V0 ?_
    refine fin_frz TT ?_ rfl
    rfl
  refine V0 ?_
  refine ⟨_, _, c17 ρ.left.graph c, ?_⟩
  refine V0 ?_
  refine ⟨fun h2 => ?_, fun h2 => ?_⟩
  · refine V0 ?_
    refine ⟨_, _, hw, ?_⟩
    refine V0 ?_
    refine fin_frz TT ?_ rfl
    rfl
  have h2 : lightB ρ.left.graph c = true := by simpa using h2
  have hfa := fit_fine (by omega) (by omega) c (light_ok h2).1
  refine V0 ?_
  refine ⟨_, _, tRight ρ c hf hk, ?_⟩
  refine V0 ?_
  refine ⟨_, _, rRight ρ c hf hk hfa, ?_⟩
  refine V0 ?_
  refine ⟨fun _ => ?_, fun h => absurd h (by simp)⟩
  refine V0 ?_
  refine ⟨_, _, c16 (rgt ρ c).1 (noSl_rgt ρ c), ?_⟩
  refine V0 ?_
  refine fin_frz TT ?_ rfl
  rfl
end Go.Av.Z

/- The row, the example's answer given. -/
namespace Go.Av.Z
open Go.Proofs Go.ChangeShapes Go.WideShapes Go.ChangeAt Go.RowKit
open YtaabmnpedhggoaaGreat

theorem own : ownKnob Tryz.prog.godebug = none := by kernel_rfl

section
variable {H : Type} {enc : TypeId × Value → H} {P : Program}
/-- What holds behind a call that leaves what was there as it was: '∀ a' of the kit's lemma is asked of what was trodden alone. -/
theorem post_below {f : Func} {s : ChangeSpec} {apart fresh handsOn again : Bool} {W W' : World} {args : Array Value} {v : Value} {ds gs : List (DataW H)} {before pa pv : List MemPlace}
    (hW : DataW.Whole enc P f.params.toList s.vars apart W args.toList ds gs before)
    (hres : ∀ (b : Nat) (sp : Nat → Bool) (hd : Bool), DataW.TrodAll enc P W' b sp hd f.resultTypes.toList (v.resultList f.resultTypes.size) (s.fn H (ds ++ gs)).results [])
    (hargs : ∀ sp : Nat → Bool, (∀ p ∈ before, sp p.block = true) → DataW.TrodAll enc P W' 0 sp true f.params.toList args.toList (s.fn H (ds ++ gs)).args pa)
    (hvars : ∀ sp : Nat → Bool, (∀ p ∈ before, sp p.block = true) → DataW.TrodVars enc P W' sp s.vars (s.fn H (ds ++ gs)).vars pv)
    (hps : before = pa ++ pv) (hb : Below W.heap.size W W')
    (hok : ∀ (j : Nat) (t : TypeId) (r : Value), f.resultTypes[j]? = some t → (v.resultList f.resultTypes.size)[j]? = some r → Value.okWide P W' .any 0 t r) :
    s.post enc P f apart fresh handsOn again W args v W' := by
  have hold : ∀ p ∈ before, (fun b => decide (b < W.heap.size)) p.block = true := fun p hp => by simpa using hW.lt p hp
  refine ⟨ds, gs, before, [], pa, pv, hW, hres _ _ _, hargs _ hold, hvars _ hold, World.keptBut_mono (fun p hp => ⟨hp, ?_⟩) (hb.frame _), fun _ => ?_⟩
  · rw [hps, List.mem_append] at hp
    exact Or.inr hp
  · have hlt := fun p hp => hW.lt (p := p) hp
    obtain ⟨_, _, _, _, _, hz, hn⟩ := hW
    refine ⟨hok, _, _, ([] ++ pa) ++ pv, ⟨[] ++ pa, pv, trodAll_append (hargs _ (fun _ _ => rfl)) (hres _ _ _), hvars _ (fun _ _ => rfl), rfl, ?_, ?_⟩, ?_⟩
    · intro b off hp
      have hm : MemPlace.cell b off ∈ before := by rw [hps]; simpa using hp
      rw [hb.frozen (p := ⟨b, off, none⟩) (hlt _ hm)]
      exact hz b off hm
    · intro ha
      have := hn ha
      rw [hps] at this
      simpa using this
    · intro p hp _
      rw [hps]
      simpa using hp
end

/-- A struct, told. -/
theorem CV.agg {W : World} {xs : List AV} {cs : Array Value} (h : CV W xs cs.toList) : Val W (allF W) noSig (.agg xs) (.agg cs) := by
  refine .agg _ _ (by have := h.1; simp at this; omega) fun j y hy => ?_
  have := h.2 j y hy
  rw [List.getD_eq_getElem?_getD] at this
  simpa [Array.getD_eq_getD_getElem?] using this

theorem simx0 (W : World) : SimX ⟨W, allF W, blocksOf noSig []⟩ noTM (hpOf []) act0 W noSig (allF W) :=
  ⟨rfl, fun t x h => (by cases h), fun id b h => by simp [hpOf] at h, fun id id' b b' sv sv' g h => by simp [hpOf] at h, fun id b sv g h => by simp [hpOf] at h, fun _ h => h, fun _ h => h, fun _ h _ => .inl h, rfl, rfl, rfl, Nat.le_refl _, fun _ _ _ => rfl⟩
/-- What is read is nothing: witnesses. -/
def wS : Value := .slice none 0 0
def wZ : Value := .int .i64 0
def wM {H : Type} : DataW H := .agg [.nil, .nil]
def wP {H : Type} : DataW H := .agg [wM, .nil, .lit (.int .i64 0), .nil]
def wC {H : Type} : DataW H := .agg [.lit (.int .i64 0), .nil, wM, wP]
def wR {H : Type} : DataW H := .agg [.lit (.string []), wP, wP, wM, wM, .lit (.bool false), wC]

def wT {H : Type} : DataW H := .agg [.nil, .nil]
end Go.Av.Z

/- The row of TransportRight, its contract given. -/
namespace Go.Av.Z.TransportRight
open Go.Proofs Go.ChangeShapes Go.WideShapes Go.ChangeAt Go.RowKit
open YtaabmnpedhggoaaGreat

theorem contract (hlaw : ∀ (ρ : Rule) (c : Cond), ρ.fine → kb c → Con P 4 [] [ρ.av, c.av] (.bool true) []) (H : Type) (enc : TypeId × Value → H) (W : World) (base : Nat) (args : Array Value) (ds gs : List (DataW H)) (before : List MemPlace)
    (hval : ∀ (j : Nat) t v, Tryz.f4.params[j]? = some t → args[j]? = some v → Value.okWide Tryz.prog W .any base t v)
    (hW : DataW.Whole enc Tryz.prog Tryz.f4.params.toList Rows.transportRightSpec.vars false W args.toList ds gs before)
    (hk : Rows.uptoSmall H (ds ++ gs) = true) :
    Calls Tryz.prog 4 args W fun e W' => ∃ v, e = .returned v ∧ Rows.transportRightSpec.post enc Tryz.prog Tryz.f4 false true false false W args v W' := by
  have hW' := hW
  obtain ⟨p, q, hA0, hV, rfl, hfz, hnd⟩ := hW
  have hA : DataW.TrodAll enc Tryz.prog W 0 (fun _ => true) true Tryz.f4.params.toList args.toList ds p := hA0
  rw [Tryz.params4] at hA hval
  obtain ⟨v0, v1, d0, d1, p0, p1, rfl, rfl, rfl, h0, h1⟩ := trodAll_two hA
  obtain ⟨rfl, rfl⟩ := trodVars_none hV
  have hsm : Rows.uptoBulk d0 ≤ 1048576 ∧ Rows.uptoBulk d1 ≤ 1048576 := by
    have := of_decide_eq_true hk
    simp only [List.append_nil, Rows.uptoBulkAll] at this
    omega
  have k0 := hval 0 41 v0 rfl rfl
  unfold Value.okWide at k0
  rw [Tryz.underlying41] at k0
  obtain ⟨cs0, rfl, _, _⟩ := k0
  have h0k := h0
  obtain ⟨n0, h0⟩ := h0
  have k1 := hval 1 39 v1 rfl rfl
  unfold Value.okWide at k1
  rw [Tryz.underlying39] at k1
  obtain ⟨cs1, rfl, _, _⟩ := k1
  have h1k := h1
  obtain ⟨n1, h1⟩ := h1
  obtain ⟨x0, e0, ρ, rfl, g00⟩ := dec_rule n0 _ _ _ h0 hsm.1
  obtain ⟨x1, e1, c, rfl, g10⟩ := dec_cond n1 _ _ _ h1 hsm.2
  have hargs : AllVal W (allF W) noSig [ρ.av, c.av] #[.agg cs0, .agg cs1] := by
    refine ⟨rfl, fun j x hx => ?_⟩
    match j, hx with
    | 0, hx => simp at hx; subst hx; exact e0.agg
    | 1, hx => simp at hx; subst hx; rw [Cond.el_cs] at e1; exact e1.agg
  refine ((hlaw ρ c g00 g10).spec W (allF W) noSig _ (simx0 W) (fun _ _ => rfl) hargs).mono fun e W' he => ?_
  obtain ⟨v, σ', F', rfl, _, _, hv, hS⟩ := he
  obtain rfl := hv.unbool
  have hb : Below W.heap.size W W' := ⟨hS.os, hS.tape, hS.output, hS.size, fun k hk => hS.bel k hk (fun ⟨i, b, sv, h1, _⟩ => by simp at h1)⟩
  simp only [List.append_nil] at hW'
  have hlt := fun x (hx : x ∈ _) => hW'.lt (p := x) hx
  simp only [List.mem_append] at hlt
  refine ⟨_, rfl, post_below (pv := []) hW' (fun _ _ _ => (trodAll_cons_mk (shut_bool Tryz.underlying4 _) trodAll_mk0)) (fun sp hsp => ?_) (fun _ _ => rfl) (List.append_nil _).symm hb (ok_one (by kernel_rfl) rfl (okWide_bool_mk Tryz.underlying4 _))⟩
  simp only [List.mem_append] at hsp
  have t0 := WideElems.Trod_stays (sp' := sp) (t := 41) (by kernel_rfl) (by kernel_rfl) (of_decide_eq_true (by kernel_rfl)) h0k (fun x hx => hb.same (hlt x (by simp [hx]))) (fun x hx => hsp x (by simp [hx]))
  have t1 := WideElems.Trod_stays (sp' := sp) (t := 39) (by kernel_rfl) (by kernel_rfl) (of_decide_eq_true (by kernel_rfl)) h1k (fun x hx => hb.same (hlt x (by simp [hx]))) (fun x hx => hsp x (by simp [hx]))
  rw [Tryz.params4]
  have : DataW.TrodAll enc Tryz.prog W' 0 sp true [41, 39] [.agg cs0, .agg cs1] [d0, d1] (p0 ++ p1) := by simpa using trodAll_cons_mk t0 (trodAll_cons_mk t1 trodAll_mk0)
  exact this
def wit : Input := ⟨#[], #[.agg #[.string ⟨#[]⟩, wS, wS, wS, wZ, wS, wS, wS, wS, wZ, wS, wS, wS, wS, wS, .bool false, wZ, wS, wS, wS, wS, wS, wS, wZ, wS], .agg #[wZ, wS, wS, wS, wS, wS, wS, wZ, wS]], []⟩
theorem lifted (hlaw : ∀ (ρ : Rule) (c : Cond), ρ.fine → kb c → Con P 4 [] [ρ.av, c.av] (.bool true) []) (os : Os) (started : os.Started) (H : Type) (enc : TypeId × Value → H) (F : Stop.Interp) :
    ReturnsInHanded {} Tryz.checked os 4 .any ((Rows.OpenSpec.upto Rows.transportRightSpec).pre6 enc Tryz.prog Tryz.f4 Rows.transportRightUptoRow.domain false) (((Rows.OpenSpec.upto Rows.transportRightSpec).at F).post enc Tryz.prog Tryz.f4 false true false false) := by
  refine returnsInHanded_of_cond (C := Tryz.checked) (s := Rows.OpenSpec.upto Rows.transportRightSpec) (k := Rows.uptoSmall) rfl own started (by kernel_rfl) Tryz.func4
    (OpenSpec.witness (enc := enc) (C := Tryz.checked) (s := Rows.OpenSpec.upto Rows.transportRightSpec) (k := Rows.uptoSmall) rfl false wit 8 (by kernel_rfl) (by kernel_rfl) (by kernel_rfl)
      (x := ([wR, wC], [], [])) (by kernel_rfl) rfl (by kernel_rfl)) ?_
  intro W base args ds gs before hval hW _ hk _
  exact contract hlaw H enc W base args ds gs before hval hW hk
noncomputable abbrev P : Program := Tryz.pinned.checked.prog
abbrev f : FuncId := 4
noncomputable abbrev fn : Func := Tryz.f4
noncomputable abbrev s : ChangeSpec := (Rows.OpenSpec.upto Rows.transportRightSpec).bare
noncomputable abbrev c : OpenClaim := Rows.transportRightUptoRow
theorem k0 : (c.wf (OpenSpec.ofChange s)) = true := by kernel_rfl
theorem k1 : (laidOutB P) = true := by kernel_rfl
theorem k2 : (mapsRowed P) = true := by kernel_rfl
theorem k3 : (fn.params.all (P.readableRec ·)) = true := by kernel_rfl
theorem k4 : (namedTie P c.named s.vars) = true := by kernel_rfl
theorem k5 : ((c.stops == [])) = true := by kernel_rfl
theorem k6 : ((P.stops == [])) = true := by kernel_rfl
theorem k7 : ((c.knobs == [])) = true := by kernel_rfl
theorem k8 : ((P.stopKnobs == [])) = true := by kernel_rfl
theorem k9 : ((c.inPlace == P.inPlace f)) = true := by kernel_rfl
theorem k10 : ((c.unfollowed == P.unfollowed f)) = true := by kernel_rfl
theorem k11 : ((c.recurses == P.recurses f)) = true := by kernel_rfl
theorem k12 : ((c.named == P.varsNamed f)) = true := by kernel_rfl
theorem k13 : ((c.maps == (fn.params.toList ++ s.plain.varTypes P).any (P.mapsRec ·))) = true := by kernel_rfl
theorem k14 : ((c.ifaces == (fn.params.toList ++ s.plain.varTypes P).any (P.ifacesRec ·))) = true := by kernel_rfl
theorem k15 : ((c.mapsOut == P.mapsAmong fn.resultTypes.toList)) = true := by kernel_rfl
theorem k16 : ((c.loops == (fn.params.toList ++ s.plain.varTypes P).any (P.loopsFrom ·))) = true := by kernel_rfl
theorem k17 : ((c.wideKeys == (fn.params.toList ++ s.plain.varTypes P ++ fn.resultTypes.toList).any (P.wideKeysFrom ·))) = true := by kernel_rfl
theorem k18 : (s.vars.all (P.varReadable ·)) = true := by kernel_rfl
theorem k19 : (fn.resultTypes.all (fun t => P.readableRec t && decide (t < P.types.size))) = true := by kernel_rfl
theorem k20 : ((c.ifacesOut == fn.resultTypes.toList.any (P.ifacesRec ·))) = true := by kernel_rfl
theorem k21 : ((c.loopsOut == fn.resultTypes.toList.any (P.loopsFrom ·))) = true := by kernel_rfl
theorem k22 : ((c.plainKeys == P.plainKeys)) = true := by kernel_rfl
theorem k23 : (c.shortTexts.isNone) = true := by kernel_rfl
theorem k24 : (P.stopsHeard) = true := by kernel_rfl
theorem k25 : (P.mayEnter) = true := by kernel_rfl
theorem k26 : ((c.lifted == P.liftsFinal)) = true := by kernel_rfl
theorem k27 : ((P.make == some c.make)) = true := by kernel_rfl
theorem k28 : ((c.kinds == (if c.domain.isEmpty then [] else fn.params.toList.map fun t => match P.underlying t with | some (.int k) => some k | _ => none))) = true := by kernel_rfl
theorem k29 : ((c.pinned == c.pinnedBy)) = true := by kernel_rfl
theorem k30 : ((c.veiled == (fn.params.toList ++ s.plain.varTypes P ++ fn.resultTypes.toList).any (P.veiledRec ·))) = true := by kernel_rfl
theorem k31 : (c.veiledFits P fn.params.toList (fn.params.toList ++ s.plain.varTypes P ++ fn.resultTypes.toList)) = true := by kernel_rfl
theorem and_t {a b : Bool} (h : a = true) (h' : b = true) : (a && b) = true := by rw [h, h']; rfl
theorem closed : joinedFacts Tryz.pinned.checked.prog 4 Tryz.f4 (Rows.OpenSpec.upto Rows.transportRightSpec).bare Rows.transportRightUptoRow = true := and_t (and_t (and_t (and_t (and_t (and_t (and_t (and_t (and_t (and_t (and_t (and_t (and_t (and_t (and_t (and_t (and_t (and_t (and_t (and_t (and_t (and_t (and_t (and_t (and_t (and_t (and_t (and_t (and_t (and_t (and_t k0 k1) k2) k3) k4) k5) k6) k7) k8) k9) k10) k11) k12) k13) k14) k15) k16) k17) k18) k19) k20) k21) k22) k23) k24) k25) k26) k27) k28) k29) k30) k31
theorem over (hlaw : ∀ (ρ : Rule) (c : Cond), ρ.fine → kb c → Con P 4 [] [ρ.av, c.av] (.bool true) []) : Rows.transportRightUptoRow.holds Tryz.pinned (Rows.OpenSpec.upto Rows.transportRightSpec) :=
  OpenClaim.holds_of_cond 4 Tryz.f4 rfl rfl rfl rfl rfl rfl rfl ⟨rfl, rfl, rfl, rfl, rfl⟩ rfl rfl rfl rfl rfl (by kernel_rfl) Tryz.func4 closed
    (of_decide_eq_true (by kernel_rfl)) (by unfold Func.isWrapper; first | (rw [if_pos (by decide +kernel)]; kernel_rfl) | (rw [if_neg (by decide +kernel)]; exact ⟨rfl, rfl⟩))
    (fun os started H enc _ F => lifted hlaw os started H enc F)
end Go.Av.Z.TransportRight

/- The example: names. -/
namespace Go.Av.Z
open Go.Proofs

def sA : ByteArray := ⟨#[65]⟩
def se : ByteArray := ⟨#[101]⟩
/-- A name of the example. -/
def Nm (s : ByteArray) : Prop := s = sA ∨ s = se
def byt (s : ByteArray) : Int := (s[0]?.getD 0).toNat
theorem c279 (s : ByteArray) (hs : Nm s) : Con P 279 [] [.int .u8 (byt s)] (.bool true) [] := by
  rcases hs with rfl | rfl
  all_goals
    refine go Tryz.func279 (by rfl) rfl rfl rfl fun hl => ?_
    refine W0 ?_
    refine fin_frz TT ?_ rfl
    rfl
theorem c281 (s : ByteArray) (hs : Nm s) : Con P 281 [] [.int .u8 (byt s)] (.bool true) [] := by
  refine go Tryz.func281 (by rfl) rfl rfl rfl fun hl => ?_
  refine W0 ?_
  refine ⟨_, _, c279 s hs, ?_⟩
  refine W0 ?_
  refine fin_frz TT ?_ rfl
  rfl
theorem c280 (s : ByteArray) (hs : Nm s) : Con P 280 [] [.str s, .fn 281 []] (.int .i64 1) [] := by
  have h := c281 s hs
  rcases hs with rfl | rfl
  all_goals
    refine go Tryz.func280 (by rfl) rfl rfl rfl fun hl => ?_
    refine W0 ?_
    refine R0 ?_
    refine ⟨_, _, h, ?_⟩
    refine R0 ?_
    refine fin_frz TT ?_ rfl
    rfl
theorem c258 (s : ByteArray) (hs : Nm s) : Con P 258 [] [.str s] (.tuple [.int .i64 1, .int .i64 1, .int .i64 0]) [] := by
  have h := c279 s hs
  have h2 := c280 s hs
  rcases hs with rfl | rfl
  all_goals
    refine go Tryz.func258 (by rfl) rfl rfl rfl fun hl => ?_
    refine W0 ?_
    refine R0 ?_
    refine ⟨_, _, h, ?_⟩
    refine R0 ?_
    refine ⟨_, _, h2, ?_⟩
    refine R0 ?_
    refine fin_frz TT ?_ rfl
    rfl
theorem nm_ne (s : ByteArray) (hs : Nm s) : ¬ (s.toList == (⟨#[]⟩ : ByteArray).toList) = true := by
  have h1 : s.size = 1 := by rcases hs with rfl | rfl <;> rfl
  have h2 : ∃ b, s.toList = [b] := by
    unfold ByteArray.toList
    rw [ByteArray.toList.loop, if_pos (by omega), ByteArray.toList.loop, if_neg (by omega)]
    exact ⟨_, rfl⟩
  have h3 : (⟨#[]⟩ : ByteArray).toList = [] := by
    unfold ByteArray.toList
    rw [ByteArray.toList.loop, if_neg (by decide)]; rfl
  obtain ⟨b, h2⟩ := h2
  rw [h2, h3]
  exact Bool.false_ne_true
theorem c224 (s : ByteArray) (hs : Nm s) : Con P 224 [] [.agg [.int .i64 1, .str s, .int .i64 0]] (.tuple [.str s, .bool true]) [] := by
  have h := c258 s hs
  have h2 := nm_ne s hs
  rcases hs with rfl | rfl
  all_goals
    refine go Tryz.func224 (by rfl) rfl rfl rfl fun hl => ?_
    refine W0 ?_
    refine R0 ?_
    refine ⟨fun h => absurd h h2, fun _ => ?_⟩
    refine R0 ?_
    refine ⟨_, _, h, ?_⟩
    refine R0 ?_
    refine fin_frz TT ?_ rfl
    rfl
theorem c177 (s : ByteArray) (hs : Nm s) : Con P 177 [] [.str s] (.bool true) [] := by
  refine go Tryz.func177 (by rfl) rfl rfl rfl fun hl => ?_
  refine W0 ?_
  refine ⟨_, _, c224 s hs, ?_⟩
  refine R0 ?_
  refine fin_frz TT ?_ rfl
  rfl

/-- The type graph of the example. -/
def T0 : Types := ⟨[⟨sA, -1, false, []⟩], [⟨se, 0, 0, 0, -1, 0, -1⟩]⟩
def T0.av : AV := .agg T0.cs
theorem c179 : Con P 179 [] [T0.av, .int .i64 0] (.slice 4 []) [] := by
  refine go Tryz.func179 (by rfl) rfl rfl rfl fun hl => ?_
  refine W0 ?_
  refine R0 ?_
  refine fin_frz TT ?_ rfl
  rfl
def N0 : NodeT := ⟨sA, -1, false, []⟩
def E0 : EdgeT := ⟨se, 0, 0, 0, -1, 0, -1⟩
theorem c123 : Con P 123 [] [T0.av, .int .i64 0] (.int .i64 0) [] := by
  refine go Tryz.func123 (by rfl) rfl rfl rfl fun hl => ?_
  refine W0 ?_
  refine R0 ?_
  refine ⟨_, _, c177 sA (.inl rfl), ?_⟩
  refine R0 ?_
  refine ⟨_, _, con_frz rfl rfl rfl (c152a N0.el [] 178 (fun _ => false) (fun x hx => by cases hx)), ?_⟩
  refine R0 ?_
  refine ⟨_, _, c179, ?_⟩
  refine R0 ?_
  refine fin_frz TT ?_ rfl
  rfl
theorem c181 : Con P 181 [] [.int .i64 0, .fptr T0.cs] (.bool true) [] := by
  refine go Tryz.func181 (by rfl) rfl rfl rfl fun hl => ?_
  refine W0 ?_
  refine R0 ?_
  refine fin_frz TT ?_ rfl
  rfl
theorem c184 : Con P 184 [] [.int .i64 0, .int .i64 (-1)] (.bool true) [] := by
  refine go Tryz.func184 (by rfl) rfl rfl rfl fun hl => ?_
  refine W0 ?_
  refine R0 ?_
  refine fin_frz TT ?_ rfl
  rfl
theorem c124 : Con P 124 [] [T0.av, .int .i64 0] (.int .i64 0) [] := by
  refine go Tryz.func124 (by rfl) rfl rfl rfl fun hl => ?_
  refine W0 ?_
  refine R0 ?_
  refine ⟨_, _, c177 se (.inr rfl), ?_⟩
  refine R0 ?_
  refine ⟨_, _, con_frz rfl rfl rfl (c182a E0.el [] 183 (fun _ => false) (fun x hx => by cases hx)), ?_⟩
  refine R0 ?_
  refine ⟨_, _, con_frz rfl rfl rfl c181, ?_⟩
  refine R0 ?_
  refine ⟨_, _, c181, ?_⟩
  refine R0 ?_
  refine ⟨_, _, c184, ?_⟩
  refine R0 ?_
  refine ⟨_, _, c184, ?_⟩
  refine R0 ?_
  refine fin_frz TT ?_ rfl
  rfl
theorem c68 : Con P 68 [] [T0.av] (.tuple [.str ⟨#[]⟩, .int .i64 0]) [] := by
  refine go Tryz.func68 (by rfl) rfl rfl rfl fun hl => ?_
  refine W0 ?_
  refine R0 ?_
  refine ⟨_, _, c123, ?_⟩
  refine R0 ?_
  refine ⟨_, _, c124, ?_⟩
  refine R0 ?_
  refine fin_frz TT ?_ rfl
  rfl
theorem c153 : Con P 153 [] [.agg N0.el, .fptr [.int .i64 0]] (.bool false) [] := by
  refine go Tryz.func153 (by rfl) rfl rfl rfl fun hl => ?_
  refine W0 ?_
  refine R0 ?_
  refine fin_frz TT ?_ rfl
  rfl
theorem c92 : Con P 92 [] [T0.av, .int .i64 0] (.bool true) [] := by
  refine go Tryz.func92 (by rfl) rfl rfl rfl fun hl => ?_
  refine W0 ?_
  refine R0 ?_
  refine ⟨_, _, con_frz rfl rfl rfl (c152a [.int .i64 0] [N0] 153 (fun _ => false) (fun x hx => by
    rw [List.mem_singleton] at hx
    subst hx; exact c153)), ?_⟩
  refine R0 ?_
  refine fin_frz TT ?_ rfl
  rfl
theorem c203 : Con P 203 [] [.int .i64 0, .fptr T0.cs] (.bool false) [] := by
  refine go Tryz.func203 (by rfl) rfl rfl rfl fun hl => ?_
  refine W0 ?_
  refine R0 ?_
  refine fin_frz TT ?_ rfl
  rfl
end Go.Av.Z

/- The example: the type graph's words, on. -/
namespace Go.Av.Z
open Go.Proofs

theorem c157x : Con P 157 [] [.slice 1 (nums [0, 0]), .fn 203 [.fptr T0.cs]] (.int .i64 (-1)) [] := by
  refine go Tryz.func157 (by rfl) rfl rfl rfl fun hl => ?_
  refine W0 ?_
  refine R0 ?_
  refine ⟨_, _, c203, ?_⟩
  refine R0 ?_
  refine ⟨_, _, c203, ?_⟩
  refine R0 ?_
  refine fin_frz TT ?_ rfl
  rfl
theorem c99x : Con P 99 [] [.slice 1 (nums [0, 0]), .fn 203 [.fptr T0.cs]] (.bool false) [] := by
  refine go Tryz.func99 (by rfl) rfl rfl rfl fun hl => ?_
  refine W0 ?_
  refine R0 ?_
  refine ⟨_, _, c157x, ?_⟩
  refine R0 ?_
  refine fin_frz TT ?_ rfl
  rfl
theorem c155 : Con P 155 [] [T0.av, .slice 1 (nums [0, 0])] (.int .i64 0) [] := by
  refine go Tryz.func155 (by rfl) rfl rfl rfl fun hl => ?_
  refine W0 ?_
  refine R0 ?_
  refine ⟨_, _, c68, ?_⟩
  refine R0 ?_
  refine ⟨_, _, con_frz rfl rfl rfl c99x, ?_⟩
  refine R0 ?_
  refine fin_frz TT ?_ rfl
  rfl
theorem c249x : Con P 249 [.row 3 1 (nums [0])] [.ref 0] (.tuple []) [.row 3 1 (nums [0])] := by
  refine go Tryz.func249 (by rfl) rfl rfl rfl fun hl => ?_
  refine W0 ?_
  refine R0 ?_
  exact le_of [0] rfl rfl rfl ⟨rfl, trivial⟩ ⟨rfl, trivial⟩
theorem c204 : Con P 204 [] [T0.av, .int .i64 0] (.slice 1 (nums [0])) [] := by
  refine go Tryz.func204 (by rfl) rfl rfl rfl fun hl => ?_
  refine W0 ?_
  refine R0 ?_
  refine ⟨_, _, c249x, ?_⟩
  refine R0 ?_
  refine fin_frz TT ?_ rfl
  rfl
theorem c156 : Con P 156 [] [T0.av, .int .i64 0, .int .i64 0] (.bool true) [] := by
  refine go Tryz.func156 (by rfl) rfl rfl rfl fun hl => ?_
  refine W0 ?_
  refine R0 ?_
  refine ⟨_, _, c204, ?_⟩
  refine R0 ?_
  refine ⟨_, _, c43 [0] 0, ?_⟩
  refine R0 ?_
  refine fin_frz TT ?_ rfl
  rfl
theorem c97 : Con P 97 [] [T0.av, .int .i64 0, .int .i64 0, .int .i64 0] (.bool true) [] := by
  refine go Tryz.func97 (by rfl) rfl rfl rfl fun hl => ?_
  refine W0 ?_
  refine R0 ?_
  refine ⟨_, _, con_frz rfl rfl rfl c155, ?_⟩
  refine R0 ?_
  refine ⟨_, _, c156, ?_⟩
  refine R0 ?_
  refine ⟨_, _, c156, ?_⟩
  refine R0 ?_
  refine fin_frz TT ?_ rfl
  rfl
def g1 : Graph := ⟨[0], []⟩
def g2 : Graph := ⟨[0, 0], []⟩
theorem c93a : Con P 93 [] [T0.av, g1.av] (.bool true) [] := by
  refine go Tryz.func93 (by rfl) rfl rfl rfl fun hl => ?_
  refine W0 ?_
  refine R0 ?_
  refine ⟨_, _, c92, ?_⟩
  refine R0 ?_
  refine ⟨_, _, con_frz rfl rfl rfl (c102b T0.cs g1.cs [] 154 (fun _ => false) (fun x hx => by cases hx)), ?_⟩
  refine R0 ?_
  refine fin_frz TT ?_ rfl
  rfl
theorem c93b : Con P 93 [] [T0.av, g2.av] (.bool true) [] := by
  refine go Tryz.func93 (by rfl) rfl rfl rfl fun hl => ?_
  refine W0 ?_
  refine R0 ?_
  refine ⟨_, _, c92, ?_⟩
  refine R0 ?_
  refine ⟨_, _, c92, ?_⟩
  refine R0 ?_
  refine ⟨_, _, con_frz rfl rfl rfl (c102b T0.cs g2.cs [] 154 (fun _ => false) (fun x hx => by cases hx)), ?_⟩
  refine R0 ?_
  refine fin_frz TT ?_ rfl
  rfl
def p1 : Pat := ⟨g1, [], 0, []⟩
def p2 : Pat := ⟨g2, [], 0, []⟩
def m0 : Mor := ⟨[0], []⟩
/-- The rule of the example: it deletes a node. -/
def D0 : Rule := ⟨⟨#[]⟩, p2, p1, m0, m0, true, .zero⟩
theorem D0_fine : D0.fine := by unfold Rule.fine; decide
theorem D0_strc : strc D0 = 0 := by decide
theorem c41 : Con P 41 [] [T0.av, D0.av] (.int .i64 0) [] := by
  refine go Tryz.func41 (by rfl) rfl rfl rfl fun hl => ?_
  refine W0 ?_
  refine R0 ?_
  refine ⟨_, _, c68, ?_⟩
  refine R0 ?_
  refine ⟨_, _, c62 D0 D0_fine, ?_⟩
  rw [D0_strc]
  refine R0 ?_
  refine ⟨_, _, c92, ?_⟩
  refine R0 ?_
  refine ⟨_, _, c93b, ?_⟩
  refine R0 ?_
  refine ⟨_, _, c93a, ?_⟩
  refine R0 ?_
  refine fin_frz TT ?_ rfl
  rfl
end Go.Av.Z

/- The example: what can be applied. -/
namespace Go.Av.Z
open Go.Proofs

theorem c94a : Con P 94 [] [.int .i64 2] (.slice 1 (nums [0, 1])) [] := by
  refine go Tryz.func94 (by rfl) rfl rfl rfl fun hl => ?_
  refine W0 ?_
  refine R0 ?_
  refine fin_frz TT ?_ rfl
  rfl
theorem c94b : Con P 94 [] [.int .i64 0] (.slice 1 (nums [])) [] := by
  refine go Tryz.func94 (by rfl) rfl rfl rfl fun hl => ?_
  refine W0 ?_
  refine R0 ?_
  refine fin_frz TT ?_ rfl
  rfl
theorem g2_val : gval g2 = 0 := by decide
def i2 : Mor := ⟨[0, 1], []⟩
theorem c42 : Con P 42 [] [g2.av] (.tuple [i2.av, .int .i64 0]) [] := by
  refine go Tryz.func42 (by rfl) rfl rfl rfl fun hl => ?_
  refine W0 ?_
  refine R0 ?_
  refine ⟨_, _, c45 g2, ?_⟩
  rw [g2_val]
  refine R0 ?_
  refine ⟨_, _, c94a, ?_⟩
  refine R0 ?_
  refine ⟨_, _, c94b, ?_⟩
  refine R0 ?_
  refine fin_frz TT ?_ rfl
  rfl

/-- The edge that is added: a node's, ahead or behind. -/
def eAt (out : Bool) (i : Int) : Edge := bif out then ⟨0, 1, i⟩ else ⟨0, i, 1⟩
def gAt (out : Bool) (i : Int) (ns : List Int) : Graph := ⟨ns, [eAt out i]⟩
def grs (l : List Graph) : List (List AV) := l.map Graph.cs
theorem c96 (out : Bool) (i : Int) (ns : List Int) (h : (out, i, ns) ∈ [(true, 0, [0, 0]), (true, 1, [0, 0]), (true, 2, [0, 0, 0]), (false, 0, [0, 0]), (false, 2, [0, 0, 0])]) (gs : List (List AV)) (hg : gs.length ≤ 100) :
    Con P 96 [.row 3 1 (nums ns), .box 3 [.int .i64 0], .box 3 [.int .i64 1], .box 4 [.bool out], .box 25 T0.cs, .box 100 [.ref 7], .box 29 g2.cs, .row 29 2 gs] [.int .i64 i, .ref 0, .bptr 1 0, .bptr 2 0, .bptr 3 0, .bptr 4 0, .bptr 5 0, .bptr 6 0] (.tuple [])
      [.frz (.slice 1 (nums ns)), .box 3 [.int .i64 0], .box 3 [.int .i64 1], .box 4 [.bool out], .box 25 T0.cs, .box 100 [.ref 8], .box 29 g2.cs, .dead, .row 29 2 (gs ++ [(gAt out i ns).cs])] := by
  simp only [List.mem_cons, Prod.mk.injEq, List.not_mem_nil, or_false] at h
  rcases h with ⟨rfl, rfl, rfl⟩ | ⟨rfl, rfl, rfl⟩ | ⟨rfl, rfl, rfl⟩ | ⟨rfl, rfl, rfl⟩ | ⟨rfl, rfl, rfl⟩
  all_goals
    refine go Tryz.func96 (by rfl) rfl rfl rfl fun hl => ?_
    refine W0 ?_
    refine R0 ?_
    try (refine ⟨by kernel_rfl, ?_⟩; refine R0 ?_)
    refine ⟨_, _, c97, ?_⟩
    refine R0 ?_
    refine ⟨by kernel_rfl, ?_⟩
    refine R0 ?_
    refine ⟨_, _, c98 [] (by decide), ?_⟩
    refine R0 ?_
    refine ⟨by show (gs.length + 1) * 48 ≤ _; omega, ?_⟩
    refine R0 ?_
    refine ⟨by kernel_rfl, ?_⟩
    refine R0 ?_
    exact le_of [0, 1, 2, 3, 4, 5, 6, 7, 15] rfl rfl rfl ⟨rfl, trivial⟩ ⟨rfl, rfl, rfl, rfl, rfl, rfl, rfl, rfl, rfl, trivial⟩
end Go.Av.Z

/- The example: the larger graphs. -/
namespace Go.Av.Z
open Go.Proofs

def Gt : List Graph := [gAt true 0 [0, 0], gAt true 1 [0, 0], gAt true 2 [0, 0, 0]]
def Gf : List Graph := [gAt false 0 [0, 0], gAt false 2 [0, 0, 0]]
theorem c44t : Con P 44 [] [T0.av, g2.av, .int .i64 1, .int .i64 0, .bool true] (.ref 0) [.row 29 2 (grs Gt)] := by
  refine go Tryz.func44 (by rfl) rfl rfl rfl fun hl => ?_
  refine W0 ?_
  refine R0 ?_
  refine ⟨_, _, c46 [0, 0] (by decide), ?_⟩
  refine R0 ?_
  refine ⟨_, _, c96 true 0 [0, 0] (by simp) [] (by decide), ?_⟩
  refine R0 ?_
  refine ⟨_, _, c46 [0, 0] (by decide), ?_⟩
  refine R0 ?_
  refine ⟨_, _, c96 true 1 [0, 0] (by simp) _ (by decide), ?_⟩
  refine R0 ?_
  refine ⟨_, _, c92, ?_⟩
  refine R0 ?_
  refine ⟨_, _, c46 [0, 0] (by decide), ?_⟩
  refine R0 ?_
  refine ⟨_, _, c96 true 2 [0, 0, 0] (by simp) _ (by decide), ?_⟩
  refine R0 ?_
  exact le_of [21] rfl rfl rfl ⟨rfl, trivial⟩ ⟨rfl, trivial⟩
theorem c44f : Con P 44 [] [T0.av, g2.av, .int .i64 1, .int .i64 0, .bool false] (.ref 0) [.row 29 2 (grs Gf)] := by
  refine go Tryz.func44 (by rfl) rfl rfl rfl fun hl => ?_
  refine W0 ?_
  refine R0 ?_
  refine ⟨_, _, c46 [0, 0] (by decide), ?_⟩
  refine R0 ?_
  refine ⟨_, _, c96 false 0 [0, 0] (by simp) [] (by decide), ?_⟩
  refine R0 ?_
  refine ⟨_, _, c92, ?_⟩
  refine R0 ?_
  refine ⟨_, _, c46 [0, 0] (by decide), ?_⟩
  refine R0 ?_
  refine ⟨_, _, c96 false 2 [0, 0, 0] (by simp) _ (by decide), ?_⟩
  refine R0 ?_
  first
  | exact le_of [17] rfl rfl rfl ⟨rfl, trivial⟩ ⟨rfl, trivial⟩
  | exact le_of [16] rfl rfl rfl ⟨rfl, trivial⟩ ⟨rfl, trivial⟩
  | exact le_of [15] rfl rfl rfl ⟨rfl, trivial⟩ ⟨rfl, trivial⟩
  | exact le_of [14] rfl rfl rfl ⟨rfl, trivial⟩ ⟨rfl, trivial⟩
  | exact le_of [18] rfl rfl rfl ⟨rfl, trivial⟩ ⟨rfl, trivial⟩
  | exact le_of [19] rfl rfl rfl ⟨rfl, trivial⟩ ⟨rfl, trivial⟩
end Go.Av.Z

/- The example: Applicable. -/
namespace Go.Av.Z
open Go.Proofs

theorem con_args {f : FuncId} {M M' : List Blk} {args args' : List AV} {r : AV} (e : args = args') (c : Con P f M args' r M') : Con P f M args r M' := e ▸ c
theorem gv1 : gval (gAt true 0 [0, 0]) = 0 := by decide
theorem gv2 : gval (gAt true 1 [0, 0]) = 0 := by decide
theorem gv3 : gval (gAt true 2 [0, 0, 0]) = 0 := by decide
theorem gv4 : gval (gAt false 0 [0, 0]) = 0 := by decide
theorem gv5 : gval (gAt false 2 [0, 0, 0]) = 0 := by decide
/-- 'Not: there is the graph'. -/
def kid (g : Graph) : Cond := .mk 2 [.mk 5 [cyes] i2 ⟨g, [], 0, []⟩] ⟨[], []⟩ ⟨⟨[], []⟩, [], 0, []⟩
def C5 : Cond := .mk 3 ((Gt ++ Gf).map kid) ⟨[], []⟩ ⟨⟨[], []⟩, [], 0, []⟩
theorem C5_val : cval g2 C5 = 0 := by decide
theorem c14 : Con P 14 [] [T0.av, D0.av] (.tuple [C5.av, .int .i64 0]) [] := by
  refine go Tryz.func14 (by rfl) rfl rfl rfl fun hl => ?_
  refine W0 ?_
  refine R0 ?_
  refine ⟨_, _, c41, ?_⟩
  refine R0 ?_
  refine ⟨_, _, c42, ?_⟩
  refine R0 ?_
  refine ⟨_, _, c43 [0] 0, ?_⟩
  refine R0 ?_
  refine ⟨_, _, c43 [0] 1, ?_⟩
  refine R0 ?_
  refine ⟨_, _, c44t, ?_⟩
  refine R0 ?_
  refine ⟨_, _, c44f, ?_⟩
  refine R0 ?_
  refine ⟨_, _, c45 (gAt true 0 [0, 0]), ?_⟩
  refine R0 ?_
  refine ⟨_, _, c46 [0, 1] (by decide), ?_⟩
  refine R0 ?_
  refine ⟨_, _, c46 [] (by decide), ?_⟩
  refine R0 ?_
  refine ⟨_, _, c47, ?_⟩
  refine R0 ?_
  refine ⟨_, _, c45 (gAt true 1 [0, 0]), ?_⟩
  refine R0 ?_
  refine ⟨_, _, c46 [0, 1] (by decide), ?_⟩
  refine R0 ?_
  refine ⟨_, _, c46 [] (by decide), ?_⟩
  refine R0 ?_
  refine ⟨_, _, c47, ?_⟩
  refine R0 ?_
  refine ⟨_, _, c45 (gAt true 2 [0, 0, 0]), ?_⟩
  refine R0 ?_
  refine ⟨_, _, c46 [0, 1] (by decide), ?_⟩
  refine R0 ?_
  refine ⟨_, _, c46 [] (by decide), ?_⟩
  refine R0 ?_
  refine ⟨_, _, c47, ?_⟩
  refine R0 ?_
  refine ⟨_, _, c45 (gAt false 0 [0, 0]), ?_⟩
  refine R0 ?_
  refine ⟨_, _, c46 [0, 1] (by decide), ?_⟩
  refine R0 ?_
  refine ⟨_, _, c46 [] (by decide), ?_⟩
  refine R0 ?_
  refine ⟨_, _, c47, ?_⟩
  refine R0 ?_
  refine ⟨_, _, c45 (gAt false 2 [0, 0, 0]), ?_⟩
  refine R0 ?_
  refine ⟨_, _, c46 [0, 1] (by decide), ?_⟩
  refine R0 ?_
  refine ⟨_, _, c46 [] (by decide), ?_⟩
  refine R0 ?_
  refine ⟨_, _, c47, ?_⟩
  refine R0 ?_
  refine ⟨.int .i64 0, _, con_frz rfl rfl rfl (con_args (args' := [g2.av, C5.av]) (by kernel_rfl) (C5_val ▸ c48 g2 C5)), ?_⟩
  refine R0 ?_
  refine fin_frz TT ?_ rfl
  kernel_rfl
end Go.Av.Z

/- The example. -/
namespace Go.Av.Z
open Go.Proofs

theorem c31a : Con P 31 [] [.int .i64 2] g2.av [] := by
  refine go Tryz.func31 (by rfl) rfl rfl rfl fun hl => ?_
  refine W0 ?_
  refine R0 ?_
  refine fin_frz TT ?_ rfl
  rfl
theorem c31b : Con P 31 [] [.int .i64 1] g1.av [] := by
  refine go Tryz.func31 (by rfl) rfl rfl rfl fun hl => ?_
  refine W0 ?_
  refine R0 ?_
  refine fin_frz TT ?_ rfl
  rfl
theorem c32 : Con P 32 [] [] D0.av [] := by
  refine go Tryz.func32 (by rfl) rfl rfl rfl fun hl => ?_
  refine W0 ?_
  refine R0 ?_
  refine ⟨_, _, c31a, ?_⟩
  refine R0 ?_
  refine ⟨_, _, c31b, ?_⟩
  refine R0 ?_
  refine fin_frz TT ?_ rfl
  kernel_rfl
def C0 : Cond := .mk 5 [cyes] m0 p2
theorem C0_kb : kb C0 := (kb_iff _).2 ⟨by decide, fun x hx => by
  have : x = cyes := by simpa [C0, Cond.kids] using hx
  subst this
  exact (kb_iff _).2 ⟨by decide, fun x hx => by simp [cyes, Cond.kids] at hx⟩⟩
theorem kpt0 : kpt m0 = m0 := by simp [kpt, srt, m0]
def z0 : Mor := cpart g1 g2 m0 m0
def s0 : Span := ⟨ext g2 m0, g2, ext g2 z0, m0, gmor m0 m0 z0⟩
theorem s0_eq : sOf g2 g1 g2 m0 m0 m0 = s0 := by unfold sOf zOf; rw [kpt0]; rfl
theorem s0_err : poErr s0 = 0 := by decide
theorem trn_yes (y x : Graph) (k i : Mor) : trn y x k i cyes = (cyes, 0) := by
  unfold cyes
  rw [trn, if_neg (by decide), trns, if_neg (by decide)]
def L0 : Cond := .mk 5 [cyes] (poL s0) ⟨poG s0, [], 0, []⟩
theorem trn0 : trn g2 g1 m0 m0 C0 = (L0, 0) := by
  have h1 : ¬ (cerr g1 g2 m0 m0 ≠ 0) := by decide
  unfold C0
  rw [trn, if_pos (by decide), kpt0]
  show (if cerr g1 g2 m0 m0 ≠ 0 then _ else if poErr (sOf g2 g1 g2 m0 m0 m0) ≠ 0 then _ else trnK (poL (sOf g2 g1 g2 m0 m0 m0)) (poG (sOf g2 g1 g2 m0 m0 m0)) _ _ _ _) = _
  rw [if_neg h1, s0_eq, if_neg (by rw [s0_err]; decide), trnK, trn_yes, if_neg (by decide)]
  rfl
theorem L0_lrg : lrg L0 = 0 := by decide
theorem L0_nodes : L0.pat.graph.nodes.length = 3 := by decide
theorem lft0 : lft D0 C0 = (L0, 0) := by
  have h2 : cval g1 C0 = 0 := by decide
  rw [lft, if_neg (by rw [D0_strc]; decide)]
  show mvd g2 g1 m0 m0 C0 = _
  rw [mvd, h2, trn0]
  show (if (0 : Int) ≠ 0 then _ else if (0 : Int) ≠ 0 then _ else if lrg L0 ≠ 0 then _ else _) = _
  rw [L0_lrg]
  rfl
theorem c10 : Con P 10 [] [] (.bool true) [] := by
  have h7 := c25 D0 C0 D0_fine C0_kb
  rw [lft0] at h7
  refine go Tryz.func10 (by rfl) rfl rfl rfl fun hl => ?_
  refine W0 ?_
  refine R0 ?_
  refine ⟨_, _, c31a, ?_⟩
  refine R0 ?_
  refine ⟨_, _, c32, ?_⟩
  refine R0 ?_
  refine ⟨.tuple [L0.av, .int .i64 0], _, con_frz rfl rfl rfl (con_args (args' := [D0.av, C0.av]) (by kernel_rfl) h7), ?_⟩
  refine R0 ?_
  refine ⟨_, _, c32, ?_⟩
  refine R0 ?_
  refine ⟨.tuple [C5.av, .int .i64 0], _, con_frz rfl rfl rfl (con_args (args' := [T0.av, D0.av]) (by kernel_rfl) c14), ?_⟩
  refine R0 ?_
  refine fin_frz TT ?_ rfl
  kernel_rfl
end Go.Av.Z

/- The statement: for every rule and condition of bulk at most 1048576 the law of Right answers true, and its arguments read behind the call as before. -/
namespace Go.Proofs.YtaabmnpedhggoaaGreat
theorem transport_right : Rows.TransportRightUptoSaid := Go.Av.Z.TransportRight.over (Go.Av.Z.tLawRight Go.Av.Z.c10)
end Go.Proofs.YtaabmnpedhggoaaGreat
