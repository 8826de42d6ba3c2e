/- Part 4 of 5 of a proof: the logic Av, contracts of functions. -/
import Derived.Test.YtaabmnpedhggoaaGreatAvC
set_option linter.unusedVariables false
set_option maxRecDepth 100000
/- The plain law of one step of the transport. -/
namespace Go.Av.Z

/-- A span of a structural rule: left and right graph, what is kept, where it goes. -/
structure Inv (l r : Graph) (k i : Mor) : Prop where
  kp : pval l k = 0
  im : mval (ext l k) r i = 0
  n1 : i.nodes.Nodup
  n2 : i.edges.Nodup
def gmor (i m z : Mor) : Mor := ⟨(i.nodes.map (at0 m.nodes)).map (plc z.nodes), (i.edges.map (at0 m.edges)).map (plc z.edges)⟩
/-- What a step of the transport wants. -/
structure Stp (l r x : Graph) (k i m : Mor) : Prop where
  inv : Inv l r k i
  mm : mval r x m = 0
  m1 : m.nodes.Nodup
  m2 : m.edges.Nodup
def zOf (r x : Graph) (i m : Mor) : Mor := cpart r x (kpt i) m
def sOf (l r x : Graph) (k i m : Mor) : Span := ⟨ext l k, l, ext x (zOf r x i m), k, gmor i m (zOf r x i m)⟩
section
variable {l r x : Graph} {k i m : Mor}
theorem Stp.cmp (h : Stp l r x k i m) : Cmp r x (kpt i) m := ⟨h.mm, h.m1, h.m2, pval_img h.inv.im h.inv.n1 h.inv.n2⟩
end
/-- An injective morphism from a part, turned around. -/
theorem Inv.turn {x y : Graph} {z q : Mor} (hz : pval x z = 0) (hq : mval (ext x z) y q = 0) (q1 : q.nodes.Nodup) (q2 : q.edges.Nodup) : Inv y x (kpt q) (kin q z) := by
  obtain ⟨zn, ze⟩ := pval_nd hz
  have hx := (pval_ok hz).1
  have bz1 := (aval_ok (pval_ok hz).2.1).1
  have bz2 := (aval_ok (pval_ok hz).2.2.1).1
  obtain ⟨e1, e2⟩ := ext_len x z
  have lq := mval_ok hq
  have hpv := pval_img hq q1 q2
  have ly := ext_len y (kpt q)
  have kl1 : (kpt q).nodes.length = q.nodes.length := srt_len _
  have kl2 : (kpt q).edges.length = q.edges.length := srt_len _
  have il1 : (kin q z).nodes.length = q.nodes.length := by simp [kin, srt_len]
  have il2 : (kin q z).edges.length = q.edges.length := by simp [kin, srt_len]
  have gn : ∀ j, j < q.nodes.length → ∃ t, t < q.nodes.length ∧ gt (kpt q).nodes j = gt q.nodes t ∧ gt (kin q z).nodes j = gt z.nodes t ∧ plc q.nodes (gt (kpt q).nodes j) = t := by
    intro j hj
    have hm : gt (kpt q).nodes j ∈ q.nodes := srt_mem.1 (gt_mem (by omega : j < (kpt q).nodes.length))
    obtain ⟨p1, p2, p3⟩ := plc_mem q1 hm
    refine ⟨(plc q.nodes (gt (kpt q).nodes j)).toNat, by omega, p3.symm, ?_, by omega⟩
    show gt ((srt q.nodes).map (ledTo q.nodes z.nodes)) j = _
    rw [gt_map (by rw [srt_len]; exact hj)]; rfl
  have ge : ∀ j, j < q.edges.length → ∃ t, t < q.edges.length ∧ gt (kpt q).edges j = gt q.edges t ∧ gt (kin q z).edges j = gt z.edges t ∧ plc q.edges (gt (kpt q).edges j) = t := by
    intro j hj
    have hm : gt (kpt q).edges j ∈ q.edges := srt_mem.1 (gt_mem (by omega : j < (kpt q).edges.length))
    obtain ⟨p1, p2, p3⟩ := plc_mem q2 hm
    refine ⟨(plc q.edges (gt (kpt q).edges j)).toNat, by omega, p3.symm, ?_, by omega⟩
    show gt ((srt q.edges).map (ledTo q.edges z.edges)) j = _
    rw [gt_map (by rw [srt_len]; exact hj)]; rfl
  -- where the node q t of y goes
  have lead : ∀ t : Nat, t < q.nodes.length → at0 (kin q z).nodes (plc (kpt q).nodes (gt q.nodes t)) = gt z.nodes t := by
    intro t ht
    have hm : gt q.nodes t ∈ (kpt q).nodes := srt_mem.2 (gt_mem ht)
    obtain ⟨p1, p2, p3⟩ := plc_mem (pval_nd hpv).1 hm
    obtain ⟨t', ht', a1, a2, a3⟩ := gn (plc (kpt q).nodes (gt q.nodes t)).toNat (by omega)
    rw [gt_at0, a2]
    rw [p3] at a1
    rw [gt_inj q1 ht ht' a1]
  refine ⟨hpv, mval_mk (gval_ext hpv) hx (by omega) (by omega) ?_ ?_, ?_, ?_⟩
  · intro j hj
    obtain ⟨t, ht, a1, a2, a3⟩ := gn j (by omega)
    have hb := bz1 _ (gt_mem (by omega : t < z.nodes.length))
    rw [a2]
    refine ⟨hb.1, hb.2, ?_⟩
    rw [ext_node (by omega), a1, mval_nt hq (by omega), ext_node (by omega)]
  · intro j hj
    obtain ⟨t, ht, a1, a2, a3⟩ := ge j (by omega)
    have hb := bz2 _ (gt_mem (by omega : t < z.edges.length))
    have te := mval_et hq (j := t) (by omega)
    rw [ext_edge (by omega)] at te
    obtain ⟨m1, m2⟩ := pval_edge hz _ (gt_mem (by omega : t < z.edges.length))
    obtain ⟨s1, s2, s3⟩ := plc_mem zn m1
    obtain ⟨d1, d2, d3⟩ := plc_mem zn m2
    rw [ext_edge (by omega), a2, a1]
    simp only [extE] at te ⊢
    refine ⟨hb.1, hb.2, te.1.symm, ?_, ?_⟩
    · rw [← te.2.1, gt_at0 q.nodes, lead _ (by omega), s3]
    · rw [← te.2.2, gt_at0 q.nodes, lead _ (by omega), d3]
  · refine nodup_gt fun a b ha hb e => ?_
    obtain ⟨t, ht, a1, a2, a3⟩ := gn a (by omega)
    obtain ⟨t', ht', b1, b2, b3⟩ := gn b (by omega)
    rw [a2, b2] at e
    have := gt_inj zn (by omega) (by omega) e
    subst this
    exact gt_inj (pval_nd hpv).1 (by omega) (by omega) (by rw [a1, b1])
  · refine nodup_gt fun a b ha hb e => ?_
    obtain ⟨t, ht, a1, a2, a3⟩ := ge a (by omega)
    obtain ⟨t', ht', b1, b2, b3⟩ := ge b (by omega)
    rw [a2, b2] at e
    have := gt_inj ze (by omega) (by omega) e
    subst this
    exact gt_inj (pval_nd hpv).2 (by omega) (by omega) (by rw [a1, b1])
section
variable {l r x : Graph} {k i m : Mor}
theorem Stp.z (h : Stp l r x k i m) (he : cerr r x (kpt i) m = 0) : pval x (zOf r x i m) = 0 := h.cmp.z he
theorem Stp.vn (h : Stp l r x k i m) (he : cerr r x (kpt i) m = 0) {j : Nat} (hj : j < i.nodes.length) : gt m.nodes (gt i.nodes j).toNat ∈ (zOf r x i m).nodes := by
  have hb := mval_node h.inv.im _ (gt_mem hj)
  exact h.cmp.kn he (by omega) (by rw [Int.toNat_of_nonneg hb.1]; exact srt_mem.2 (gt_mem hj))
theorem Stp.ve (h : Stp l r x k i m) (he : cerr r x (kpt i) m = 0) {j : Nat} (hj : j < i.edges.length) : gt m.edges (gt i.edges j).toNat ∈ (zOf r x i m).edges := by
  have hb := mval_edge h.inv.im _ (gt_mem hj)
  exact h.cmp.ke he (by omega) (by rw [Int.toNat_of_nonneg hb.1]; exact srt_mem.2 (gt_mem hj))
theorem Stp.gn (h : Stp l r x k i m) (he : cerr r x (kpt i) m = 0) {j : Nat} (hj : j < i.nodes.length) : gt (gmor i m (zOf r x i m)).nodes j = plc (zOf r x i m).nodes (gt m.nodes (gt i.nodes j).toNat) := by
  unfold gmor
  simp only
  rw [gt_map (by rw [List.length_map]; exact hj), gt_map hj]; rfl
theorem Stp.ge (h : Stp l r x k i m) (he : cerr r x (kpt i) m = 0) {j : Nat} (hj : j < i.edges.length) : gt (gmor i m (zOf r x i m)).edges j = plc (zOf r x i m).edges (gt m.edges (gt i.edges j).toNat) := by
  unfold gmor
  simp only
  rw [gt_map (by rw [List.length_map]; exact hj), gt_map hj]; rfl
theorem Stp.gval' (h : Stp l r x k i m) (he : cerr r x (kpt i) m = 0) : mval (ext l k) (ext x (zOf r x i m)) (gmor i m (zOf r x i m)) = 0 := by
  have hz := h.z he
  obtain ⟨zn, ze⟩ := pval_nd hz
  obtain ⟨h1, h2, l1, l2, _⟩ := mval_ok h.inv.im
  have lm := mval_ok h.mm
  obtain ⟨e1, e2⟩ := ext_len x (zOf r x i m)
  refine mval_mk h1 (gval_ext hz) (by simp [gmor]; exact l1) (by simp [gmor]; exact l2) ?_ ?_
  · intro j hj
    have hb := mval_node h.inv.im _ (gt_mem (by omega : j < i.nodes.length))
    obtain ⟨p1, p2, p3⟩ := plc_mem zn (h.vn he (j := j) (by omega))
    rw [h.gn he (by omega)]
    refine ⟨p1, by omega, ?_⟩
    rw [ext_node (by omega), p3, mval_nt h.mm (by omega), mval_nt h.inv.im hj]
  · intro j hj
    have hb := mval_edge h.inv.im _ (gt_mem (by omega : j < i.edges.length))
    obtain ⟨p1, p2, p3⟩ := plc_mem ze (h.ve he (j := j) (by omega))
    have hv := gval_edges h1 _ (atE_mem (l := (ext l k).edges) (n := (j : Nat)) (by omega) (by omega))
    have t1 := mval_et h.inv.im hj
    have t2 := mval_et h.mm (j := (gt i.edges j).toNat) (by omega)
    rw [Int.toNat_of_nonneg hb.1] at t2
    rw [h.ge he (by omega)]
    refine ⟨p1, by omega, ?_⟩
    have e3 : atE (ext x (zOf r x i m)).edges (plc (zOf r x i m).edges (gt m.edges (gt i.edges j).toNat)) = extE x (zOf r x i m) (gt m.edges (gt i.edges j).toNat) := by
      have := ext_edge (g := x) (p := zOf r x i m) (j := (plc (zOf r x i m).edges (gt m.edges (gt i.edges j).toNat)).toNat) (by omega)
      rw [Int.toNat_of_nonneg p1] at this
      rw [this, p3]
    rw [e3]
    simp only [extE]
    refine ⟨by rw [t1.1, t2.1], ?_, ?_⟩
    · rw [gt_at0, h.gn he (by omega), ← t2.2.1, ← t1.2.1]; rfl
    · rw [gt_at0, h.gn he (by omega), ← t2.2.2, ← t1.2.2]; rfl
theorem Stp.gnd (h : Stp l r x k i m) (he : cerr r x (kpt i) m = 0) : (gmor i m (zOf r x i m)).nodes.Nodup ∧ (gmor i m (zOf r x i m)).edges.Nodup := by
  have hz := h.z he
  obtain ⟨zn, ze⟩ := pval_nd hz
  have lm := mval_ok h.mm
  have g1 : (gmor i m (zOf r x i m)).nodes.length = i.nodes.length := by simp [gmor]
  have g2 : (gmor i m (zOf r x i m)).edges.length = i.edges.length := by simp [gmor]
  constructor
  · refine nodup_gt fun a b ha hb e => ?_
    rw [h.gn he (by omega), h.gn he (by omega)] at e
    obtain ⟨p1, p2, p3⟩ := plc_mem zn (h.vn he (j := a) (by omega))
    obtain ⟨q1, q2, q3⟩ := plc_mem zn (h.vn he (j := b) (by omega))
    rw [e, q3] at p3
    have b1 := mval_node h.inv.im _ (gt_mem (by omega : a < i.nodes.length))
    have b2 := mval_node h.inv.im _ (gt_mem (by omega : b < i.nodes.length))
    have := gt_inj h.m1 (by omega) (by omega) p3
    exact gt_inj h.inv.n1 (by omega) (by omega) (by omega)
  · refine nodup_gt fun a b ha hb e => ?_
    rw [h.ge he (by omega), h.ge he (by omega)] at e
    obtain ⟨p1, p2, p3⟩ := plc_mem ze (h.ve he (j := a) (by omega))
    obtain ⟨q1, q2, q3⟩ := plc_mem ze (h.ve he (j := b) (by omega))
    rw [e, q3] at p3
    have b1 := mval_edge h.inv.im _ (gt_mem (by omega : a < i.edges.length))
    have b2 := mval_edge h.inv.im _ (gt_mem (by omega : b < i.edges.length))
    have := gt_inj h.m2 (by omega) (by omega) p3
    exact gt_inj h.inv.n2 (by omega) (by omega) (by omega)
theorem Stp.spn (h : Stp l r x k i m) (he : cerr r x (kpt i) m = 0) : Z.spn (sOf l r x k i m) = 0 := by
  unfold Z.spn sOf
  simp only
  rw [if_neg (by simp [mval_incl h.inv.kp]), h.gval' he]
theorem Stp.po (h : Stp l r x k i m) (he : cerr r x (kpt i) m = 0) (hu : uerr l (ext x (zOf r x i m)) = 0) : PoInj (sOf l r x k i m) :=
  ⟨⟨mval_incl h.inv.kp, h.gval' he, hu⟩, (pval_nd h.inv.kp).1, (pval_nd h.inv.kp).2, (h.gnd he).1, (h.gnd he).2⟩
/-- The span of what lies inside. -/
theorem Stp.next (h : Stp l r x k i m) (he : cerr r x (kpt i) m = 0) (hu : uerr l (ext x (zOf r x i m)) = 0) : Inv (poG (sOf l r x k i m)) x (kpt (poR (sOf l r x k i m))) (kin (poR (sOf l r x k i m)) (zOf r x i m)) := by
  have hp := h.po he hu
  obtain ⟨q1, q2⟩ := hp.right
  exact Inv.turn (h.z he) hp.ok.right q1 q2
end
end Go.Av.Z

/- Transport to the left. -/
set_option maxHeartbeats 4000000
namespace Go.Av.Z
open Go.Proofs

mutual
/-- A condition over the right graph, transported to the left. -/
def trn (l r : Graph) (k i : Mor) : Cond → Cond × Int
  | .mk kind kids m p =>
    if (kind == 5) = true then
      (if cerr r p.graph (kpt i) m ≠ 0 then (cno, 0)
      else if poErr (sOf l r p.graph k i m) ≠ 0 then (.zero, poErr (sOf l r p.graph k i m))
      else trnK (poL (sOf l r p.graph k i m)) (poG (sOf l r p.graph k i m)) p.graph (kpt (poR (sOf l r p.graph k i m))) (kin (poR (sOf l r p.graph k i m)) (zOf r p.graph i m)) kids)
    else (if (trns l r k i kids).2 ≠ 0 then (.zero, (trns l r k i kids).2) else (.mk kind (trns l r k i kids).1 ⟨[], []⟩ ⟨⟨[], []⟩, [], 0, []⟩, 0))
def trns (l r : Graph) (k i : Mor) : List Cond → List Cond × Int
  | [] => ([], 0)
  | c :: rest => if (trn l r k i c).2 ≠ 0 then ([], (trn l r k i c).2) else ((trn l r k i c).1 :: (trns l r k i rest).1, (trns l r k i rest).2)
def trnK (p : Mor) (y x : Graph) (k i : Mor) : List Cond → Cond × Int
  | [] => (.zero, 0)
  | c :: _ => if (trn y x k i c).2 ≠ 0 then (.zero, (trn y x k i c).2) else (.mk 5 [(trn y x k i c).1] p ⟨y, [], 0, []⟩, 0)
end
theorem trns_errs (l r : Graph) (k i : Mor) : ∀ (cs : List Cond) (n : Nat), (trns l r k i cs).2 = errs (fun _ x => (trn l r k i x).2) n cs ∧ ((trns l r k i cs).2 = 0 → (trns l r k i cs).1 = cs.map fun x => (trn l r k i x).1)
  | [], n => by rw [trns]; exact ⟨rfl, fun _ => rfl⟩
  | c :: rest, n => by
    obtain ⟨h1, h2⟩ := trns_errs l r k i rest (n + 1)
    rw [trns, errs]
    by_cases h : (trn l r k i c).2 = 0
    · rw [if_neg (by simp [h]), if_pos h]
      exact ⟨h1, fun e => by rw [List.map_cons, h2 e]⟩
    · rw [if_pos h, if_neg h]
      exact ⟨rfl, fun e => absurd e h⟩
def eL (l r : Graph) (k i : Mor) (cs : List Cond) : Int := errs (fun _ x => (trn l r k i x).2) 0 cs
theorem trn_else (l r : Graph) (k i : Mor) (c : Cond) (h : (c.kind == 5) = false) : trn l r k i c = if eL l r k i c.kids ≠ 0 then (.zero, eL l r k i c.kids) else (.mk c.kind (c.kids.map fun x => (trn l r k i x).1) ⟨[], []⟩ ⟨⟨[], []⟩, [], 0, []⟩, 0) := by
  cases c with
  | mk kind kids m p =>
    have h : (kind == 5) = false := h
    obtain ⟨h1, h2⟩ := trns_errs l r k i kids 0
    have h1 : (trns l r k i kids).2 = eL l r k i kids := h1
    rw [trn, if_neg (by simp [h]), h1]
    show (if eL l r k i kids ≠ 0 then _ else _) = if eL l r k i kids ≠ 0 then _ else _
    by_cases e : eL l r k i kids = 0
    · rw [if_neg (by simp [e]), if_neg (by simp [e]), h2 (by rw [h1, e])]; rfl
    · rw [if_pos e, if_pos e]; rfl
theorem trn_five (l r : Graph) (k i : Mor) (c y : Cond) (h : (c.kind == 5) = true) (hk : c.kids = [y]) : trn l r k i c =
    if cerr r c.pat.graph (kpt i) c.map ≠ 0 then (cno, 0)
    else if poErr (sOf l r c.pat.graph k i c.map) ≠ 0 then (.zero, poErr (sOf l r c.pat.graph k i c.map))
    else if (trn (poG (sOf l r c.pat.graph k i c.map)) c.pat.graph (kpt (poR (sOf l r c.pat.graph k i c.map))) (kin (poR (sOf l r c.pat.graph k i c.map)) (zOf r c.pat.graph i c.map)) y).2 ≠ 0 then (.zero, (trn (poG (sOf l r c.pat.graph k i c.map)) c.pat.graph (kpt (poR (sOf l r c.pat.graph k i c.map))) (kin (poR (sOf l r c.pat.graph k i c.map)) (zOf r c.pat.graph i c.map)) y).2)
    else (.mk 5 [(trn (poG (sOf l r c.pat.graph k i c.map)) c.pat.graph (kpt (poR (sOf l r c.pat.graph k i c.map))) (kin (poR (sOf l r c.pat.graph k i c.map)) (zOf r c.pat.graph i c.map)) y).1] (poL (sOf l r c.pat.graph k i c.map)) ⟨poG (sOf l r c.pat.graph k i c.map), [], 0, []⟩, 0) := by
  cases c with
  | mk kind kids m p =>
    have h' : (kind == 5) = true := h
    have hk' : kids = [y] := hk
    rw [trn, if_pos h', hk', trnK]; rfl
/-- A valid condition over a graph, an Exists. -/
theorem ovr_five {r : Graph} {c : Cond} (h : ovr r c = 0) (h5 : (c.kind == 5) = true) : (∃ y, c.kids = [y] ∧ ovr c.pat.graph y = 0) ∧ mval r c.pat.graph c.map = 0 ∧ c.map.nodes.Nodup ∧ c.map.edges.Nodup := by
  rw [ovr_eq] at h
  split at h
  · exact absurd h ‹_›
  · rename_i h1
    have h1 := Classical.not_not.1 h1
    obtain ⟨y, hy⟩ := shp_five h1 h5
    try rw [if_pos h5] at h
    split at h
    · exact absurd h ‹_›
    · split at h
      · cases h
      · rename_i h2 h3
        have h3 : minj r c.pat.graph c.map = true := by simpa using h3
        rw [hy, ovrs, ovrs] at h
        refine ⟨⟨y, hy, ?_⟩, minj_ok h3⟩
        split at h
        · exact absurd h ‹_›
        · rename_i k; exact Classical.not_not.1 k
theorem ovr_else {r : Graph} {c : Cond} (h : ovr r c = 0) (h5 : (c.kind == 5) = false) : ∀ x ∈ c.kids, ovr r x = 0 := by
  rw [ovr_eq] at h
  split at h
  · exact absurd h ‹_›
  · rw [if_neg (by simp [h5]), ovrs_errs _ _ 0] at h
    intro x hx
    obtain ⟨j, hj⟩ := List.mem_iff_getElem?.1 hx
    exact errs_off h j x hj
theorem ovr_shp {r : Graph} {c : Cond} (h : ovr r c = 0) : shp c = 0 := by
  rw [ovr_eq] at h
  split at h
  · exact absurd h ‹_›
  · rename_i k; exact Classical.not_not.1 k
/-- No condition inside has too many kids. -/
def kb (c : Cond) : Prop := c.kids.length ≤ 1048576 ∧ ∀ x, ∀ _ : x ∈ c.kids, kb x
  termination_by SizeOf.sizeOf c
  decreasing_by exact kid_lt (by assumption)
theorem kb_iff (c : Cond) : kb c ↔ c.kids.length ≤ 1048576 ∧ ∀ x ∈ c.kids, kb x := by rw [kb]
theorem cnds_app (l : List Cond) (c : Cond) : cnds (l ++ [c]) = cnds l ++ [c.cs] := by
  rw [cnds_map, cnds_map, List.map_append, List.map_singleton, Cond.el_cs]
def trV (l r : Graph) (k i : Mor) (c : Cond) : AV := .tuple [(trn l r k i c).1.av, .int .i64 (trn l r k i c).2]
theorem stp_of {l r : Graph} {k i : Mor} (hi : Inv l r k i) {c : Cond} (h : ovr r c = 0) (h5 : (c.kind == 5) = true) : Stp l r c.pat.graph k i c.map := by
  obtain ⟨_, h1, h2, h3⟩ := ovr_five h h5
  exact ⟨hi, h1, h2, h3⟩
theorem inv_len {l r : Graph} {k i : Mor} (h : Inv l r k i) : i.nodes.length ≤ 40 ∧ i.edges.length ≤ 80 := by
  have := mval_len h.im; omega

theorem cnds_one (t : Cond) : cnds [t] = [t.cs] := by rw [cnds, cnds, Cond.el_cs]
theorem mkE (t : Cond) (p : Mor) (y : Graph) : (Cond.mk 5 [t] p ⟨y, [], 0, []⟩).av = .agg [.int .i64 5, .slice 9 [t.cs], .slice 1 (nums p.nodes), .slice 1 (nums p.edges), .slice 1 (nums y.nodes), .slice 3 (edgs y.edges), .slice 4 [], .int .i64 0, .slice 5 []] := by
  show AV.agg [.int .i64 5, .slice 9 (cnds [t]), .slice 1 (nums p.nodes), .slice 1 (nums p.edges), .slice 1 (nums y.nodes), .slice 3 (edgs y.edges), .slice 4 [], .int .i64 0, .slice 5 []] = _
  rw [cnds_one]
theorem m80 (l r : Graph) (k i : Mor) (c y : Cond) (hi : Inv l r k i) (ho : ovr r c = 0) (h5 : (c.kind == 5) = true) (hy : c.kids = [y])
    (ih : ∀ (l r : Graph) (k i : Mor), Inv l r k i → ovr r y = 0 → Con P 118 [] [.agg (glu l r k i), y.av] (trV l r k i y) []) : Con P 172 [] [.agg (glu l r k i), c.av] (trV l r k i c) [] := by
  obtain ⟨⟨y', hy', hoy⟩, hm, hm1, hm2⟩ := ovr_five ho h5
  rw [hy] at hy'
  obtain rfl : y = y' := by simpa using hy'
  have hy0 : c.kids[0]? = some y := by rw [hy]; rfl
  have hs := stp_of hi ho h5
  have li := inv_len hi
  have e5 := trn_five l r k i c y h5 hy
  unfold trV
  refine go Tryz.func172 (by rfl) rfl rfl rfl fun hl => ?_
  refine W0 ?_
  refine ⟨_, _, c119 i.nodes (by omega), ?_⟩
  refine W0 ?_
  refine ⟨_, _, c119 i.edges (by omega), ?_⟩
  refine W0 ?_
  refine ⟨_, _, c75 r c.pat.graph (kpt i) c.map, ?_⟩
  refine W0 ?_
  refine ⟨by kernel_rfl, ?_⟩
  refine W0 ?_
  refine ⟨fun h => ?_, fun h => ?_⟩
  · have h : cerr r c.pat.graph (kpt i) c.map ≠ 0 := by simpa using h
    rw [if_pos h] at e5
    refine W0 ?_
    refine ⟨_, _, c127, ?_⟩
    refine W0 ?_
    refine fin_frz TT ?_ rfl
    rw [e5]; rfl
  have he : cerr r c.pat.graph (kpt i) c.map = 0 := by simpa using h
  rw [if_neg (by simp [he])] at e5
  have hz := hs.z he
  have hzl := gval_len (gval_ext hz)
  have hmi := mval_ok hi.im
  have hmm := mval_ok hm
  have hnd := hs.gnd he
  refine W0 ?_
  refine ⟨_, _, c117 c.pat.graph (zOf r c.pat.graph i c.map) hz, ?_⟩
  refine W0 ?_
  refine ⟨_, _, c117 l k hi.kp, ?_⟩
  refine W0 ?_
  refine ⟨_, _, c215 c.map.nodes i.nodes (by omega) (fun v hv => by have := mval_node hi.im v hv; omega), ?_⟩
  refine W0 ?_
  refine ⟨_, _, c214 (zOf r c.pat.graph i c.map).nodes (i.nodes.map (at0 c.map.nodes)) (by rw [List.length_map]; omega), ?_⟩
  refine W0 ?_
  refine ⟨_, _, c215 c.map.edges i.edges (by omega) (fun v hv => by have := mval_edge hi.im v hv; omega), ?_⟩
  refine W0 ?_
  refine ⟨_, _, c214 (zOf r c.pat.graph i c.map).edges (i.edges.map (at0 c.map.edges)) (by rw [List.length_map]; omega), ?_⟩
  refine W0 ?_
  refine ⟨by kernel_rfl, ?_⟩
  refine W0 ?_
  refine ⟨_, _, c79 (sOf l r c.pat.graph k i c.map), ?_⟩
  by_cases hp : poErr (sOf l r c.pat.graph k i c.map) = 0
  · rw [if_neg (by simp [hp])] at e5
    have hu : uerr l (ext c.pat.graph (zOf r c.pat.graph i c.map)) = 0 := (poErr_ok hp).u
    have hn := hs.next he hu
    have hpo := hs.po he hu
    have hq := hpo.ok.right
    have lq := mval_len hq
    have nq := hpo.right
    rw [poV, if_pos hp]
    refine W0 ?_
    refine ⟨_, _, c119 (poR (sOf l r c.pat.graph k i c.map)).nodes (by omega), ?_⟩
    refine W0 ?_
    refine ⟨_, _, c119 (poR (sOf l r c.pat.graph k i c.map)).edges (by omega), ?_⟩
    refine W0 ?_
    refine ⟨by kernel_rfl, ?_⟩
    refine W0 ?_
    have lz := ext_len c.pat.graph (zOf r c.pat.graph i c.map)
    have lq2 : (poR (sOf l r c.pat.graph k i c.map)).nodes.length = (ext c.pat.graph (zOf r c.pat.graph i c.map)).nodes.length ∧ (poR (sOf l r c.pat.graph k i c.map)).edges.length = (ext c.pat.graph (zOf r c.pat.graph i c.map)).edges.length := ⟨(mval_ok hq).2.2.1, (mval_ok hq).2.2.2.1⟩
    refine ⟨_, _, c120 (srt (poR (sOf l r c.pat.graph k i c.map)).nodes) (poR (sOf l r c.pat.graph k i c.map)).nodes (zOf r c.pat.graph i c.map).nodes (by rw [srt_len]; omega) (fun v hv => by have := plc_mem nq.1 (srt_mem.1 hv); omega), ?_⟩
    refine W0 ?_
    refine ⟨_, _, c120 (srt (poR (sOf l r c.pat.graph k i c.map)).edges) (poR (sOf l r c.pat.graph k i c.map)).edges (zOf r c.pat.graph i c.map).edges (by rw [srt_len]; omega) (fun v hv => by have := plc_mem nq.2 (srt_mem.1 hv); omega), ?_⟩
    refine W0 ?_
    refine ⟨by kernel_rfl, ?_⟩
    refine W0 ?_
    refine ⟨by omega, _, cnds_at hy0, ?_⟩
    refine W0 ?_
    refine ⟨_, _, ih _ _ _ _ hn hoy, ?_⟩
    refine W0 ?_
    refine ⟨by kernel_rfl, ?_⟩
    refine W0 ?_
    refine ⟨fun h => ?_, fun h => ?_⟩
    · rw [if_pos (by simpa using h)] at e5
      refine W0 ?_
      refine fin_frz TT ?_ rfl
      rw [e5]; rfl
    · rw [if_neg (by simpa using h)] at e5
      refine W0 ?_
      refine fin_frz TT ?_ rfl
      rw [e5]
      show _ = AV.tuple [(Cond.mk 5 [_] _ ⟨_, [], 0, []⟩).av, .int .i64 0]
      rw [mkE]; rfl
  · rw [if_pos hp] at e5
    rw [poV, if_neg hp]
    refine W0 ?_
    refine ⟨fun _ => ?_, fun h => absurd h (by simpa using hp)⟩
    refine W0 ?_
    refine fin_frz TT ?_ rfl
    rw [e5]; rfl
end Go.Av.Z

/- Transport to the left, on. -/
set_option maxHeartbeats 4000000
namespace Go.Av.Z
open Go.Proofs

def trF (l r : Graph) (k i : Mor) (x : Cond) : Cond := (trn l r k i x).1
theorem m42 (l r : Graph) (k i : Mor) (c : Cond) (hi : Inv l r k i) (ho : ovr r c = 0) (hk : kb c)
    (ih : ∀ x ∈ c.kids, ∀ (l r : Graph) (k i : Mor), Inv l r k i → ovr r x = 0 → Con P 118 [] [.agg (glu l r k i), x.av] (trV l r k i x) []) : Con P 118 [] [.agg (glu l r k i), c.av] (trV l r k i c) [] := by
  have hkl := ((kb_iff c).1 hk).1
  by_cases h5 : (c.kind == 5) = true
  · obtain ⟨⟨y, hy, hoy⟩, _⟩ := ovr_five ho h5
    have c172 := m80 l r k i c y hi ho h5 hy (fun l r k i => ih y (by rw [hy]; exact List.mem_singleton.2 rfl) l r k i)
    unfold trV at c172 ⊢
    refine go Tryz.func118 (by rfl) rfl rfl rfl fun hl => ?_
    refine W0 ?_
    refine ⟨fun _ => ?_, fun h => absurd h (by rw [h5]; simp)⟩
    refine W0 ?_
    refine ⟨_, _, c172, ?_⟩
    refine W0 ?_
    refine fin_frz TT ?_ rfl
    rfl
  · have h5 : (c.kind == 5) = false := by simpa using h5
    have hok := ovr_else ho h5
    have e := trn_else l r k i c h5
    unfold trV
    refine go Tryz.func118 (by rfl) rfl rfl rfl fun hl => ?_
    refine W0 ?_
    refine ⟨fun h => absurd h (by rw [h5]; simp), fun _ => ?_⟩
    refine W0 ?_
    rw [cnds_len]
    refine loop (fun n : Nat => mkSt [(25, .int .i64 n), (24, .int .i64 c.kids.length), (23, .slice 9 (cnds c.kids)), (6, .bptr 10 0), (2, .bptr 0 0), (3, .bptr 1 0), (4, .bptr 2 0)] [.box 125 (glu l r k i), .box 39 c.cs, .box 39 [.int .i64 0, .ref 3, .ref 4, .ref 5, .ref 6, .ref 7, .ref 8, .int .i64 0, .ref 9], .row 39 9 [], .row 3 1 [], .row 3 1 [], .row 3 1 [], .row 133 3 [], .row 117 4 [], .row 119 5 [], .box 39 [.int .i64 c.kind, .ref 11, .ref 12, .ref 13, .ref 14, .ref 15, .ref 16, .int .i64 0, .ref 17], .row 39 9 (cnds ((c.kids.take n).map (trF l r k i))), .row 3 1 [], .row 3 1 [], .row 3 1 [], .row 133 3 [], .row 117 4 [], .row 119 5 []])
        (fun n => n ≤ c.kids.length ∧ ∀ j y, j < n → c.kids[j]? = some y → (trn l r k i y).2 = 0) (fun n => c.kids.length - n) 0 ⟨Nat.zero_le _, fun j y h => by omega⟩
      (le_of [0, 1, 2, 3, 4, 5, 6, 7, 8, 9, 10, 18, 19, 20, 21, 22, 23, 24] rfl rfl rfl ⟨rfl, rfl, rfl, rfl, rfl, rfl, rfl, trivial⟩ ⟨rfl, rfl, rfl, rfl, rfl, rfl, rfl, rfl, rfl, rfl, rfl, rfl, rfl, rfl, rfl, rfl, rfl, rfl, trivial⟩) ?_
    rintro n ⟨hn, hno⟩
    refine W0 ?_
    refine ⟨fun hlt => ?_, fun hge => ?_⟩
    · have hlt := of_lt hlt
      have hx : c.kids[n]? = some c.kids[n] := List.getElem?_eq_getElem hlt
      generalize c.kids[n] = x at hx
      have hm := List.mem_of_getElem? hx
      have c118 := ih x hm l r k i hi (hok x hm)
      unfold trV at c118
      refine W0 ?_
      refine ⟨by omega, _, cnds_at hx, ?_⟩
      refine W0 ?_
      refine ⟨_, _, c118, ?_⟩
      refine W0 ?_
      refine ⟨fun h => ?_, fun h => ?_⟩
      · have h : (trn l r k i x).2 ≠ 0 := by simpa using h
        have he : eL l r k i c.kids = (trn l r k i x).2 := errs_first (f := fun _ x => (trn l r k i x).2) hno hx h
        rw [if_pos (by rw [he]; exact h), he] at e
        refine W0 ?_
        refine fin_frz TT ?_ rfl
        rw [e]; rfl
      · have h : (trn l r k i x).2 = 0 := by simpa using h
        refine W0 ?_
        refine ⟨by rw [cnds_len, List.length_map, List.length_take]; show (_ + 1) * 184 ≤ _; omega, ?_⟩
        refine W0 ?_
        exact ⟨n + 1, ⟨hlt, zero_upto (f := fun _ x => (trn l r k i x).2) hno hx h⟩, by show c.kids.length - (n + 1) < c.kids.length - n; omega, le_of [0, 1, 2, 3, 4, 5, 6, 7, 8, 9, 10, 36, 12, 13, 14, 15, 16, 17] rfl rfl rfl ⟨step_num hlt (by omega), rfl, rfl, rfl, rfl, rfl, rfl, trivial⟩ ⟨rfl, rfl, rfl, rfl, rfl, rfl, rfl, rfl, rfl, rfl, rfl, by rw [take_map _ hx, cnds_app]; rfl, rfl, rfl, rfl, rfl, rfl, rfl, trivial⟩⟩
    · have hge := of_ge hge
      have he : eL l r k i c.kids = 0 := errs_all (f := fun _ x => (trn l r k i x).2) hno (by omega)
      rw [if_neg (by simp [he])] at e
      rw [take_of_all hge]
      refine W0 ?_
      refine fin_frz TT ?_ rfl
      rw [e]; rfl
theorem c118 (c : Cond) (hk : kb c) (l r : Graph) (k i : Mor) (hi : Inv l r k i) (ho : ovr r c = 0) : Con P 118 [] [.agg (glu l r k i), c.av] (trV l r k i c) [] :=
  m42 l r k i c hi ho hk fun x hx l r k i hi ho => c118 x (((kb_iff c).1 hk).2 x hx) l r k i hi ho
  termination_by SizeOf.sizeOf c
  decreasing_by exact kid_lt hx
end Go.Av.Z

/- The reference: transport to the left. -/
set_option maxHeartbeats 4000000
namespace Go.Av.Z
open Go.Proofs

theorem down_eq {l : List Int} {z : List Int} {n : Nat} (h : ∀ x ∈ l, 0 ≤ x ∧ x < n) : l.map (at0 (back z n)) = l.map (plc z) := by
  apply List.map_congr_left
  intro x hx
  exact back_at (h x hx).1 (h x hx).2
theorem bne_t {n : Int} (h : (n != 0) = true) : n ≠ 0 := by simpa using h
theorem bne_f {n : Int} (h : (n != 0) = false) : n = 0 := by simpa using h
theorem m23x (ρ : Rule) (c y : Cond) (hi : Inv ρ.left.graph ρ.right.graph ρ.keep ρ.into) (ho : ovr ρ.right.graph c = 0) (h5 : (c.kind == 5) = true) (hy : c.kids = [y])
    (ih : ∀ (ρ : Rule), Inv ρ.left.graph ρ.right.graph ρ.keep ρ.into → ovr ρ.right.graph y = 0 → Con P 121 [] [ρ.av, y.av] (trV ρ.left.graph ρ.right.graph ρ.keep ρ.into y) []) : Con P 121 [] [ρ.av, c.av] (trV ρ.left.graph ρ.right.graph ρ.keep ρ.into c) [] := by
  obtain ⟨⟨y', hy', hoy⟩, hm, hm1, hm2⟩ := ovr_five ho h5
  rw [hy] at hy'
  obtain rfl : y = y' := by simpa using hy'
  have hy0 : c.kids[0]? = some y := by rw [hy]; rfl
  have hs := stp_of hi ho h5
  have li := inv_len hi
  have e5 := trn_five ρ.left.graph ρ.right.graph ρ.keep ρ.into c y h5 hy
  have hmi := mval_ok hi.im
  have hmm := mval_ok hm
  have hrl := gval_len hmm.1
  have hxl := gval_len hmm.2.1
  have ni := mval_node hi.im
  have ei := mval_edge hi.im
  have nm := mval_node hm
  have em := mval_edge hm
  unfold trV
  refine go Tryz.func121 (by rfl) rfl rfl rfl fun hl => ?_
  refine W0 ?_
  refine ⟨fun h => absurd h (by simp at h5; simp [h5]), fun _ => ?_⟩
  refine W0 ?_
  refine ⟨_, _, c173 ρ.into.nodes (fun v hv => by have := ni v hv; omega) (by omega), ?_⟩
  refine W0 ?_
  refine ⟨_, _, c173 ρ.into.edges (fun v hv => by have := ei v hv; omega) (by omega), ?_⟩
  refine W0 ?_
  refine ⟨by kernel_rfl, ?_⟩
  refine W0 ?_
  refine ⟨_, _, c174 ρ.right.graph c.pat.graph (kpt ρ.into) c.map, ?_⟩
  refine W0 ?_
  refine ⟨fun h => ?_, fun h => ?_⟩
  · have h : cerr ρ.right.graph c.pat.graph (kpt ρ.into) c.map = 14 := by simpa using h
    rw [if_pos (by rw [h]; decide)] at e5
    refine W0 ?_
    refine ⟨_, _, c130, ?_⟩
    refine W0 ?_
    refine fin_frz TT ?_ rfl
    rw [e5]; rfl
  have he : cerr ρ.right.graph c.pat.graph (kpt ρ.into) c.map = 0 := by
    have h : cerr ρ.right.graph c.pat.graph (kpt ρ.into) c.map ≠ 14 := by simpa using h
    have h2 := hs.cmp.err
    split at h2
    · exact absurd h2 h
    · exact h2
  rw [if_neg (by simp [he])] at e5
  have hz := hs.z he
  have hzl := gval_len (gval_ext hz)
  have lz := ext_len c.pat.graph (zOf ρ.right.graph c.pat.graph ρ.into c.map)
  have zd := pval_nd hz
  have hnd := hs.gnd he
  refine W0 ?_
  refine ⟨fun h => absurd h (by simp [he]), fun _ => ?_⟩
  refine W0 ?_
  refine ⟨_, _, c38 ρ.left.graph ρ.keep hi.kp, ?_⟩
  refine W0 ?_
  refine ⟨_, _, c38 c.pat.graph (zOf ρ.right.graph c.pat.graph ρ.into c.map) hz, ?_⟩
  refine W0 ?_
  refine ⟨_, _, c76 ρ.into c.map (by omega) (by omega) (fun v hv => by have := ni v hv; omega) (fun v hv => by have := ei v hv; omega), ?_⟩
  refine W0 ?_
  rw [nums_len]
  refine ⟨_, _, c78 (zOf ρ.right.graph c.pat.graph ρ.into c.map).nodes c.pat.graph.nodes.length zd.1 (by omega) (by omega), ?_⟩
  refine W0 ?_
  have d1 : ∀ v ∈ (mthen ρ.into c.map).nodes, 0 ≤ v ∧ v < c.pat.graph.nodes.length := fun v hv => by
    obtain ⟨w, hw, rfl⟩ := List.mem_map.1 (show v ∈ ρ.into.nodes.map (at0 c.map.nodes) from hv)
    have := ni w hw
    exact nm _ (gt_mem (by omega))
  have d2 : ∀ v ∈ (mthen ρ.into c.map).edges, 0 ≤ v ∧ v < c.pat.graph.edges.length := fun v hv => by
    obtain ⟨w, hw, rfl⟩ := List.mem_map.1 (show v ∈ ρ.into.edges.map (at0 c.map.edges) from hv)
    have := ei w hw
    exact em _ (gt_mem (by omega))
  refine ⟨_, _, c77 (mthen ρ.into c.map).nodes (back (zOf ρ.right.graph c.pat.graph ρ.into c.map).nodes c.pat.graph.nodes.length) (by simp [mthen]; omega) (fun v hv => by rw [back_len]; exact d1 v hv), ?_⟩
  refine W0 ?_
  rw [edgs_len]
  refine ⟨_, _, c78 (zOf ρ.right.graph c.pat.graph ρ.into c.map).edges c.pat.graph.edges.length zd.2 (by omega) (by omega), ?_⟩
  refine W0 ?_
  refine ⟨_, _, c77 (mthen ρ.into c.map).edges (back (zOf ρ.right.graph c.pat.graph ρ.into c.map).edges c.pat.graph.edges.length) (by simp [mthen]; omega) (fun v hv => by rw [back_len]; exact d2 v hv), ?_⟩
  rw [down_eq d1, down_eq d2]
  refine W0 ?_
  refine ⟨by kernel_rfl, ?_⟩
  refine W0 ?_
  refine ⟨_, _, c175 (sOf ρ.left.graph ρ.right.graph c.pat.graph ρ.keep ρ.into c.map), ?_⟩
  by_cases hp : poErr (sOf ρ.left.graph ρ.right.graph c.pat.graph ρ.keep ρ.into c.map) = 0
  · rw [if_neg (by simp [hp])] at e5
    have hu : uerr ρ.left.graph (ext c.pat.graph (zOf ρ.right.graph c.pat.graph ρ.into c.map)) = 0 := (poErr_ok hp).u
    have hn := hs.next he hu
    have hpo := hs.po he hu
    have hq := hpo.ok.right
    have lq := mval_len hq
    have nq := hpo.right
    have hyl := gval_len hpo.ok.gv
    have lq2 : (poR (sOf ρ.left.graph ρ.right.graph c.pat.graph ρ.keep ρ.into c.map)).nodes.length = (ext c.pat.graph (zOf ρ.right.graph c.pat.graph ρ.into c.map)).nodes.length ∧ (poR (sOf ρ.left.graph ρ.right.graph c.pat.graph ρ.keep ρ.into c.map)).edges.length = (ext c.pat.graph (zOf ρ.right.graph c.pat.graph ρ.into c.map)).edges.length := ⟨(mval_ok hq).2.2.1, (mval_ok hq).2.2.2.1⟩
    rw [poV, if_pos hp]
    refine W0 ?_
    refine ⟨_, _, c122 (poG (sOf ρ.left.graph ρ.right.graph c.pat.graph ρ.keep ρ.into c.map)) c.pat.graph (zOf ρ.right.graph c.pat.graph ρ.into c.map) (poR (sOf ρ.left.graph ρ.right.graph c.pat.graph ρ.keep ρ.into c.map)) nq.1 nq.2 (by omega) (by omega) (fun v hv => by have := mval_node hq v hv; omega) (fun v hv => by have := mval_edge hq v hv; omega) (by omega) (by omega), ?_⟩
    refine W0 ?_
    refine ⟨by omega, _, cnds_at hy0, ?_⟩
    refine W0 ?_
    refine ⟨_, _, ih (mkR _ _ _ _) hn hoy, ?_⟩
    refine W0 ?_
    refine ⟨by kernel_rfl, ?_⟩
    refine W0 ?_
    refine ⟨fun h => ?_, fun h => ?_⟩
    · have h : (trn (poG (sOf ρ.left.graph ρ.right.graph c.pat.graph ρ.keep ρ.into c.map)) c.pat.graph (kpt (poR (sOf ρ.left.graph ρ.right.graph c.pat.graph ρ.keep ρ.into c.map))) (kin (poR (sOf ρ.left.graph ρ.right.graph c.pat.graph ρ.keep ρ.into c.map)) (zOf ρ.right.graph c.pat.graph ρ.into c.map)) y).2 ≠ 0 := bne_t h
      rw [if_pos h] at e5
      refine W0 ?_
      refine fin_frz TT ?_ rfl
      rw [e5]; rfl
    · have h : (trn (poG (sOf ρ.left.graph ρ.right.graph c.pat.graph ρ.keep ρ.into c.map)) c.pat.graph (kpt (poR (sOf ρ.left.graph ρ.right.graph c.pat.graph ρ.keep ρ.into c.map))) (kin (poR (sOf ρ.left.graph ρ.right.graph c.pat.graph ρ.keep ρ.into c.map)) (zOf ρ.right.graph c.pat.graph ρ.into c.map)) y).2 = 0 := bne_f h
      rw [if_neg (by simp [h])] at e5
      refine W0 ?_
      refine fin_frz TT ?_ rfl
      rw [e5]
      show _ = AV.tuple [(Cond.mk 5 [_] _ ⟨_, [], 0, []⟩).av, .int .i64 0]
      rw [mkE]; rfl
  · rw [if_pos hp] at e5
    rw [poV, if_neg hp]
    refine W0 ?_
    refine ⟨fun _ => ?_, fun h => absurd h (by simpa using hp)⟩
    refine W0 ?_
    refine fin_frz TT ?_ rfl
    rw [e5]; rfl
theorem m23 (ρ : Rule) (c : Cond) (hi : Inv ρ.left.graph ρ.right.graph ρ.keep ρ.into) (ho : ovr ρ.right.graph c = 0) (hk : kb c)
    (ih : ∀ y ∈ c.kids, ∀ (ρ : Rule), Inv ρ.left.graph ρ.right.graph ρ.keep ρ.into → ovr ρ.right.graph y = 0 → Con P 121 [] [ρ.av, y.av] (trV ρ.left.graph ρ.right.graph ρ.keep ρ.into y) []) : Con P 121 [] [ρ.av, c.av] (trV ρ.left.graph ρ.right.graph ρ.keep ρ.into c) [] := by
  have hkl := ((kb_iff c).1 hk).1
  by_cases h5 : (c.kind == 5) = true
  · obtain ⟨⟨y, hy, hoy⟩, _⟩ := ovr_five ho h5
    exact m23x ρ c y hi ho h5 hy fun ρ => ih y (by rw [hy]; exact List.mem_singleton.2 rfl) ρ
  · have h5 : (c.kind == 5) = false := by simpa using h5
    have hok := ovr_else ho h5
    have e := trn_else ρ.left.graph ρ.right.graph ρ.keep ρ.into c h5
    unfold trV
    refine go Tryz.func121 (by rfl) rfl rfl rfl fun hl => ?_
    refine W0 ?_
    refine ⟨fun _ => ?_, fun h => absurd h (by simp at h5; simp [h5])⟩
    refine W0 ?_
    refine loop (fun n : Nat => mkSt [(7, .int .i64 n), (6, .bptr 10 0), (2, .bptr 0 0), (3, .bptr 1 0), (4, .bptr 2 0)] [.box 41 ρ.cs, .box 39 c.cs, .box 39 [.int .i64 0, .ref 3, .ref 4, .ref 5, .ref 6, .ref 7, .ref 8, .int .i64 0, .ref 9], .row 39 9 [], .row 3 1 [], .row 3 1 [], .row 3 1 [], .row 133 3 [], .row 117 4 [], .row 119 5 [], .box 39 [.int .i64 c.kind, .ref 11, .ref 12, .ref 13, .ref 14, .ref 15, .ref 16, .int .i64 0, .ref 17], .row 39 9 (cnds ((c.kids.take n).map (trF ρ.left.graph ρ.right.graph ρ.keep ρ.into))), .row 3 1 [], .row 3 1 [], .row 3 1 [], .row 133 3 [], .row 117 4 [], .row 119 5 []])
        (fun n => n ≤ c.kids.length ∧ ∀ j y, j < n → c.kids[j]? = some y → (trn ρ.left.graph ρ.right.graph ρ.keep ρ.into y).2 = 0) (fun n => c.kids.length - n) 0 ⟨Nat.zero_le _, fun j y h => by omega⟩
      (le_of [0, 1, 2, 3, 4, 5, 6, 7, 8, 9, 10, 18, 19, 20, 21, 22, 23, 24] rfl rfl rfl ⟨rfl, rfl, rfl, rfl, rfl, trivial⟩ ⟨rfl, rfl, rfl, rfl, rfl, rfl, rfl, rfl, rfl, rfl, rfl, rfl, rfl, rfl, rfl, rfl, rfl, rfl, trivial⟩) ?_
    rintro n ⟨hn, hno⟩
    refine W0 ?_
    rw [cnds_len]
    refine ⟨fun hlt => ?_, fun hge => ?_⟩
    · have hlt := of_lt hlt
      have hx : c.kids[n]? = some c.kids[n] := List.getElem?_eq_getElem hlt
      generalize c.kids[n] = x at hx
      have hm := List.mem_of_getElem? hx
      have c121 := ih x hm ρ hi (hok x hm)
      unfold trV at c121
      refine W0 ?_
      refine ⟨by omega, _, cnds_at hx, ?_⟩
      refine W0 ?_
      refine ⟨_, _, c121, ?_⟩
      refine W0 ?_
      refine ⟨by kernel_rfl, ?_⟩
      refine W0 ?_
      refine ⟨fun h => ?_, fun h => ?_⟩
      · have h := bne_t h
        have he : eL ρ.left.graph ρ.right.graph ρ.keep ρ.into c.kids = (trn ρ.left.graph ρ.right.graph ρ.keep ρ.into x).2 := errs_first (f := fun _ x => (trn ρ.left.graph ρ.right.graph ρ.keep ρ.into x).2) hno hx h
        rw [if_pos (by rw [he]; exact h), he] at e
        refine W0 ?_
        refine fin_frz TT ?_ rfl
        rw [e]; rfl
      · have h := bne_f h
        refine W0 ?_
        refine ⟨by rw [cnds_len, List.length_map, List.length_take]; show (_ + 1) * 184 ≤ _; omega, ?_⟩
        refine W0 ?_
        exact ⟨n + 1, ⟨hlt, zero_upto (f := fun _ x => (trn ρ.left.graph ρ.right.graph ρ.keep ρ.into x).2) hno hx h⟩, by show c.kids.length - (n + 1) < c.kids.length - n; omega, le_of [0, 1, 2, 3, 4, 5, 6, 7, 8, 9, 10, 28, 12, 13, 14, 15, 16, 17] rfl rfl rfl ⟨step_num hlt (by omega), rfl, rfl, rfl, rfl, trivial⟩ ⟨rfl, rfl, rfl, rfl, rfl, rfl, rfl, rfl, rfl, rfl, rfl, by rw [take_map _ hx, cnds_app]; rfl, rfl, rfl, rfl, rfl, rfl, rfl, trivial⟩⟩
    · have hge := of_ge hge
      have he : eL ρ.left.graph ρ.right.graph ρ.keep ρ.into c.kids = 0 := errs_all (f := fun _ x => (trn ρ.left.graph ρ.right.graph ρ.keep ρ.into x).2) hno (by omega)
      rw [if_neg (by simp [he])] at e
      rw [take_of_all hge]
      refine W0 ?_
      refine fin_frz TT ?_ rfl
      rw [e]; rfl
theorem c121 (c : Cond) (hk : kb c) (ρ : Rule) (hi : Inv ρ.left.graph ρ.right.graph ρ.keep ρ.into) (ho : ovr ρ.right.graph c = 0) : Con P 121 [] [ρ.av, c.av] (trV ρ.left.graph ρ.right.graph ρ.keep ρ.into c) [] :=
  m23 ρ c hi ho hk fun x hx ρ hi ho => c121 x (((kb_iff c).1 hk).2 x hx) ρ hi ho
  termination_by SizeOf.sizeOf c
  decreasing_by exact kid_lt hx
end Go.Av.Z

/- What is transported is valid. -/
set_option maxHeartbeats 4000000
namespace Go.Av.Z
open Go.Proofs

theorem shpOk_kids {c : Cond} (h : shp c = 0) (h5 : (c.kind == 5) = false) {ks : List Cond} (hl : ks.length = c.kids.length) : shp (.mk c.kind ks ⟨[], []⟩ ⟨⟨[], []⟩, [], 0, []⟩) = 0 := by
  have h1 : shpOk c = true := by
    unfold shp at h
    split at h
    · cases h
    · rename_i h1; simpa using h1
  cases c with
  | mk kind kids m p =>
    have hl' : ks.length = kids.length := hl
    have h5' : (kind == 5) = false := h5
    have hu : unusedB (.mk kind ks ⟨[], []⟩ ⟨⟨[], []⟩, [], 0, []⟩) = true := rfl
    have h2 : shpOk (.mk kind ks ⟨[], []⟩ ⟨⟨[], []⟩, [], 0, []⟩) = true := by
      have e1 : shpOk (.mk kind kids m p) = if (kind == 1) = true then ((kids.length : Int) == 0) && unusedB (.mk kind kids m p) else if (kind == 2) = true then ((kids.length : Int) == 1) && unusedB (.mk kind kids m p)
        else if (kind == 3) = true ∨ (kind == 4) = true then decide ((0 : Int) < kids.length) && unusedB (.mk kind kids m p) else if (kind == 5) = true then ((kids.length : Int) == 1) else false := rfl
      have e2 : shpOk (.mk kind ks ⟨[], []⟩ ⟨⟨[], []⟩, [], 0, []⟩) = if (kind == 1) = true then ((ks.length : Int) == 0) && true else if (kind == 2) = true then ((ks.length : Int) == 1) && true
        else if (kind == 3) = true ∨ (kind == 4) = true then decide ((0 : Int) < ks.length) && true else if (kind == 5) = true then ((ks.length : Int) == 1) else false := rfl
      rw [e1] at h1
      rw [e2, hl']
      by_cases k1 : (kind == 1) = true
      · rw [if_pos k1] at h1 ⊢
        simp only [Bool.and_eq_true] at h1 ⊢; exact ⟨h1.1, trivial⟩
      · rw [if_neg k1] at h1 ⊢
        by_cases k2 : (kind == 2) = true
        · rw [if_pos k2] at h1 ⊢
          simp only [Bool.and_eq_true] at h1 ⊢; exact ⟨h1.1, trivial⟩
        · rw [if_neg k2] at h1 ⊢
          by_cases k3 : (kind == 3) = true ∨ (kind == 4) = true
          · rw [if_pos k3] at h1 ⊢
            simp only [Bool.and_eq_true] at h1 ⊢; exact ⟨h1.1, trivial⟩
          · rw [if_neg k3, if_neg (by rw [h5']; simp)] at h1
            cases h1
    show shp (.mk kind ks ⟨[], []⟩ ⟨⟨[], []⟩, [], 0, []⟩) = 0
    rw [shp, h2]; rfl
structure Good (l : Graph) (o : Cond) : Prop where
  ov : ovr l o = 0
  sp : shps o = 0
  ns : noSl o
  fn : fineA o
theorem good_yes (l : Graph) : Good l cyes := by
  refine ⟨?_, ?_, (noSl_iff _).2 ⟨⟨rfl, rfl⟩, fun x hx => by cases hx⟩, (fineA_iff _).2 ⟨⟨by decide, by decide, by decide, by decide, by decide, by decide⟩, fun x hx => by cases hx⟩⟩
  · rw [ovr_eq, if_neg (by decide), if_neg (by decide)]; exact ovrs_errs l [] 0
  · rw [shps_eq, if_neg (by decide)]; exact shpss_errs [] 0
theorem good_no (l : Graph) : Good l cno := by
  have g := good_yes l
  refine ⟨?_, ?_, (noSl_iff _).2 ⟨⟨rfl, rfl⟩, fun x hx => ?_⟩, (fineA_iff _).2 ⟨⟨by decide, by decide, by decide, by decide, by decide, by decide⟩, fun x hx => ?_⟩⟩
  · rw [ovr_eq, if_neg (by decide), if_neg (by decide)]
    show ovrs l [cyes] = 0
    rw [ovrs_errs _ _ 0]; exact errs_zero fun j x hx => by
      have : x = cyes := by cases j <;> simp at hx; exact hx.symm
      rw [this]; exact g.ov
  · rw [shps_eq, if_neg (by decide)]
    show shpss [cyes] = 0
    rw [shpss_errs _ 0]; exact errs_zero fun j x hx => by
      have : x = cyes := by cases j <;> simp at hx; exact hx.symm
      rw [this]; exact g.sp
  · have : x = cyes := by simpa [cno, Cond.kids] using hx
    rw [this]; exact g.ns
  · have : x = cyes := by simpa [cno, Cond.kids] using hx
    rw [this]; exact g.fn
theorem good_trn (c : Cond) (l r : Graph) (k i : Mor) (hi : Inv l r k i) (ho : ovr r c = 0) (he : (trn l r k i c).2 = 0) : Good l (trn l r k i c).1 := by
  by_cases h5 : (c.kind == 5) = true
  · obtain ⟨⟨y, hy, hoy⟩, hm, hm1, hm2⟩ := ovr_five ho h5
    have hs := stp_of hi ho h5
    have e5 := trn_five l r k i c y h5 hy
    by_cases hc : cerr r c.pat.graph (kpt i) c.map = 0
    · rw [if_neg (by simp [hc])] at e5
      by_cases hp : poErr (sOf l r c.pat.graph k i c.map) = 0
      · rw [if_neg (by simp [hp])] at e5
        have hu : uerr l (ext c.pat.graph (zOf r c.pat.graph i c.map)) = 0 := (poErr_ok hp).u
        have hn := hs.next hc hu
        have hpo := hs.po hc hu
        split at e5
        · rename_i hne
          rw [e5] at he
          exact absurd he hne
        · rename_i h0
          have h0 := Classical.not_not.1 h0
          have ih := good_trn y _ _ _ _ hn hoy h0
          rw [e5]
          have hml : mval l (poG (sOf l r c.pat.graph k i c.map)) (poL (sOf l r c.pat.graph k i c.map)) = 0 := hpo.ok.left
          have hmi := minj_mk hml hpo.left.1 hpo.left.2
          have hml2 := mval_len hml
          have hgl := gval_len hpo.ok.gv
          generalize poG (sOf l r c.pat.graph k i c.map) = yy at *
          generalize poL (sOf l r c.pat.graph k i c.map) = pp at *
          generalize (trn yy c.pat.graph (kpt (poR (sOf l r c.pat.graph k i c.map))) (kin (poR (sOf l r c.pat.graph k i c.map)) (zOf r c.pat.graph i c.map)) y).1 = t at *
          have hsh : shp (.mk 5 [t] pp ⟨yy, [], 0, []⟩) = 0 := rfl
          refine ⟨?_, ?_, (noSl_iff _).2 ⟨⟨rfl, rfl⟩, fun x hx => ?_⟩, (fineA_iff _).2 ⟨?_, fun x hx => ?_⟩⟩
          · rw [ovr_eq, if_neg (by simp [hsh])]
            show (if ((5 : Int) == 5) = true then (if mval l yy pp ≠ 0 then mval l yy pp else if minj l yy pp = false then (1 : Int) else ovrs yy [t]) else ovrs l [t]) = 0
            rw [if_pos (show ((5 : Int) == 5) = true from rfl), if_neg (by simp [hml]), if_neg (by simp [hmi]), ovrs_errs _ _ 0]
            exact errs_zero fun j x hx => by
              have : x = t := by cases j <;> simp at hx; exact hx.symm
              rw [this]; exact ih.ov
          · rw [shps_eq, if_neg (by simp [hsh])]
            show shpss [t] = 0
            rw [shpss_errs _ 0]; exact errs_zero fun j x hx => by
              have : x = t := by cases j <;> simp at hx; exact hx.symm
              rw [this]; exact ih.sp
          · have : x = t := by simpa [Cond.kids] using hx
            rw [this]; exact ih.ns
          · unfold Cond.fine
            simp only [Cond.map, Cond.pat, List.length_nil]
            omega
          · have : x = t := by simpa [Cond.kids] using hx
            rw [this]; exact ih.fn
      · rw [if_pos hp] at e5
        rw [e5] at he
        exact absurd he hp
    · rw [if_pos hc] at e5
      rw [e5]; exact good_no l
  · have h5 : (c.kind == 5) = false := by simpa using h5
    have hok := ovr_else ho h5
    have e := trn_else l r k i c h5
    split at e
    · rename_i hne
      rw [e] at he
      exact absurd he hne
    · rename_i h0
      have h0 : eL l r k i c.kids = 0 := Classical.not_not.1 h0
      have ih : ∀ x ∈ c.kids, Good l (trn l r k i x).1 := fun x hx => by
        obtain ⟨j, hj⟩ := List.mem_iff_getElem?.1 hx
        exact good_trn x l r k i hi (hok x hx) (errs_off h0 j x hj)
      have ihm : ∀ x ∈ c.kids.map (fun x => (trn l r k i x).1), Good l x := fun x hx => by
        obtain ⟨y, hy, rfl⟩ := List.mem_map.1 hx
        exact ih y hy
      rw [e]
      have hlm : (c.kids.map fun x => (trn l r k i x).1).length = c.kids.length := List.length_map _
      generalize c.kids.map (fun x => (trn l r k i x).1) = ks at *
      have hsh := shpOk_kids (ovr_shp ho) h5 hlm
      refine ⟨?_, ?_, (noSl_iff _).2 ⟨⟨rfl, rfl⟩, fun x hx => (ihm x hx).ns⟩, (fineA_iff _).2 ⟨⟨Nat.zero_le _, Nat.zero_le _, Nat.zero_le _, Nat.zero_le _, Nat.zero_le _, Nat.zero_le _⟩, fun x hx => (ihm x hx).fn⟩⟩
      · rw [ovr_eq, if_neg (by simp [hsh]), if_neg (by show ¬ (c.kind == 5) = true; rw [h5]; simp)]
        show ovrs l ks = 0
        rw [ovrs_errs _ _ 0]; exact errs_zero fun j x hx => (ihm x (List.mem_of_getElem? hx)).ov
      · rw [shps_eq, if_neg (by simp [hsh])]
        show shpss ks = 0
        rw [shpss_errs _ 0]; exact errs_zero fun j x hx => (ihm x (List.mem_of_getElem? hx)).sp
  termination_by SizeOf.sizeOf c
  decreasing_by
  · exact kid_lt (by rw [hy]; exact List.mem_singleton.2 rfl)
  · exact kid_lt hx
end Go.Av.Z

/- Left, and the reference's. -/
set_option maxHeartbeats 4000000
namespace Go.Av.Z
open Go.Proofs

/-- A condition over a graph, transported, and its size looked at. -/
def mvd (l r : Graph) (k i : Mor) (c : Cond) : Cond × Int :=
  if cval r c ≠ 0 then (.zero, cval r c) else if (trn l r k i c).2 ≠ 0 then (.zero, (trn l r k i c).2) else if lrg (trn l r k i c).1 ≠ 0 then (.zero, lrg (trn l r k i c).1) else ((trn l r k i c).1, 0)
def lft (ρ : Rule) (c : Cond) : Cond × Int := if strc ρ ≠ 0 then (.zero, strc ρ) else mvd ρ.left.graph ρ.right.graph ρ.keep ρ.into c
theorem strc_ok {ρ : Rule} (h : strc ρ = 0) : Inv ρ.left.graph ρ.right.graph ρ.keep ρ.into := by
  unfold strc at h
  split at h
  · exact absurd h ‹_›
  · split at h
    · exact absurd h ‹_›
    · split at h
      · exact absurd h ‹_›
      · split at h
        · exact absurd h ‹_›
        · split at h
          · cases h
          · rename_i h3 h4 h5
            have h5 : minj (kep ρ) ρ.right.graph ρ.into = true := by simpa using h5
            obtain ⟨m1, m2, m3⟩ := minj_ok h5
            exact ⟨Classical.not_not.1 h3, m1, m2, m3⟩
theorem cval_ok {a : Graph} {c : Cond} (h : cval a c = 0) : gval a = 0 ∧ ovr a c = 0 := by
  unfold cval at h
  split at h
  · exact absurd h ‹_›
  · split at h
    · exact absurd h ‹_›
    · rename_i h1 h2; exact ⟨Classical.not_not.1 h1, Classical.not_not.1 h2⟩
theorem c63 (l r : Graph) (k i : Mor) (c : Cond) (hi : Inv l r k i) (hk : kb c) : Con P 63 [] [.agg (glu l r k i), c.av] (.tuple [(mvd l r k i c).1.av, .int .i64 (mvd l r k i c).2]) [] := by
  by_cases h1 : cval r c = 0
  · have ho := (cval_ok h1).2
    have c118' := c118 c hk l r k i hi ho
    unfold trV at c118'
    by_cases h2 : (trn l r k i c).2 = 0
    · have hg := good_trn c l r k i hi ho h2
      have hl : gval l = 0 := (pval_ok hi.kp).1
      have e : cval l (trn l r k i c).1 = lrg (trn l r k i c).1 := by rw [cval, if_neg (by simp [hl]), if_neg (by simp [hg.ov])]
      have e2 : mvd l r k i c = if lrg (trn l r k i c).1 ≠ 0 then (.zero, lrg (trn l r k i c).1) else ((trn l r k i c).1, 0) := by rw [mvd, if_neg (by simp [h1]), if_neg (by simp [h2])]
      have c48' := c48 l (trn l r k i c).1
      rw [e] at c48'
      rw [h2] at c118'
      refine go Tryz.func63 (by rfl) rfl rfl rfl fun hl => ?_
      refine W0 ?_
      refine ⟨_, _, c48 r c, ?_⟩
      rw [h1]
      refine W0 ?_
      refine ⟨_, _, c118', ?_⟩
      refine W0 ?_
      refine ⟨_, _, c48', ?_⟩
      refine W0 ?_
      refine ⟨fun h => ?_, fun h => ?_⟩
      · rw [if_pos (bne_t h)] at e2
        refine W0 ?_
        refine fin_frz TT ?_ rfl
        rw [e2]; rfl
      · rw [if_neg (by simp [bne_f h])] at e2
        refine W0 ?_
        refine fin_frz TT ?_ rfl
        rw [e2]; rfl
    · have e2 : mvd l r k i c = (.zero, (trn l r k i c).2) := by rw [mvd, if_neg (by simp [h1]), if_pos h2]
      refine go Tryz.func63 (by rfl) rfl rfl rfl fun hl => ?_
      refine W0 ?_
      refine ⟨_, _, c48 r c, ?_⟩
      rw [h1]
      refine W0 ?_
      refine ⟨_, _, c118', ?_⟩
      refine W0 ?_
      refine ⟨fun h => ?_, fun h => absurd (bne_f h) h2⟩
      refine W0 ?_
      refine fin_frz TT ?_ rfl
      rw [e2]; rfl
  · have e2 : mvd l r k i c = (.zero, cval r c) := by rw [mvd, if_pos h1]
    refine go Tryz.func63 (by rfl) rfl rfl rfl fun hl => ?_
    refine W0 ?_
    refine ⟨_, _, c48 r c, ?_⟩
    refine W0 ?_
    refine ⟨fun h => ?_, fun h => absurd (bne_f h) h1⟩
    refine W0 ?_
    refine fin_frz TT ?_ rfl
    rw [e2]; rfl
theorem c25 (ρ : Rule) (c : Cond) (hf : ρ.fine) (hk : kb c) : Con P 25 [] [ρ.av, c.av] (.tuple [(lft ρ c).1.av, .int .i64 (lft ρ c).2]) [] := by
  refine go Tryz.func25 (by rfl) rfl rfl rfl fun hl => ?_
  refine W0 ?_
  refine ⟨_, _, c62 ρ hf, ?_⟩
  refine W0 ?_
  refine ⟨fun h => ?_, fun h => ?_⟩
  · have e : lft ρ c = (.zero, strc ρ) := by rw [lft, if_pos (bne_t h)]
    refine W0 ?_
    refine fin_frz TT ?_ rfl
    rw [e]; rfl
  · have h := bne_f h
    have e : lft ρ c = mvd ρ.left.graph ρ.right.graph ρ.keep ρ.into c := by rw [lft, if_neg (by simp [h])]
    refine W0 ?_
    refine ⟨_, _, c65 ρ, ?_⟩
    refine W0 ?_
    refine ⟨_, _, c63 ρ.left.graph ρ.right.graph ρ.keep ρ.into c (strc_ok h) hk, ?_⟩
    refine W0 ?_
    refine ⟨by kernel_rfl, ?_⟩
    refine W0 ?_
    refine fin_frz TT ?_ rfl
    rw [e]; rfl
theorem c66 (ρ : Rule) (c : Cond) (hf : ρ.fine) (hk : kb c) (hfa : fineA c) : Con P 66 [] [ρ.av, c.av] (.tuple [(lft ρ c).1.av, .int .i64 (lft ρ c).2]) [] := by
  refine go Tryz.func66 (by rfl) rfl rfl rfl fun hl => ?_
  refine W0 ?_
  refine ⟨_, _, c13 ρ hf, ?_⟩
  refine W0 ?_
  refine ⟨fun h => ?_, fun h => ?_⟩
  · have e : lft ρ c = (.zero, strc ρ) := by rw [lft, if_pos (bne_t h)]
    refine W0 ?_
    refine fin_frz TT ?_ rfl
    rw [e]; rfl
  have h := bne_f h
  have hi := strc_ok h
  have e : lft ρ c = mvd ρ.left.graph ρ.right.graph ρ.keep ρ.into c := by rw [lft, if_neg (by simp [h])]
  refine W0 ?_
  refine ⟨_, _, c61 ρ.right.graph c hfa, ?_⟩
  refine W0 ?_
  refine ⟨fun h1 => ?_, fun h1 => ?_⟩
  · have e2 : mvd ρ.left.graph ρ.right.graph ρ.keep ρ.into c = (.zero, cval ρ.right.graph c) := by rw [mvd, if_pos (bne_t h1)]
    refine W0 ?_
    refine fin_frz TT ?_ rfl
    rw [e, e2]; rfl
  have h1 := bne_f h1
  have ho := (cval_ok h1).2
  have c121' := c121 c hk ρ hi ho
  unfold trV at c121'
  refine W0 ?_
  refine ⟨_, _, c121', ?_⟩
  refine W0 ?_
  refine ⟨fun h2 => ?_, fun h2 => ?_⟩
  · have e2 : mvd ρ.left.graph ρ.right.graph ρ.keep ρ.into c = (.zero, (trn ρ.left.graph ρ.right.graph ρ.keep ρ.into c).2) := by rw [mvd, if_neg (by simp [h1]), if_pos (bne_t h2)]
    refine W0 ?_
    refine fin_frz TT ?_ rfl
    rw [e, e2]; rfl
  have h2 := bne_f h2
  have hg := good_trn c _ _ _ _ hi ho h2
  have e2 : mvd ρ.left.graph ρ.right.graph ρ.keep ρ.into c = (smallC (trn ρ.left.graph ρ.right.graph ρ.keep ρ.into c).1, szErr (trn ρ.left.graph ρ.right.graph ρ.keep ρ.into c).1) := by
    have es : szErr (trn ρ.left.graph ρ.right.graph ρ.keep ρ.into c).1 = lrg (trn ρ.left.graph ρ.right.graph ρ.keep ρ.into c).1 := by rw [szErr, if_neg (by simp [hg.sp])]
    rw [mvd, if_neg (by simp [h1]), if_neg (by simp [h2]), smallC, es]
    by_cases h3 : lrg (trn ρ.left.graph ρ.right.graph ρ.keep ρ.into c).1 = 0
    · rw [if_neg (by simp [h3]), if_pos h3, h3]
    · rw [if_pos h3, if_neg h3]
  refine W0 ?_
  refine ⟨_, _, c56 (trn ρ.left.graph ρ.right.graph ρ.keep ρ.into c).1 hg.fn, ?_⟩
  refine W0 ?_
  refine fin_frz TT ?_ rfl
  rw [e, e2]; rfl
theorem noSl_zero : noSl .zero := (noSl_iff _).2 ⟨⟨rfl, rfl⟩, fun x hx => by cases hx⟩
theorem noSl_lft (ρ : Rule) (c : Cond) : noSl (lft ρ c).1 := by
  unfold lft
  split
  · exact noSl_zero
  · rename_i h
    have hi := strc_ok (Classical.not_not.1 h)
    unfold mvd
    split
    · exact noSl_zero
    · rename_i h1
      split
      · exact noSl_zero
      · rename_i h2
        split
        · exact noSl_zero
        · exact (good_trn c _ _ _ _ hi (cval_ok (Classical.not_not.1 h1)).2 (Classical.not_not.1 h2)).ns

end Go.Av.Z

/- Names: bytes, letters, how far a predicate holds. -/
namespace Go.Av.Z
open Go.Proofs

theorem bytes_size (s : ByteArray) : s.data.toList.length = s.size := by rw [Array.length_toList]; rfl
theorem bytes_loop (s : ByteArray) : ∀ (n i : Nat) (r : List UInt8), s.size - i = n → ByteArray.toList.loop s i r = r.reverse ++ s.data.toList.drop i := by
  intro n
  induction n with
  | zero =>
    intro i r h
    rw [ByteArray.toList.loop, if_neg (by omega), List.drop_eq_nil_of_le (by rw [bytes_size]; omega)]; simp
  | succ n ih =>
    intro i r h
    have hi : i < s.size := by omega
    rw [ByteArray.toList.loop, if_pos hi, ih (i + 1) _ (by omega)]
    have hl : i < s.data.toList.length := by rw [bytes_size]; exact hi
    rw [List.drop_eq_getElem_cons hl]
    have : s.get! i = s.data.toList[i] := by
      cases s with
      | mk d =>
        show d[i]! = _
        rw [getElem!_pos d i (by simpa using hl)]; simp
    rw [this]; simp
theorem bytes_toList (s : ByteArray) : s.toList = s.data.toList := by
  rw [ByteArray.toList, bytes_loop s _ 0 [] rfl]; simp
theorem bytes_at (s : ByteArray) (i : Nat) : s[i]? = s.data.toList[i]? := by
  rcases Nat.lt_or_ge i s.size with h | h
  · rw [getElem?_pos s i h, List.getElem?_eq_getElem (by rw [bytes_size]; exact h)]
    rfl
  · rw [getElem?_neg s i (by omega), List.getElem?_eq_none (by rw [bytes_size]; exact h)]
/-- The bytes of a string, as numbers. -/
def bts (s : ByteArray) : List Int := s.data.toList.map fun b => (b.toNat : Int)
theorem bts_len (s : ByteArray) : (bts s).length = s.size := by rw [bts, List.length_map, bytes_size]
theorem bts_at {s : ByteArray} {i : Nat} {b : UInt8} (h : s[i]? = some b) : (bts s)[i]? = some (b.toNat : Int) := by
  rw [bts, List.getElem?_map, ← bytes_at, h]; rfl
theorem at_lt {s : ByteArray} {i : Nat} (h : i < s.size) : ∃ b, s[i]? = some b := ⟨s[i], getElem?_pos s i h⟩
/-- Two strings are equal. -/
def eqS (s t : ByteArray) : Bool := s.toList == t.toList
theorem eqS_comm (s t : ByteArray) : eqS s t = eqS t s := by unfold eqS; rw [Bool.eq_iff_iff, beq_iff_eq, beq_iff_eq]; exact eq_comm
theorem isEmpty_iff (s : ByteArray) : (s.toList == (⟨#[]⟩ : ByteArray).toList) = (s.size == 0) := by
  rw [bytes_toList, bytes_toList, Bool.eq_iff_iff, ← bytes_size, beq_iff_eq, beq_iff_eq, List.length_eq_zero_iff]

def ltrI (n : Int) : Bool := (decide (97 ≤ n) && decide (n ≤ 122)) || (decide (65 ≤ n) && decide (n ≤ 90))
def dgtI (n : Int) : Bool := decide (48 ≤ n) && decide (n ≤ 57)
def prtI (n : Int) : Bool := ltrI n || (dgtI n || n == 95)
theorem c279 (n : Int) : Con P 279 [] [.int .u8 n] (.bool (ltrI n)) [] := by
  refine go Tryz.func279 (by rfl) rfl rfl rfl fun hl => ?_
  refine W0 ?_
  refine ⟨fun h1 => ?_, fun h1 => ?_⟩
  · refine V0 ?_
    refine ⟨fun h2 => ?_, fun h2 => ?_⟩
    · refine V0 ?_
      refine fin_frz TT ?_ rfl
      rw [ltrI, h1, h2]; rfl
    · refine V0 ?_
      refine ⟨fun h3 => ?_, fun h3 => ?_⟩
      · refine V0 ?_
        refine fin_frz TT ?_ rfl
        rw [ltrI, h1, h2, h3]; rfl
      · refine V0 ?_
        refine fin_frz TT ?_ rfl
        rw [ltrI, h1, h2, h3]; rfl
  · refine V0 ?_
    refine ⟨fun h3 => ?_, fun h3 => ?_⟩
    · refine V0 ?_
      refine fin_frz TT ?_ rfl
      rw [ltrI, h1, h3]; rfl
    · refine V0 ?_
      refine fin_frz TT ?_ rfl
      rw [ltrI, h1, h3]; rfl
theorem c274 (n : Int) : Con P 274 [] [.int .u8 n] (.bool (ltrI n)) [] := by
  refine go Tryz.func274 (by rfl) rfl rfl rfl fun hl => ?_
  refine W0 ?_
  refine ⟨fun h1 => ?_, fun h1 => ?_⟩
  · refine V0 ?_
    refine ⟨fun h2 => ?_, fun h2 => ?_⟩
    · refine V0 ?_
      refine fin_frz TT ?_ rfl
      rw [ltrI, h1, h2]; rfl
    · refine V0 ?_
      refine ⟨fun h3 => ?_, fun h3 => ?_⟩
      · refine V0 ?_
        refine fin_frz TT ?_ rfl
        rw [ltrI, h1, h2, h3]; rfl
      · refine V0 ?_
        refine fin_frz TT ?_ rfl
        rw [ltrI, h1, h2, h3]; rfl
  · refine V0 ?_
    refine ⟨fun h3 => ?_, fun h3 => ?_⟩
    · refine V0 ?_
      refine fin_frz TT ?_ rfl
      rw [ltrI, h1, h3]; rfl
    · refine V0 ?_
      refine fin_frz TT ?_ rfl
      rw [ltrI, h1, h3]; rfl
theorem c282 (n : Int) : Con P 282 [] [.int .u8 n] (.bool (dgtI n)) [] := by
  refine go Tryz.func282 (by rfl) rfl rfl rfl fun hl => ?_
  refine W0 ?_
  refine ⟨fun h1 => ?_, fun h1 => ?_⟩
  · refine V0 ?_
    refine fin_frz TT ?_ rfl
    rw [dgtI, h1]; rfl
  · refine V0 ?_
    refine fin_frz TT ?_ rfl
    rw [dgtI, h1]; rfl
theorem c275 (n : Int) : Con P 275 [] [.int .u8 n] (.bool (dgtI n)) [] := by
  refine go Tryz.func275 (by rfl) rfl rfl rfl fun hl => ?_
  refine W0 ?_
  refine ⟨fun h1 => ?_, fun h1 => ?_⟩
  · refine V0 ?_
    refine fin_frz TT ?_ rfl
    rw [dgtI, h1]; rfl
  · refine V0 ?_
    refine fin_frz TT ?_ rfl
    rw [dgtI, h1]; rfl
theorem c281 (n : Int) : Con P 281 [] [.int .u8 n] (.bool (prtI n)) [] := by
  refine go Tryz.func281 (by rfl) rfl rfl rfl fun hl => ?_
  refine W0 ?_
  refine ⟨_, _, c279 n, ?_⟩
  refine V0 ?_
  refine ⟨fun h1 => ?_, fun h1 => ?_⟩
  · refine V0 ?_
    refine fin_frz TT ?_ rfl
    rw [prtI, h1]; rfl
  · refine V0 ?_
    refine ⟨_, _, c282 n, ?_⟩
    refine V0 ?_
    refine ⟨fun h2 => ?_, fun h2 => ?_⟩
    · refine V0 ?_
      refine fin_frz TT ?_ rfl
      rw [prtI, h1, h2]; rfl
    · refine V0 ?_
      refine fin_frz TT ?_ rfl
      rw [prtI, h1, h2]; rfl

/-- How many numbers at the beginning a predicate accepts. -/
def runN (p : Int → Bool) (l : List Int) : Nat := (l.takeWhile p).length
theorem runN_le (p : Int → Bool) (l : List Int) : runN p l ≤ l.length := (List.takeWhile_prefix p).length_le
theorem runN_at {p : Int → Bool} : ∀ {l : List Int} {i : Nat} {x : Int}, (∀ (j : Nat) y, j < i → l[j]? = some y → p y = true) → l[i]? = some x → p x = false → runN p l = i
  | [], i, x, _, h, _ => by simp at h
  | y :: r, 0, x, h, hx, hp => by simp at hx; subst hx; simp [runN, hp]
  | y :: r, i + 1, x, h, hx, hp => by
    have h0 := h 0 y (by omega) rfl
    have := runN_at (l := r) (i := i) (fun j z hj hz => h (j + 1) z (by omega) (by simpa using hz)) (by simpa using hx) hp
    simp only [runN, List.takeWhile_cons, h0, if_true, List.length_cons] at this ⊢; omega
theorem runN_all {p : Int → Bool} : ∀ {l : List Int} {i : Nat}, (∀ (j : Nat) y, j < i → l[j]? = some y → p y = true) → l.length ≤ i → runN p l = l.length
  | [], i, _, _ => rfl
  | y :: r, 0, _, hl => by simp at hl
  | y :: r, i + 1, h, hl => by
    have h0 := h 0 y (by omega) rfl
    have := runN_all (l := r) (i := i) (fun j z hj hz => h (j + 1) z (by omega) (by simpa using hz)) (by simpa using hl)
    simp only [runN, List.takeWhile_cons, h0, if_true, List.length_cons] at this ⊢; omega
theorem true_upto {p : Int → Bool} {l : List Int} {i : Nat} {x : Int} (h : ∀ (j : Nat) y, j < i → l[j]? = some y → p y = true) (hx : l[i]? = some x) (hp : p x = true) : ∀ (j : Nat) y, j < i + 1 → l[j]? = some y → p y = true := by
  intro j y hj hy
  rcases Nat.lt_or_ge j i with h' | h'
  · exact h j y h' hy
  · have : j = i := by omega
    subst this; rw [hx] at hy; cases hy; exact hp
theorem c280 (s : ByteArray) (f : Nat) (p : Int → Bool) (hs : s.size ≤ 1048576) (hp : ∀ n : Int, Con P f [] [.int .u8 n] (.bool (p n)) []) : Con P 280 [] [.str s, .fn f []] (.int .i64 (runN p (bts s))) [] := by
  refine go Tryz.func280 (by rfl) rfl rfl rfl fun hl => ?_
  refine W0 ?_
  refine loop (fun i : Nat => mkSt [(5, .int .i64 i), (0, .str s), (1, .fn f [])] []) (fun i => i ≤ s.size ∧ ∀ (j : Nat) y, j < i → (bts s)[j]? = some y → p y = true) (fun i => s.size - i) 0 ⟨Nat.zero_le _, fun j y h => by omega⟩
    (le_of [] rfl rfl rfl ⟨rfl, rfl, rfl, trivial⟩ trivial) ?_
  rintro i ⟨hi, hall⟩
  refine V0 ?_
  refine ⟨fun hlt => ?_, fun hge => ?_⟩
  · have hlt : i < s.size := by simpa using hlt
    obtain ⟨b, hb⟩ := at_lt hlt
    refine V0 ?_
    refine ⟨by omega, b, hb, ?_⟩
    refine V0 ?_
    refine ⟨_, _, hp b.toNat, ?_⟩
    refine V0 ?_
    refine ⟨fun h => ?_, fun h => ?_⟩
    · refine V0 ?_
      exact ⟨i + 1, ⟨hlt, true_upto hall (bts_at hb) h⟩, by show s.size - (i + 1) < s.size - i; omega, le_of [] rfl rfl rfl ⟨step_num hlt (by omega), rfl, rfl, trivial⟩ trivial⟩
    · refine V0 ?_
      refine fin_frz TT ?_ rfl
      rw [runN_at hall (bts_at hb) h]; rfl
  · have hge : ¬ i < s.size := by simpa using hge
    have hi : i = s.size := by omega
    refine V0 ?_
    refine fin_frz TT ?_ rfl
    rw [runN_all hall (by rw [bts_len]; omega), bts_len, hi]; rfl
end Go.Av.Z

/- Names: the program's tokens. -/
set_option maxHeartbeats 4000000
namespace Go.Av.Z
open Go.Proofs

theorem c285 (s : ByteArray) (n : Int) : Con P 285 [] [.str s, .int .u8 n] (.int .i64 (Lib.indexByte s.data.toList n.toNat.toUInt8)) [] := by
  refine ⟨⟨_, Tryz.func285, rfl, rfl⟩, ?_, Nat.le_refl _⟩
  intro w F σ vs hX hfree hargs
  have e : vs = #[.string s, .int .u8 n] := by
    apply Array.ext (by rw [hargs.1]; rfl)
    intro i h1 h2
    have h2 : i < 2 := h2
    rcases (by omega : i = 0 ∨ i = 1) with rfl | rfl
    · have := (hargs.2 0 (.str s) rfl).unstr
      simpa [Array.getD, h1] using this
    · have := (hargs.2 1 (.int .u8 n) rfl).unint
      simpa [Array.getD, h1] using this
  subst e
  refine (Tryz.strings_IndexByte s n w).mono ?_
  rintro e w' ⟨rfl, rfl⟩
  exact ⟨_, σ, F, rfl, fun _ _ h => h, hfree, .int .., hX⟩

theorem strs_hl {l : List ByteArray} {rest : List AV} (h : ∀ n ∈ lensL (.slice 1 (strs l) :: rest), n ≤ 9223372036854775807) : l.length ≤ 9223372036854775807 := by
  have := h (strs l).length (by simp [lensL, lens])
  rwa [strs_len] at this
theorem c286 (l : List ByteArray) (s : ByteArray) : Con P 286 [] [.slice 1 (strs l), .str s] (.int .i64 (idx (eqS s) l)) [] := by
  refine go Tryz.func286 (by rfl) rfl rfl rfl fun hl => ?_
  refine W0 ?_
  have hn := strs_hl hl
  refine loop (fun i : Nat => mkSt [(8, .int .i64 i), (7, .int .i64 l.length), (0, .slice 1 (strs l)), (1, .str s)] []) (fun i => i ≤ l.length ∧ ∀ j y, j < i → l[j]? = some y → eqS s y = false) (fun i => l.length - i) 0 ⟨Nat.zero_le _, fun j y h => by omega⟩
    (le_of [] rfl rfl rfl ⟨rfl, by rw [strs_len]; rfl, rfl, rfl, trivial⟩ trivial) ?_
  rintro i ⟨hi, hno⟩
  refine V0 ?_
  refine ⟨fun hlt => ?_, fun hge => ?_⟩
  · have hlt := of_lt hlt
    have hx : l[i]? = some l[i] := List.getElem?_eq_getElem hlt
    generalize l[i] = x at hx
    refine V0 ?_
    refine ⟨by omega, _, strs_at hx, ?_⟩
    refine V0 ?_
    refine ⟨fun h3 => ?_, fun h3 => ?_⟩
    · refine V0 ?_
      refine fin_frz TT ?_ rfl
      rw [idx_some hno hx h3]; rfl
    · refine V0 ?_
      exact ⟨i + 1, ⟨hlt, none_upto (p := eqS s) hno hx h3⟩, by show l.length - (i + 1) < l.length - i; omega, le_of [] rfl rfl rfl ⟨step_num hlt hn, rfl, rfl, rfl, trivial⟩ trivial⟩
  · have hge := of_ge hge
    refine V0 ?_
    refine fin_frz TT ?_ rfl
    rw [idx_none (none_all hno (by omega))]; rfl
theorem c260 (l : List ByteArray) (s : ByteArray) : Con P 260 [] [.slice 1 (strs l), .str s] (.bool (l.any (eqS s))) [] := by
  refine go Tryz.func260 (by rfl) rfl rfl rfl fun hl => ?_
  refine W0 ?_
  refine ⟨_, _, c286 l s, ?_⟩
  refine V0 ?_
  refine fin_frz TT ?_ rfl
  rw [← idx_any]; rfl

def qtoI (n : Int) : Bool := decide (32 ≤ n) && (decide (n ≤ 126) && n != 34)
theorem c291 (n : Int) : Con P 291 [] [.int .u8 n] (.bool (qtoI n)) [] := by
  refine go Tryz.func291 (by rfl) rfl rfl rfl fun hl => ?_
  refine W0 ?_
  refine ⟨fun h1 => ?_, fun h1 => ?_⟩
  · refine V0 ?_
    refine ⟨fun h2 => ?_, fun h2 => ?_⟩
    · refine V0 ?_
      refine fin_frz TT ?_ rfl
      rw [qtoI, h1, h2]; rfl
    · refine V0 ?_
      refine fin_frz TT ?_ rfl
      rw [qtoI, h1, h2]; rfl
  · refine V0 ?_
    refine fin_frz TT ?_ rfl
    rw [qtoI, h1]; rfl
def tailS (s : ByteArray) : ByteArray := s.extract 1 s.size
theorem tailS_size (s : ByteArray) : (tailS s).size = s.size - 1 := by simp [tailS]
def qtoN (s : ByteArray) : Nat := runN qtoI (bts (tailS s))
theorem qtoN_le (s : ByteArray) : qtoN s ≤ s.size - 1 := by
  have := runN_le qtoI (bts (tailS s))
  rwa [bts_len, tailS_size] at this
def qtoV (s : ByteArray) : Int × Int := if 1 + qtoN s = s.size ∨ (bts s).getD (1 + qtoN s) 0 ≠ 34 then (0, 2) else if 60 < qtoN s then (0, 3) else ((qtoN s : Int) + 2, 0)
theorem c283 (s : ByteArray) (hs : s.size ≤ 1048576) (h0 : 0 < s.size) : Con P 283 [] [.str s] (.tuple [.int .i64 (qtoV s).1, .int .i64 (qtoV s).2]) [] := by
  have hle := qtoN_le s
  have hrun := c280 (tailS s) 291 qtoI (by rw [tailS_size]; omega) (fun n => c291 n)
  have hV : qtoV s = if 1 + qtoN s = s.size ∨ (bts s).getD (1 + qtoN s) 0 ≠ 34 then (0, 2) else if 60 < qtoN s then (0, 3) else ((qtoN s : Int) + 2, 0) := rfl
  rw [show runN qtoI (bts (tailS s)) = qtoN s from rfl] at hrun
  generalize qtoN s = q at hle hrun hV
  have hw : IntKind.i64.wrap (1 + (q : Int)) = 1 + q := wrap_small (by omega) (by omega)
  have hw2 : IntKind.i64.wrap ((q : Int) + 2) = q + 2 := wrap_small (by omega) (by omega)
  refine go Tryz.func283 (by rfl) rfl rfl rfl fun hl => ?_
  refine W0 ?_
  refine ⟨by omega, ⟨by show (1 : Int).toNat ≤ _; simp; omega, Nat.le_refl _⟩, ?_⟩
  refine V0 ?_
  refine ⟨_, _, hrun, ?_⟩
  refine V0 ?_
  refine ⟨fun h1 => ?_, fun h1 => ?_⟩
  · have h1 : 1 + q = s.size := by
      have h1 : (IntKind.i64.wrap (1 + (q : Int)) == (s.size : Int)) = true := h1
      rw [hw] at h1; simp at h1; omega
    refine V0 ?_
    refine fin_frz TT ?_ rfl
    rw [hV, if_pos (.inl h1)]; rfl
  · have h1 : 1 + q < s.size := by
      have h1 : (IntKind.i64.wrap (1 + (q : Int)) == (s.size : Int)) = false := h1
      rw [hw] at h1; simp at h1; omega
    obtain ⟨b, hb⟩ := at_lt h1
    have hg : (bts s).getD (1 + q) 0 = b.toNat := by rw [List.getD_eq_getElem?_getD, bts_at hb]; rfl
    refine V0 ?_
    refine ⟨by show 0 ≤ IntKind.i64.wrap (1 + (q : Int)); rw [hw]; omega, b, by show s[(IntKind.i64.wrap (1 + (q : Int))).toNat]? = some b; rw [hw, show ((1 + (q : Int)).toNat) = 1 + q by omega]; exact hb, ?_⟩
    refine V0 ?_
    refine ⟨fun h2 => ?_, fun h2 => ?_⟩
    · have h2 : (b.toNat : Int) ≠ 34 := by have h2 : ((b.toNat : Int) != 34) = true := h2; simpa using h2
      refine V0 ?_
      refine fin_frz TT ?_ rfl
      rw [hV, if_pos (.inr (by rw [hg]; exact h2))]; rfl
    · have h2 : (b.toNat : Int) = 34 := by have h2 : ((b.toNat : Int) != 34) = false := h2; simpa using h2
      refine V0 ?_
      refine ⟨fun h3 => ?_, fun h3 => ?_⟩
      · have h3 : 60 < q := by have := of_decide_eq_true h3; omega
        refine V0 ?_
        refine fin_frz TT ?_ rfl
        rw [hV, if_neg (by rw [hg]; omega), if_pos h3]; rfl
      · have h3 : ¬ 60 < q := by have := of_decide_eq_false h3; omega
        refine V0 ?_
        refine fin_frz TT ?_ rfl
        rw [hV, if_neg (by rw [hg]; omega), if_neg h3, hw2]; rfl
def prsS : List ByteArray := [⟨#[45, 62]⟩, ⟨#[60, 61]⟩, ⟨#[62, 61]⟩, ⟨#[61, 61]⟩, ⟨#[33, 61]⟩]
def pairB (s : ByteArray) : Bool := decide (2 ≤ s.size) && prsS.any (eqS (s.extract 0 2))
theorem c284 (s : ByteArray) : Con P 284 [] [.str s] (.bool (pairB s)) [] := by
  refine go Tryz.func284 (by rfl) rfl rfl rfl fun hl => ?_
  refine W0 ?_
  refine ⟨fun h1 => ?_, fun h1 => ?_⟩
  · have h1 : 2 ≤ s.size := by have := of_decide_eq_true h1; omega
    refine V0 ?_
    refine ⟨by omega, ⟨Nat.zero_le _, h1⟩, ?_⟩
    refine V0 ?_
    refine ⟨_, _, con_frz rfl rfl rfl (c260 prsS (s.extract 0 2)), ?_⟩
    refine V0 ?_
    refine fin_frz TT ?_ rfl
    rw [pairB, decide_eq_true h1]; rfl
  · have h1 : ¬ 2 ≤ s.size := by have := of_decide_eq_false h1; omega
    refine V0 ?_
    refine fin_frz TT ?_ rfl
    rw [pairB, decide_eq_false h1]; rfl
end Go.Av.Z

/- Names: what is one, in the program. -/
set_option maxHeartbeats 4000000
namespace Go.Av.Z
open Go.Proofs

def sgl : ByteArray := ⟨#[123, 125, 40, 41, 91, 93, 44, 59, 58, 61, 43, 45, 42, 60, 62, 33, 38, 124, 46, 63]⟩
/-- A name. -/
def isNm (s : ByteArray) : Bool := ltrI ((bts s).getD 0 0) && (decide (runN prtI (bts s) ≤ 20) && decide (runN prtI (bts s) = s.size))
def nxt (s : ByteArray) : Int × Int × Int :=
  if ltrI ((bts s).getD 0 0) = true then (if 20 < runN prtI (bts s) then (0, 0, 3) else (1, runN prtI (bts s), 0))
  else if dgtI ((bts s).getD 0 0) = true then (if 9 < runN dgtI (bts s) then (0, 0, 3) else (2, runN dgtI (bts s), 0))
  else if ((bts s).getD 0 0 == 34) = true then (3, (qtoV s).1, (qtoV s).2)
  else if pairB s = true then (4, 2, 0)
  else if decide (0 ≤ Lib.indexByte sgl.data.toList ((bts s).getD 0 0).toNat.toUInt8) = true then (4, 1, 0) else (0, 0, 2)
def nxtV (s : ByteArray) : AV := .tuple [.int .i64 (nxt s).1, .int .i64 (nxt s).2.1, .int .i64 (nxt s).2.2]
theorem c258 (s : ByteArray) (hs : s.size ≤ 1048576) (h0 : 0 < s.size) : Con P 258 [] [.str s] (nxtV s) [] := by
  obtain ⟨b, hb⟩ := at_lt h0
  have hg : (bts s).getD 0 0 = b.toNat := by rw [List.getD_eq_getElem?_getD, bts_at hb]; rfl
  have hr1 := c280 s 281 prtI hs (fun n => c281 n)
  have hr2 := c280 s 282 dgtI hs (fun n => c282 n)
  have hq := c283 s hs h0
  have hp := c284 s
  have hi := c285 sgl b.toNat
  have hV : nxtV s = .tuple [.int .i64 (nxt s).1, .int .i64 (nxt s).2.1, .int .i64 (nxt s).2.2] := rfl
  unfold nxt at hV
  rw [hg] at hV
  have hc1 := c279 b.toNat
  have hc2 := c282 b.toNat
  generalize runN prtI (bts s) = q1 at hr1 hV
  generalize runN dgtI (bts s) = q2 at hr2 hV
  generalize qtoV s = v at hq hV
  generalize pairB s = pb at hp hV
  generalize Lib.indexByte sgl.data.toList ((b.toNat : Int).toNat.toUInt8) = ib at hi hV
  generalize ltrI (b.toNat : Int) = l1 at hc1 hV
  generalize dgtI (b.toNat : Int) = l2 at hc2 hV
  generalize nxtV s = R at hV
  refine go Tryz.func258 (by rfl) rfl rfl rfl fun hl => ?_
  refine W0 ?_
  refine ⟨by omega, b, hb, ?_⟩
  refine V0 ?_
  refine ⟨_, _, hc1, ?_⟩
  refine V0 ?_
  refine ⟨fun h1 => ?_, fun h1 => ?_⟩
  · rw [if_pos h1] at hV
    refine V0 ?_
    refine ⟨_, _, hr1, ?_⟩
    refine V0 ?_
    refine ⟨fun h2 => ?_, fun h2 => ?_⟩
    · have h2 : 20 < q1 := by have := of_decide_eq_true h2; omega
      rw [if_pos h2] at hV
      refine V0 ?_
      subst hV
      refine fin_frz TT ?_ rfl
      rfl
    · have h2 : ¬ 20 < q1 := by have := of_decide_eq_false h2; omega
      rw [if_neg h2] at hV
      refine V0 ?_
      subst hV
      refine fin_frz TT ?_ rfl
      rfl
  rw [if_neg (by simp [h1])] at hV
  refine V0 ?_
  refine ⟨_, _, hc2, ?_⟩
  refine V0 ?_
  refine ⟨fun h2 => ?_, fun h2 => ?_⟩
  · rw [if_pos h2] at hV
    refine V0 ?_
    refine ⟨_, _, hr2, ?_⟩
    refine V0 ?_
    refine ⟨fun h3 => ?_, fun h3 => ?_⟩
    · have h3 : 9 < q2 := by have := of_decide_eq_true h3; omega
      rw [if_pos h3] at hV
      refine V0 ?_
      subst hV
      refine fin_frz TT ?_ rfl
      rfl
    · have h3 : ¬ 9 < q2 := by have := of_decide_eq_false h3; omega
      rw [if_neg h3] at hV
      refine V0 ?_
      subst hV
      refine fin_frz TT ?_ rfl
      rfl
  rw [if_neg (by simp [h2])] at hV
  refine V0 ?_
  refine ⟨fun h3 => ?_, fun h3 => ?_⟩
  · rw [if_pos h3] at hV
    refine V0 ?_
    refine ⟨_, _, hq, ?_⟩
    refine V0 ?_
    subst hV
    refine fin_frz TT ?_ rfl
    rfl
  have h3 : ((b.toNat : Int) == 34) = false := h3
  rw [if_neg (by simp [h3])] at hV
  refine V0 ?_
  refine ⟨_, _, hp, ?_⟩
  refine V0 ?_
  refine ⟨fun h4 => ?_, fun h4 => ?_⟩
  · rw [if_pos h4] at hV
    refine V0 ?_
    subst hV
    refine fin_frz TT ?_ rfl
    rfl
  rw [if_neg (by simp [h4])] at hV
  refine V0 ?_
  refine ⟨_, _, hi, ?_⟩
  refine V0 ?_
  refine ⟨fun h5 => ?_, fun h5 => ?_⟩
  · rw [if_pos h5] at hV
    refine V0 ?_
    subst hV
    refine fin_frz TT ?_ rfl
    rfl
  · have h5 : decide (0 ≤ ib) = false := h5
    rw [if_neg (by simpa using h5)] at hV
    refine V0 ?_
    subst hV
    refine fin_frz TT ?_ rfl
    rfl
theorem nxt_name (s : ByteArray) : ((nxt s).2.2 == 0 && ((nxt s).1 == 1 && (nxt s).2.1 == (s.size : Int))) = isNm s := by
  unfold nxt isNm
  cases h1 : ltrI ((bts s).getD 0 0)
  · simp only [Bool.false_eq_true, if_false, Bool.false_and]
    split
    · split <;> simp
    · split
      · simp
      · split
        · simp
        · split <;> simp
  · simp only [if_true, Bool.true_and]
    split
    · rename_i h
      have : ¬ runN prtI (bts s) ≤ 20 := by omega
      simp [this]
    · rename_i h
      have : runN prtI (bts s) ≤ 20 := by omega
      simp only [this, decide_true, Bool.true_and, BEq.rfl]
      rw [Bool.eq_iff_iff]; simp; omega
/-- What whole answers of a token that is to be a name. -/
theorem c224 (s : ByteArray) (n : Int) (hs : s.size ≤ 1048576) : ∃ x, Con P 224 [] [.agg [.int .i64 1, .str s, .int .i64 n]] (.tuple [.str x, .bool (isNm s)]) [] := by
  by_cases h0 : s.size = 0
  · refine ⟨⟨#[]⟩, ?_⟩
    have he : (s.toList == (⟨#[]⟩ : ByteArray).toList) = true := by rw [isEmpty_iff]; simpa using h0
    have hn : isNm s = false := by
      have : bts s = [] := List.eq_nil_of_length_eq_zero (by rw [bts_len, h0])
      rw [isNm, this]; rfl
    refine go Tryz.func224 (by rfl) rfl rfl rfl fun hl => ?_
    refine W0 ?_
    refine ⟨fun h1 => ?_, fun h1 => absurd (he.symm.trans h1) (by simp)⟩
    refine V0 ?_
    refine fin_frz TT ?_ rfl
    rw [hn]; rfl
  · refine ⟨s, ?_⟩
    have he : (s.toList == (⟨#[]⟩ : ByteArray).toList) = false := by rw [isEmpty_iff]; simpa using h0
    have hx := c258 s hs (by omega)
    have hn := nxt_name s
    unfold nxtV at hx
    generalize nxt s = v at hx hn
    obtain ⟨v1, v2, v3⟩ := v
    refine go Tryz.func224 (by rfl) rfl rfl rfl fun hl => ?_
    refine W0 ?_
    refine ⟨fun h1 => absurd (he.symm.trans h1) (by simp), fun h1 => ?_⟩
    refine V0 ?_
    refine ⟨_, _, hx, ?_⟩
    refine V0 ?_
    refine ⟨fun h1 => ?_, fun h1 => ?_⟩
    · have h1 : (v3 == 0) = true := h1
      refine V0 ?_
      refine ⟨fun h2 => ?_, fun h2 => ?_⟩
      · have h2 : (v1 == 1) = true := h2
        refine V0 ?_
        refine fin_frz TT ?_ rfl
        rw [← hn]
        simp only [h1, h2, Bool.true_and]; rfl
      · have h2 : (v1 == 1) = false := h2
        refine V0 ?_
        refine fin_frz TT ?_ rfl
        rw [← hn]
        simp only [h1, h2, Bool.true_and, Bool.false_and]; rfl
    · have h1 : (v3 == 0) = false := h1
      refine V0 ?_
      refine fin_frz TT ?_ rfl
      rw [← hn]
      simp only [h1, Bool.false_and]; rfl
theorem c177 (s : ByteArray) (hs : s.size ≤ 1048576) : Con P 177 [] [.str s] (.bool (isNm s)) [] := by
  obtain ⟨x, hx⟩ := c224 s 0 hs
  refine go Tryz.func177 (by rfl) rfl rfl rfl fun hl => ?_
  refine W0 ?_
  refine ⟨_, _, hx, ?_⟩
  refine V0 ?_
  refine fin_frz TT ?_ rfl
  rfl
end Go.Av.Z

/- Names: what is one, in the reference. -/
set_option maxHeartbeats 4000000
namespace Go.Av.Z
open Go.Proofs

def runQ (d : Bool) (n : Int) : Bool := dgtI n || (!d && (ltrI n || n == 95))
theorem runQ_t : runQ true = dgtI := by funext n; simp [runQ]
theorem runQ_f : runQ false = prtI := by funext n; simp only [runQ, prtI]; cases ltrI n <;> cases dgtI n <;> simp
theorem c276 (s : ByteArray) (d : Bool) (hs : s.size ≤ 1048576) : Con P 276 [] [.str s, .int .i64 0, .bool d] (.int .i64 (runN (runQ d) (bts s))) [] := by
  refine go Tryz.func276 (by rfl) rfl rfl rfl fun hl => ?_
  refine W0 ?_
  refine loop (fun i : Nat => mkSt [(7, .int .i64 i), (0, .str s), (1, .int .i64 0), (2, .bool d)] []) (fun i => i ≤ s.size ∧ ∀ (j : Nat) y, j < i → (bts s)[j]? = some y → runQ d y = true) (fun i => s.size - i) 0 ⟨Nat.zero_le _, fun j y h => by omega⟩
    (le_of [] rfl rfl rfl ⟨rfl, rfl, rfl, rfl, trivial⟩ trivial) ?_
  rintro i ⟨hi, hall⟩
  have hw : IntKind.i64.wrap (0 + (i : Int)) = i := by rw [wrap_small (by omega) (by omega)]; omega
  refine V0 ?_
  have done : ∀ x : Int, runN (runQ d) (bts s) = i → .int .i64 (runN (runQ d) (bts s)) = AV.int .i64 i := fun _ h => by rw [h]
  refine ⟨fun hlt => ?_, fun hge => ?_⟩
  · have hlt : i < s.size := by
      have := of_decide_eq_true hlt
      rw [hw] at this; omega
    obtain ⟨b, hb⟩ := at_lt hlt
    have hb' : s[(IntKind.i64.wrap (0 + (i : Int))).toNat]? = some b := by rw [hw]; exact hb
    have goon : runQ d b.toNat = true → ∃ y, (y ≤ s.size ∧ ∀ (j : Nat) z, j < y → (bts s)[j]? = some z → runQ d z = true) ∧ y = i + 1 := fun h => ⟨i + 1, ⟨hlt, true_upto hall (bts_at hb) h⟩, rfl⟩
    refine V0 ?_
    refine ⟨by rw [hw]; omega, b, hb', ?_⟩
    refine V0 ?_
    refine ⟨_, _, c275 b.toNat, ?_⟩
    refine V0 ?_
    refine ⟨fun h1 => ?_, fun h1 => ?_⟩
    · refine V0 ?_
      exact ⟨i + 1, ⟨hlt, true_upto hall (bts_at hb) (by rw [runQ, h1]; rfl)⟩, by show s.size - (i + 1) < s.size - i; omega, le_of [] rfl rfl rfl ⟨step_num hlt (by omega), rfl, rfl, rfl, trivial⟩ trivial⟩
    refine V0 ?_
    refine ⟨fun h2 => ?_, fun h2 => ?_⟩
    · have h2 : d = false := by simpa using h2
      refine V0 ?_
      refine ⟨by rw [hw]; omega, b, hb', ?_⟩
      refine V0 ?_
      refine ⟨_, _, c274 b.toNat, ?_⟩
      refine V0 ?_
      refine ⟨fun h3 => ?_, fun h3 => ?_⟩
      · refine V0 ?_
        exact ⟨i + 1, ⟨hlt, true_upto hall (bts_at hb) (by rw [runQ, h1, h2, h3]; rfl)⟩, by show s.size - (i + 1) < s.size - i; omega, le_of [] rfl rfl rfl ⟨step_num hlt (by omega), rfl, rfl, rfl, trivial⟩ trivial⟩
      · refine V0 ?_
        refine ⟨by rw [hw]; omega, b, hb', ?_⟩
        refine V0 ?_
        refine ⟨fun h4 => ?_, fun h4 => ?_⟩
        · refine V0 ?_
          exact ⟨i + 1, ⟨hlt, true_upto hall (bts_at hb) (by rw [runQ, h1, h2, h3, h4]; rfl)⟩, by show s.size - (i + 1) < s.size - i; omega, le_of [] rfl rfl rfl ⟨step_num hlt (by omega), rfl, rfl, rfl, trivial⟩ trivial⟩
        · refine V0 ?_
          refine fin_frz TT ?_ rfl
          rw [runN_at hall (bts_at hb) (by rw [runQ, h1, h2, h3, h4]; rfl)]; rfl
    · have h2 : d = true := by simpa using h2
      refine V0 ?_
      refine fin_frz TT ?_ rfl
      rw [runN_at hall (bts_at hb) (by rw [runQ, h1, h2]; rfl)]; rfl
  · have hge : ¬ i < s.size := by
      have := of_decide_eq_false hge
      rw [hw] at this; omega
    have hi : i = s.size := by omega
    refine V0 ?_
    refine fin_frz TT ?_ rfl
    rw [runN_all hall (by rw [bts_len]; omega), bts_len, hi]; rfl
def qtoR : List Int → Nat → Int
  | [], _ => 0
  | c :: r, n => if (c == 34) = true then n + 1 else if decide (c < 32) = true ∨ decide (126 < c) = true then 0 else qtoR r (n + 1)
theorem qtoR_le : ∀ (l : List Int) (n : Nat), qtoR l n = 0 ∨ ((n : Int) + 1 ≤ qtoR l n ∧ qtoR l n ≤ n + l.length)
  | [], n => .inl rfl
  | c :: r, n => by
    unfold qtoR
    split
    · right; simp; omega
    · split
      · exact .inl rfl
      · rcases qtoR_le r (n + 1) with h | h
        · exact .inl h
        · right; simp at h ⊢; omega
theorem drop_at {α : Type} {l : List α} {i : Nat} {x : α} (h : l[i]? = some x) : l.drop i = x :: l.drop (i + 1) := by
  obtain ⟨h1, h2⟩ := List.getElem?_eq_some_iff.1 h
  rw [List.drop_eq_getElem_cons h1, h2]
theorem c277 (s : ByteArray) (hs : s.size ≤ 1048576) : Con P 277 [] [.str s, .int .i64 0] (.int .i64 (qtoR ((bts s).drop 1) 1)) [] := by
  obtain ⟨R, hR⟩ : ∃ R, R = qtoR ((bts s).drop 1) 1 := ⟨_, rfl⟩
  rw [← hR]
  refine go Tryz.func277 (by rfl) rfl rfl rfl fun hl => ?_
  refine W0 ?_
  refine loop (fun i : Nat => mkSt [(5, .int .i64 i), (0, .str s), (1, .int .i64 0)] []) (fun i => (i ≤ s.size ∨ i = 1) ∧ qtoR ((bts s).drop i) i = R) (fun i => s.size - i) 1 ⟨.inr rfl, hR.symm⟩
    (le_of [] rfl rfl rfl ⟨rfl, rfl, rfl, trivial⟩ trivial) ?_
  rintro i ⟨hi, hq⟩
  have hw : IntKind.i64.wrap (0 + (i : Int)) = i := by rw [wrap_small (by omega) (by omega)]; omega
  have hw1 : IntKind.i64.wrap ((i : Int) + 1) = i + 1 := wrap_small (by omega) (by omega)
  refine V0 ?_
  refine ⟨fun hlt => ?_, fun hge => ?_⟩
  · have hlt : i < s.size := by
      have := of_decide_eq_true hlt
      rw [hw] at this; omega
    obtain ⟨b, hb⟩ := at_lt hlt
    have hb' : s[(IntKind.i64.wrap (0 + (i : Int))).toNat]? = some b := by rw [hw]; exact hb
    rw [drop_at (bts_at hb), qtoR] at hq
    refine V0 ?_
    refine ⟨by rw [hw]; omega, b, hb', ?_⟩
    refine V0 ?_
    refine ⟨fun h1 => ?_, fun h1 => ?_⟩
    · rw [if_pos h1] at hq
      refine V0 ?_
      refine fin_frz TT ?_ rfl
      rw [← hq, hw1]; rfl
    · rw [if_neg (by simp [show ((b.toNat : Int) == 34) = false from h1])] at hq
      refine V0 ?_
      refine ⟨fun h2 => ?_, fun h2 => ?_⟩
      · rw [if_pos (.inl h2)] at hq
        refine V0 ?_
        refine fin_frz TT ?_ rfl
        rw [← hq]; rfl
      · refine V0 ?_
        refine ⟨fun h3 => ?_, fun h3 => ?_⟩
        · rw [if_pos (.inr h3)] at hq
          refine V0 ?_
          refine fin_frz TT ?_ rfl
          rw [← hq]; rfl
        · rw [if_neg (by rw [h2, show decide (126 < (b.toNat : Int)) = false from h3]; simp)] at hq
          refine V0 ?_
          exact ⟨i + 1, ⟨.inl hlt, hq⟩, by show s.size - (i + 1) < s.size - i; omega, le_of [] rfl rfl rfl ⟨step_num hlt (by omega), rfl, rfl, trivial⟩ trivial⟩
  · have hge : ¬ i < s.size := by
      have := of_decide_eq_false hge
      rw [hw] at this; omega
    have : (bts s).drop i = [] := List.drop_eq_nil_of_le (by rw [bts_len]; omega)
    rw [this] at hq
    refine V0 ?_
    refine fin_frz TT ?_ rfl
    rw [← hq]; rfl
def sgns : List ByteArray := [⟨#[45, 62]⟩, ⟨#[60, 61]⟩, ⟨#[62, 61]⟩, ⟨#[61, 61]⟩, ⟨#[33, 61]⟩, ⟨#[123]⟩, ⟨#[125]⟩, ⟨#[40]⟩, ⟨#[41]⟩, ⟨#[91]⟩, ⟨#[93]⟩, ⟨#[44]⟩, ⟨#[59]⟩, ⟨#[58]⟩, ⟨#[61]⟩, ⟨#[43]⟩, ⟨#[45]⟩, ⟨#[42]⟩, ⟨#[60]⟩, ⟨#[62]⟩, ⟨#[33]⟩, ⟨#[38]⟩, ⟨#[124]⟩, ⟨#[46]⟩, ⟨#[63]⟩]
theorem c278 : Con P 278 [] [] (.slice 1 (strs sgns)) [] := by
  refine go Tryz.func278 (by rfl) rfl rfl rfl fun hl => ?_
  refine W0 ?_
  refine fin_frz TT ?_ rfl
  rfl
theorem sgns_le : ∀ x ∈ sgns, x.size ≤ 2 := by
  intro x hx
  simp only [sgns, List.mem_cons, List.not_mem_nil, or_false] at hx
  rcases hx with rfl | rfl | rfl | rfl | rfl | rfl | rfl | rfl | rfl | rfl | rfl | rfl | rfl | rfl | rfl | rfl | rfl | rfl | rfl | rfl | rfl | rfl | rfl | rfl | rfl <;> decide
end Go.Av.Z

/- Names: the reference's token. -/
set_option maxHeartbeats 4000000
namespace Go.Av.Z
open Go.Proofs

/-- A string begins with another one. -/
def pfx (s x : ByteArray) : Bool := decide (x.size ≤ s.size) && eqS (s.extract 0 x.size) x
theorem find_at {α : Type} {p : α → Bool} : ∀ {l : List α} {i : Nat} {x : α}, (∀ (j : Nat) y, j < i → l[j]? = some y → p y = false) → l[i]? = some x → p x = true → l.find? p = some x
  | [], i, x, _, h, _ => by simp at h
  | y :: r, 0, x, h, hx, hp => by simp at hx; subst hx; simp [hp]
  | y :: r, i + 1, x, h, hx, hp => by
    have h0 := h 0 y (by omega) rfl
    rw [List.find?_cons, h0]
    exact find_at (l := r) (i := i) (fun j z hj hz => h (j + 1) z (by omega) (by simpa using hz)) (by simpa using hx) hp
theorem find_no {α : Type} {p : α → Bool} {l : List α} (h : ∀ x ∈ l, p x = false) : l.find? p = none := by
  rw [List.find?_eq_none]; intro x hx; simp [h x hx]
def eS : ByteArray := ⟨#[]⟩
def one (s : ByteArray) : Int × ByteArray × Int × Int :=
  if ltrI ((bts s).getD 0 0) = true ∨ dgtI ((bts s).getD 0 0) = true then
    (if (if dgtI ((bts s).getD 0 0) = true then (9 : Int) else 20) < runN (runQ (dgtI ((bts s).getD 0 0))) (bts s) then (0, eS, 0, 3)
     else (if dgtI ((bts s).getD 0 0) = true then 2 else 1, s.extract 0 (runN (runQ (dgtI ((bts s).getD 0 0))) (bts s)), runN (runQ (dgtI ((bts s).getD 0 0))) (bts s), 0))
  else if ((bts s).getD 0 0 == 34) = true then
    (if (qtoR ((bts s).drop 1) 1 == 0) = true then (0, eS, 0, 2) else if 60 < qtoR ((bts s).drop 1) 1 - 2 then (0, eS, 0, 3)
     else (3, s.extract 1 (qtoR ((bts s).drop 1) 1 - 1).toNat, qtoR ((bts s).drop 1) 1, 0))
  else match sgns.find? (pfx s) with
    | some x => (4, x, x.size, 0)
    | none => (0, eS, 0, 2)
def tokA (k : Int) (x : ByteArray) : AV := .agg [.int .i64 k, .str x, .int .i64 0]
def oneV (s : ByteArray) : AV := .tuple [tokA (one s).1 (one s).2.1, .int .i64 (one s).2.2.1, .int .i64 (one s).2.2.2]
theorem c251 (s : ByteArray) (hs : s.size ≤ 1048576) (h0 : 0 < s.size) : Con P 251 [] [.str s, .int .i64 0] (oneV s) [] := by
  obtain ⟨b, hb⟩ := at_lt h0
  have hg : (bts s).getD 0 0 = b.toNat := by rw [List.getD_eq_getElem?_getD, bts_at hb]; rfl
  have hc1 := c274 b.toNat
  have hc2 := c275 b.toNat
  have hrun := c276 s (dgtI b.toNat) hs
  have hle := runN_le (runQ (dgtI b.toNat)) (bts s)
  have hquo := c277 s hs
  have hql := qtoR_le ((bts s).drop 1) 1
  have hV : oneV s = .tuple [tokA (one s).1 (one s).2.1, .int .i64 (one s).2.2.1, .int .i64 (one s).2.2.2] := rfl
  unfold one at hV
  rw [hg] at hV
  rw [List.length_drop] at hql
  rw [bts_len] at hle hql
  generalize runN (runQ (dgtI b.toNat)) (bts s) = q1 at hrun hV hle
  generalize qtoR ((bts s).drop 1) 1 = q2 at hquo hV hql
  generalize ltrI (b.toNat : Int) = l1 at hc1 hV
  generalize dgtI (b.toNat : Int) = l2 at hc2 hV hrun
  generalize oneV s = R at hV
  have hw : IntKind.i64.wrap (0 + (q1 : Int)) = q1 := by rw [wrap_small (by omega) (by omega)]; omega
  have hrest : l1 = false → l2 = false → True := fun _ _ => trivial
  refine go Tryz.func251 (by rfl) rfl rfl rfl fun hl => ?_
  refine W0 ?_
  refine ⟨by omega, b, hb, ?_⟩
  refine V0 ?_
  refine ⟨_, _, hc1, ?_⟩
  refine V0 ?_
  refine ⟨fun h1 => ?_, fun h1 => ?_⟩
  · subst h1
    rw [if_pos (.inl rfl)] at hV
    refine V0 ?_
    refine ⟨_, _, hc2, ?_⟩
    refine V0 ?_
    refine ⟨_, _, hrun, ?_⟩
    refine V0 ?_
    refine ⟨_, _, hc2, ?_⟩
    refine V0 ?_
    refine ⟨fun h2 => ?_, fun h2 => ?_⟩
    · subst h2
      refine V0 ?_
      refine ⟨fun h3 => ?_, fun h3 => ?_⟩
      · have h3 : (9 : Int) < q1 := of_decide_eq_true h3
        rw [if_pos (by simpa using h3)] at hV
        refine V0 ?_
        subst hV
        refine fin_frz TT ?_ rfl
        rfl
      · have h3 : ¬ (9 : Int) < q1 := of_decide_eq_false h3
        rw [if_neg (by simpa using h3)] at hV
        refine V0 ?_
        refine ⟨by omega, by rw [hw]; omega, ⟨by rw [hw]; omega, by rw [hw]; omega⟩, ?_⟩
        refine V0 ?_
        rw [hw]
        subst hV
        refine fin_frz TT ?_ rfl
        rfl
    · subst h2
      refine V0 ?_
      refine ⟨fun h3 => ?_, fun h3 => ?_⟩
      · have h3 : (20 : Int) < q1 := of_decide_eq_true h3
        rw [if_pos (by simpa using h3)] at hV
        refine V0 ?_
        subst hV
        refine fin_frz TT ?_ rfl
        rfl
      · have h3 : ¬ (20 : Int) < q1 := of_decide_eq_false h3
        rw [if_neg (by simpa using h3)] at hV
        refine V0 ?_
        refine ⟨by omega, by rw [hw]; omega, ⟨by rw [hw]; omega, by rw [hw]; omega⟩, ?_⟩
        refine V0 ?_
        rw [hw]
        subst hV
        refine fin_frz TT ?_ rfl
        rfl
  subst h1
  refine V0 ?_
  refine ⟨_, _, hc2, ?_⟩
  refine V0 ?_
  refine ⟨fun h2 => ?_, fun h2 => ?_⟩
  · subst h2
    rw [if_pos (.inr rfl)] at hV
    refine V0 ?_
    refine ⟨_, _, hc2, ?_⟩
    refine V0 ?_
    refine ⟨_, _, hrun, ?_⟩
    refine V0 ?_
    refine ⟨_, _, hc2, ?_⟩
    refine V0 ?_
    refine ⟨fun h3 => ?_, fun h3 => ?_⟩
    · have h3 : (9 : Int) < q1 := of_decide_eq_true h3
      rw [if_pos (by simpa using h3)] at hV
      refine V0 ?_
      subst hV
      refine fin_frz TT ?_ rfl
      rfl
    · have h3 : ¬ (9 : Int) < q1 := of_decide_eq_false h3
      rw [if_neg (by simpa using h3)] at hV
      refine V0 ?_
      refine ⟨by omega, by rw [hw]; omega, ⟨by rw [hw]; omega, by rw [hw]; omega⟩, ?_⟩
      refine V0 ?_
      rw [hw]
      subst hV
      refine fin_frz TT ?_ rfl
      rfl
  subst h2
  rw [if_neg (by simp)] at hV
  refine V0 ?_
  refine ⟨fun h3 => ?_, fun h3 => ?_⟩
  · rw [if_pos h3] at hV
    refine V0 ?_
    refine ⟨_, _, hquo, ?_⟩
    refine V0 ?_
    refine ⟨fun h4 => ?_, fun h4 => ?_⟩
    · rw [if_pos h4] at hV
      refine V0 ?_
      subst hV
      refine fin_frz TT ?_ rfl
      rfl
    have h4 : (q2 == 0) = false := h4
    have h4' : q2 ≠ 0 := by simpa using h4
    have hw1 : IntKind.i64.wrap (q2 - 2) = q2 - 2 := wrap_small (by omega) (by omega)
    have hw2 : IntKind.i64.wrap (0 + q2) = q2 := by rw [wrap_small (by omega) (by omega)]; omega
    have hw3 : IntKind.i64.wrap (q2 - 1) = q2 - 1 := wrap_small (by omega) (by omega)
    have hw4 : IntKind.i64.wrap (0 + 1) = 1 := by decide
    rw [if_neg (by simp [h4])] at hV
    refine V0 ?_
    refine ⟨fun h5 => ?_, fun h5 => ?_⟩
    · have h5 : 60 < IntKind.i64.wrap (q2 - 2) := of_decide_eq_true h5
      rw [hw1] at h5
      rw [if_pos h5] at hV
      refine V0 ?_
      subst hV
      refine fin_frz TT ?_ rfl
      rfl
    · have h5 : ¬ 60 < IntKind.i64.wrap (q2 - 2) := of_decide_eq_false h5
      rw [hw1] at h5
      rw [if_neg h5] at hV
      refine V0 ?_
      refine ⟨by decide, by rw [hw2, hw3]; omega, ⟨by rw [hw2, hw3, hw4]; show (1 : Int).toNat ≤ _; omega, by rw [hw2, hw3]; omega⟩, ?_⟩
      refine V0 ?_
      rw [hw2, hw3]
      subst hV
      refine fin_frz TT ?_ rfl
      rfl
  have h3 : ((b.toNat : Int) == 34) = false := h3
  rw [if_neg (by simp [h3])] at hV
  refine V0 ?_
  refine ⟨_, _, c278, ?_⟩
  refine V0 ?_
  clear hquo hrun hc1 hc2
  refine loop (fun i : Nat => mkSt [(13, .int .i64 i), (12, .slice 1 (strs sgns)), (0, .str s), (1, .int .i64 0), (4, .bptr 0 0)] [.box 225 [.int .i64 0, .str eS, .int .i64 0]]) (fun i => i ≤ sgns.length ∧ ∀ j y, j < i → sgns[j]? = some y → pfx s y = false) (fun i => sgns.length - i) 0 ⟨Nat.zero_le _, fun j y h => by omega⟩
    (le_of [0] rfl rfl rfl ⟨rfl, rfl, rfl, rfl, rfl, trivial⟩ ⟨rfl, trivial⟩) ?_
  rintro i ⟨hi, hno⟩
  refine V0 ?_
  rw [strs_len]
  refine ⟨fun hlt => ?_, fun hge => ?_⟩
  · have hlt : i < sgns.length := by have := of_decide_eq_true hlt; omega
    have hx : sgns[i]? = some sgns[i] := List.getElem?_eq_getElem hlt
    generalize sgns[i] = x at hx
    have hx2 := sgns_le x (List.mem_of_getElem? hx)
    have hw : IntKind.i64.wrap (0 + (x.size : Int)) = x.size := by rw [wrap_small (by omega) (by omega)]; omega
    have hlen : sgns.length = 25 := rfl
    refine V0 ?_
    refine ⟨by omega, _, strs_at hx, ?_⟩
    refine V0 ?_
    refine ⟨fun h4 => ?_, fun h4 => ?_⟩
    · have h4 : x.size ≤ s.size := by
        have := of_decide_eq_true h4
        rw [hw] at this; omega
      refine V0 ?_
      refine ⟨by omega, _, strs_at hx, ?_⟩
      refine V0 ?_
      refine ⟨by decide, by rw [hw]; omega, ⟨by rw [hw]; omega, by rw [hw]; omega⟩, ?_⟩
      refine V0 ?_
      refine ⟨by omega, _, strs_at hx, ?_⟩
      refine V0 ?_
      rw [hw]
      have hp : pfx s x = eqS (s.extract 0 x.size) x := by rw [pfx, decide_eq_true h4]; rfl
      refine ⟨fun h5 => ?_, fun h5 => ?_⟩
      · rw [find_at hno hx (hp.trans h5)] at hV
        refine V0 ?_
        refine ⟨by omega, _, strs_at hx, ?_⟩
        refine V0 ?_
        refine ⟨by omega, _, strs_at hx, ?_⟩
        refine V0 ?_
        subst hV
        refine fin_frz TT ?_ rfl
        rfl
      · refine V0 ?_
        exact ⟨i + 1, ⟨hlt, none_upto (p := pfx s) hno hx (hp.trans h5)⟩, by show sgns.length - (i + 1) < sgns.length - i; omega, le_of [0] rfl rfl rfl ⟨step_num hlt (by omega), rfl, rfl, rfl, rfl, trivial⟩ ⟨rfl, trivial⟩⟩
    · have h4 : ¬ x.size ≤ s.size := by
        have := of_decide_eq_false h4
        rw [hw] at this; omega
      have hp : pfx s x = false := by rw [pfx, decide_eq_false h4]; rfl
      refine V0 ?_
      exact ⟨i + 1, ⟨hlt, none_upto (p := pfx s) hno hx hp⟩, by show sgns.length - (i + 1) < sgns.length - i; omega, le_of [0] rfl rfl rfl ⟨step_num hlt (by omega), rfl, rfl, rfl, rfl, trivial⟩ ⟨rfl, trivial⟩⟩
  · have hge : ¬ i < sgns.length := by have := of_decide_eq_false hge; omega
    rw [find_no (none_all hno (by omega))] at hV
    refine V0 ?_
    subst hV
    refine fin_frz TT ?_ rfl
    rfl
theorem one_name (s : ByteArray) : ((one s).2.2.2 == 0 && ((one s).2.2.1 == (s.size : Int) && (one s).1 == 1)) = isNm s := by
  unfold one isNm
  cases h1 : ltrI ((bts s).getD 0 0)
  · simp only [Bool.false_eq_true, false_or, Bool.false_and]
    split
    · rename_i h2
      rw [h2]
      split <;> simp
    · split
      · split
        · simp
        · split <;> simp
      · split <;> simp
  · have h2 : dgtI ((bts s).getD 0 0) = false := by
      generalize (bts s).getD 0 0 = n at h1
      unfold ltrI at h1
      unfold dgtI
      simp at h1 ⊢
      omega
    rw [h2, runQ_f]
    simp only [true_or, if_true, Bool.true_and, Bool.false_eq_true, if_false]
    split
    · rename_i h
      have : ¬ runN prtI (bts s) ≤ 20 := by omega
      simp [this]
    · rename_i h
      have : runN prtI (bts s) ≤ 20 := by omega
      simp only [this, decide_true, Bool.true_and, BEq.rfl, Bool.and_true]
      rw [Bool.eq_iff_iff]; simp; omega
theorem c250 (s : ByteArray) (n : Int) : Con P 250 [] [.agg [.int .i64 1, .str s, .int .i64 n]] (.str s) [] := by
  refine go Tryz.func250 (by rfl) rfl rfl rfl fun hl => ?_
  refine W0 ?_
  refine fin_frz TT ?_ rfl
  rfl
theorem c207 (s : ByteArray) (n : Int) (hs : s.size ≤ 1048576) : Con P 207 [] [.agg [.int .i64 1, .str s, .int .i64 n]] (.bool (isNm s)) [] := by
  by_cases h0 : s.size = 0
  · have he : (s.toList == (⟨#[]⟩ : ByteArray).toList) = true := by rw [isEmpty_iff]; simpa using h0
    have hn : isNm s = false := by
      have : bts s = [] := List.eq_nil_of_length_eq_zero (by rw [bts_len, h0])
      rw [isNm, this]; rfl
    refine go Tryz.func207 (by rfl) rfl rfl rfl fun hl => ?_
    refine W0 ?_
    refine ⟨_, _, c250 s n, ?_⟩
    refine V0 ?_
    refine ⟨fun h1 => ?_, fun h1 => absurd (he.symm.trans h1) (by simp)⟩
    refine V0 ?_
    refine fin_frz TT ?_ rfl
    rw [hn]; rfl
  · have he : (s.toList == (⟨#[]⟩ : ByteArray).toList) = false := by rw [isEmpty_iff]; simpa using h0
    have hx := c251 s hs (by omega)
    have hn := one_name s
    unfold oneV at hx
    generalize one s = v at hx hn
    obtain ⟨v1, v2, v3, v4⟩ := v
    refine go Tryz.func207 (by rfl) rfl rfl rfl fun hl => ?_
    refine W0 ?_
    refine ⟨_, _, c250 s n, ?_⟩
    refine V0 ?_
    refine ⟨fun h1 => absurd (he.symm.trans h1) (by simp), fun h1 => ?_⟩
    refine V0 ?_
    refine ⟨_, _, hx, ?_⟩
    refine V0 ?_
    refine ⟨fun h1 => ?_, fun h1 => ?_⟩
    · have h1 : (v4 == 0) = true := h1
      refine V0 ?_
      refine ⟨fun h2 => ?_, fun h2 => ?_⟩
      · have h2 : (v3 == (s.size : Int)) = true := h2
        refine V0 ?_
        refine fin_frz TT ?_ rfl
        rw [← hn]
        simp only [h1, h2, Bool.true_and]; rfl
      · have h2 : (v3 == (s.size : Int)) = false := h2
        refine V0 ?_
        refine fin_frz TT ?_ rfl
        rw [← hn]
        simp only [h1, h2, Bool.true_and, Bool.false_and]; rfl
    · have h1 : (v4 == 0) = false := h1
      refine V0 ?_
      refine fin_frz TT ?_ rfl
      rw [← hn]
      simp only [h1, Bool.false_and]; rfl
theorem c161 (s : ByteArray) (hs : s.size ≤ 1048576) : Con P 161 [] [.str s] (.bool (isNm s)) [] := by
  refine go Tryz.func161 (by rfl) rfl rfl rfl fun hl => ?_
  refine W0 ?_
  refine ⟨_, _, c207 s 0 hs, ?_⟩
  refine V0 ?_
  refine fin_frz TT ?_ rfl
  rfl
end Go.Av.Z

/- Type graphs: names, attributes. -/
set_option maxHeartbeats 4000000
namespace Go.Av.Z
open Go.Proofs

/-- The strings and lists of a type graph are no longer than what is read. -/
def Attr.ok (a : Attr) : Prop := a.name.size ≤ 1048576 ∧ (∀ s ∈ a.names, s.size ≤ 1048576) ∧ a.names.length ≤ 1048576
def NodeT.ok (n : NodeT) : Prop := n.name.size ≤ 1048576 ∧ n.attrs.length ≤ 1048576 ∧ ∀ a ∈ n.attrs, a.ok
def Types.ok (t : Types) : Prop := (∀ n ∈ t.nodes, n.ok) ∧ ∀ e ∈ t.edges, e.name.size ≤ 1048576

theorem any_take_no {α : Type} {p : α → Bool} {l : List α} {i : Nat} (h : ∀ j y, j < i → l[j]? = some y → p y = false) : (l.take i).any p = false := by
  rw [List.any_eq_false]
  intro x hx
  obtain ⟨j, hj⟩ := List.mem_iff_getElem?.1 hx
  rw [List.getElem?_take] at hj
  split at hj
  · simp [h j x ‹_› hj]
  · cases hj
theorem any_take_at {α : Type} {p : α → Bool} {l : List α} {i j : Nat} {y : α} (hj : j < i) (hy : l[j]? = some y) (hp : p y = true) : (l.take i).any p = true :=
  List.any_eq_true.2 ⟨y, List.mem_of_getElem? (i := j) (by rw [List.getElem?_take, if_pos hj]; exact hy), hp⟩

def nmE (l : List ByteArray) (i : Nat) (s : ByteArray) : Int := if (!isNm s) = true then 2 else if (l.take i).any (eqS s) = true then 5 else 0
def nmsE (l : List ByteArray) : Int := if 20 < l.length then 3 else errs (nmE l) 0 l
theorem strs_take (l : List ByteArray) (i : Nat) : (strs l).take i = strs (l.take i) := by simp [strs, List.map_take]
theorem c227 (l : List ByteArray) (hl : ∀ s ∈ l, s.size ≤ 1048576) : Con P 227 [] [.slice 1 (strs l)] (.int .i64 (nmsE l)) [] := by
  refine go Tryz.func227 (by rfl) rfl rfl rfl fun hlen => ?_
  have hn := strs_hl hlen
  refine V0 ?_
  rw [strs_len]
  refine ⟨fun h1 => ?_, fun h1 => ?_⟩
  · have h1 : 20 < l.length := by have := of_decide_eq_true h1; omega
    refine V0 ?_
    refine fin_frz TT ?_ rfl
    rw [nmsE, if_pos h1]; rfl
  have h1 : ¬ 20 < l.length := by have := of_decide_eq_false h1; omega
  refine V0 ?_
  refine loop (fun i : Nat => mkSt [(10, .int .i64 i), (9, .int .i64 l.length), (8, .slice 1 (strs l)), (0, .slice 1 (strs l))] []) (fun i => i ≤ l.length ∧ ∀ j y, j < i → l[j]? = some y → nmE l j y = 0) (fun i => l.length - i) 0 ⟨Nat.zero_le _, fun j y h => by omega⟩
    (le_of [] rfl rfl rfl ⟨rfl, by rw [strs_len]; rfl, rfl, rfl, trivial⟩ trivial) ?_
  rintro i ⟨hi, hno⟩
  refine V0 ?_
  refine ⟨fun hlt => ?_, fun hge => ?_⟩
  · have hlt := of_lt hlt
    have hx : l[i]? = some l[i] := List.getElem?_eq_getElem hlt
    generalize l[i] = s at hx
    have bad : ∀ e : Int, nmE l i s = e → e ≠ 0 → nmsE l = e := fun e he hne => by
      rw [nmsE, if_neg h1, errs_first hno hx (by rw [he]; exact hne), he]
    refine V0 ?_
    refine ⟨by omega, _, strs_at hx, ?_⟩
    refine V0 ?_
    refine ⟨_, _, c177 s (hl s (List.mem_of_getElem? hx)), ?_⟩
    refine V0 ?_
    refine ⟨fun h2 => ?_, fun h2 => ?_⟩
    · refine V0 ?_
      refine fin_frz TT ?_ rfl
      rw [bad 2 (by rw [nmE, if_pos h2]) (by decide)]; rfl
    have h2 : (!isNm s) = false := h2
    refine V0 ?_
    refine ⟨by omega, ⟨Nat.zero_le _, by rw [strs_len]; omega⟩, ?_⟩
    refine V0 ?_
    have ht : ((strs l).take (i : Int).toNat).drop 0 = strs (l.take i) := by rw [List.drop_zero, show (i : Int).toNat = i by omega, strs_take]
    rw [ht]
    refine ⟨_, _, c260 (l.take i) s, ?_⟩
    refine V0 ?_
    refine ⟨fun h3 => ?_, fun h3 => ?_⟩
    · refine V0 ?_
      refine fin_frz TT ?_ rfl
      rw [bad 5 (by rw [nmE, if_neg (by simp [h2]), if_pos h3]) (by decide)]; rfl
    · refine V0 ?_
      exact ⟨i + 1, ⟨hlt, zero_upto hno hx (by rw [nmE, if_neg (by simp [h2]), if_neg (by simp [h3])])⟩, by show l.length - (i + 1) < l.length - i; omega, le_of [] rfl rfl rfl ⟨step_num hlt hn, rfl, rfl, rfl, trivial⟩ trivial⟩
  · have hge := of_ge hge
    refine V0 ?_
    refine fin_frz TT ?_ rfl
    rw [nmsE, if_neg h1, errs_all hno (by omega)]; rfl
theorem c208 (l : List ByteArray) (hl : ∀ s ∈ l, s.size ≤ 1048576) : Con P 208 [] [.slice 1 (strs l)] (.int .i64 (nmsE l)) [] := by
  refine go Tryz.func208 (by rfl) rfl rfl rfl fun hlen => ?_
  have hn := strs_hl hlen
  refine V0 ?_
  rw [strs_len]
  refine ⟨fun h1 => ?_, fun h1 => ?_⟩
  · have h1 : 20 < l.length := by have := of_decide_eq_true h1; omega
    refine V0 ?_
    refine fin_frz TT ?_ rfl
    rw [nmsE, if_pos h1]; rfl
  have h1 : ¬ 20 < l.length := by have := of_decide_eq_false h1; omega
  refine V0 ?_
  refine loop (fun i : Nat => mkSt [(3, .int .i64 i), (0, .slice 1 (strs l))] []) (fun i => i ≤ l.length ∧ ∀ j y, j < i → l[j]? = some y → nmE l j y = 0) (fun i => l.length - i) 0 ⟨Nat.zero_le _, fun j y h => by omega⟩
    (le_of [] rfl rfl rfl ⟨rfl, rfl, trivial⟩ trivial) ?_
  rintro i ⟨hi, hno⟩
  refine V0 ?_
  rw [strs_len]
  refine ⟨fun hlt => ?_, fun hge => ?_⟩
  · have hlt := of_lt hlt
    have hx : l[i]? = some l[i] := List.getElem?_eq_getElem hlt
    generalize l[i] = s at hx
    have bad : ∀ e : Int, nmE l i s = e → e ≠ 0 → nmsE l = e := fun e he hne => by
      rw [nmsE, if_neg h1, errs_first hno hx (by rw [he]; exact hne), he]
    refine V0 ?_
    refine ⟨by omega, _, strs_at hx, ?_⟩
    refine V0 ?_
    refine ⟨_, _, c161 s (hl s (List.mem_of_getElem? hx)), ?_⟩
    refine V0 ?_
    refine ⟨fun h2 => ?_, fun h2 => ?_⟩
    · refine V0 ?_
      refine fin_frz TT ?_ rfl
      rw [bad 2 (by rw [nmE, if_pos h2]) (by decide)]; rfl
    have h2 : (!isNm s) = false := h2
    refine V0 ?_
    refine loop (fun k : Nat => mkSt [(4, .int .i64 k), (3, .int .i64 i), (0, .slice 1 (strs l))] []) (fun k => k ≤ i ∧ ∀ j y, j < k → l[j]? = some y → eqS s y = false) (fun k => i - k) 0 ⟨Nat.zero_le _, fun j y h => by omega⟩
      (le_of [] rfl rfl rfl ⟨rfl, rfl, rfl, trivial⟩ trivial) ?_
    rintro k ⟨hk, hne⟩
    refine V0 ?_
    refine ⟨fun hlt2 => ?_, fun hge2 => ?_⟩
    · have hlt2 : k < i := by have := of_decide_eq_true hlt2; omega
      have hy : l[k]? = some l[k] := List.getElem?_eq_getElem (by omega)
      generalize l[k] = y at hy
      refine V0 ?_
      refine ⟨by omega, _, strs_at hy, ?_⟩
      refine V0 ?_
      refine ⟨by omega, _, strs_at hx, ?_⟩
      refine V0 ?_
      refine ⟨fun h3 => ?_, fun h3 => ?_⟩
      · have h3 : eqS s y = true := by rw [eqS_comm]; exact h3
        refine V0 ?_
        refine fin_frz TT ?_ rfl
        rw [bad 5 (by rw [nmE, if_neg (by simp [h2]), if_pos (any_take_at hlt2 hy h3)]) (by decide)]; rfl
      · have h3 : eqS s y = false := by rw [eqS_comm]; exact h3
        refine V0 ?_
        exact ⟨k + 1, ⟨hlt2, none_upto (p := eqS s) hne hy h3⟩, by show i - (k + 1) < i - k; omega, le_of [] rfl rfl rfl ⟨step_num hlt2 (by omega), rfl, rfl, trivial⟩ trivial⟩
    · have hge2 : ¬ k < i := by have := of_decide_eq_false hge2; omega
      have hki : k = i := by omega
      subst hki
      refine V0 ?_
      exact ⟨k + 1, ⟨hlt, zero_upto hno hx (by rw [nmE, if_neg (by simp [h2]), if_neg (by rw [any_take_no hne]; simp)])⟩, by show l.length - (k + 1) < l.length - k; omega, le_of [] rfl rfl rfl ⟨step_num hlt hn, rfl, trivial⟩ trivial⟩
  · have hge := of_ge hge
    refine V0 ?_
    refine fin_frz TT ?_ rfl
    rw [nmsE, if_neg h1, errs_all hno (by omega)]; rfl
end Go.Av.Z

/- Type graphs: attributes. -/
set_option maxHeartbeats 4000000
namespace Go.Av.Z
open Go.Proofs

def rngB (a : Attr) : Bool := if 0 < a.names.length then (a.low == 0 && a.high == (a.names.length : Int) - 1) else (decide (-1000000 ≤ a.low) && (decide (a.low ≤ a.high) && decide (a.high ≤ 1000000)))
def atrV (a : Attr) : Int := if (nmsE a.names != 0) = true then nmsE a.names else if (!rngB a) = true then 6 else 0
def atrE (a : Attr) (bef : List Attr) : Int := if (!isNm a.name) = true then 2 else if bef.any (fun y => eqS y.name a.name) = true then 5 else atrV a
theorem atts_take (l : List Attr) (i : Nat) : (atts l).take i = atts (l.take i) := by simp [atts, List.map_take]
theorem c226 (y x : Attr) : Con P 226 [] [.agg y.el, .fptr x.el] (.bool (eqS y.name x.name)) [] := by
  refine go Tryz.func226 (by rfl) rfl rfl rfl fun hl => ?_
  refine W0 ?_
  refine fin_frz TT ?_ rfl
  rfl
theorem c180 (a : Attr) (bef : List Attr) (ha : a.ok) : Con P 180 [] [.agg a.el, .slice 4 (atts bef)] (.int .i64 (atrE a bef)) [] := by
  have hV : atrE a bef = if (!isNm a.name) = true then 2 else if bef.any (fun y => eqS y.name a.name) = true then 5 else if (nmsE a.names != 0) = true then nmsE a.names else if (!rngB a) = true then 6 else 0 := rfl
  have hN := c227 a.names ha.2.1
  have hl := ha.2.2
  have hR : rngB a = if 0 < a.names.length then (a.low == 0 && a.high == (a.names.length : Int) - 1) else (decide (-1000000 ≤ a.low) && (decide (a.low ≤ a.high) && decide (a.high ≤ 1000000))) := rfl
  have hw : 0 < a.names.length → IntKind.i64.wrap ((a.names.length : Int) - 1) = a.names.length - 1 := fun h => wrap_small (by omega) (by omega)
  generalize atrE a bef = R at hV
  generalize nmsE a.names = E at hN hV
  generalize rngB a = G at hR hV
  refine go Tryz.func180 (by rfl) rfl rfl rfl fun hl => ?_
  refine W0 ?_
  refine ⟨_, _, c177 a.name ha.1, ?_⟩
  refine V0 ?_
  refine ⟨fun h1 => ?_, fun h1 => ?_⟩
  · rw [if_pos h1] at hV
    refine V0 ?_
    subst hV
    refine fin_frz TT ?_ rfl
    rfl
  have h1 : (!isNm a.name) = false := h1
  rw [if_neg (by simp [h1])] at hV
  refine V0 ?_
  refine ⟨_, _, con_frz rfl rfl rfl (c225a a.el bef 226 (fun y => eqS y.name a.name) (fun y _ => c226 y a)), ?_⟩
  refine V0 ?_
  refine ⟨fun h2 => ?_, fun h2 => ?_⟩
  · rw [if_pos h2] at hV
    refine V0 ?_
    subst hV
    refine fin_frz TT ?_ rfl
    rfl
  rw [if_neg (by simp [h2])] at hV
  refine V0 ?_
  refine ⟨_, _, hN, ?_⟩
  refine V0 ?_
  refine ⟨fun h3 => ?_, fun h3 => ?_⟩
  · rw [if_pos h3] at hV
    refine V0 ?_
    subst hV
    refine fin_frz TT ?_ rfl
    rfl
  have h3 : (E != 0) = false := h3
  rw [if_neg (by simp [h3])] at hV
  refine V0 ?_
  refine ⟨fun h4 => ?_, fun h4 => ?_⟩
  · refine V0 ?_
    refine ⟨fun h5 => ?_, fun h5 => ?_⟩
    · refine V0 ?_
      rw [strs_len]
      refine ⟨fun h6 => ?_, fun h6 => ?_⟩
      · have h6 : 0 < a.names.length := by have := of_decide_eq_true h6; omega
        rw [if_pos h6] at hR
        refine V0 ?_
        refine ⟨fun h7 => ?_, fun h7 => ?_⟩
        · have h7 : (a.low == 0) = true := h7
          rw [h7, Bool.true_and] at hR
          refine V0 ?_
          rw [strs_len, hw h6]
          refine ⟨fun h8 => ?_, fun h8 => ?_⟩
          · rw [if_pos (by rw [hR]; exact h8)] at hV
            refine V0 ?_
            subst hV
            refine fin_frz TT ?_ rfl
            rfl
          · rw [if_neg (by rw [hR]; exact fun h => Bool.false_ne_true (h8.symm.trans h))] at hV
            refine V0 ?_
            subst hV
            refine fin_frz TT ?_ rfl
            rfl
        · have h7 : (a.low == 0) = false := h7
          rw [h7, Bool.false_and] at hR
          rw [if_pos (by rw [hR]; rfl)] at hV
          refine V0 ?_
          subst hV
          refine fin_frz TT ?_ rfl
          rfl
      · have h6 : ¬ 0 < a.names.length := by have := of_decide_eq_false h6; omega
        rw [if_neg h6] at hR
        rw [h4, h5, Bool.true_and, Bool.true_and] at hR
        refine V0 ?_
        refine ⟨fun h8 => ?_, fun h8 => ?_⟩
        · rw [if_pos (by rw [hR]; exact h8)] at hV
          refine V0 ?_
          subst hV
          refine fin_frz TT ?_ rfl
          rfl
        · rw [if_neg (by rw [hR]; exact fun h => Bool.false_ne_true (h8.symm.trans h))] at hV
          refine V0 ?_
          subst hV
          refine fin_frz TT ?_ rfl
          rfl
    · refine V0 ?_
      rw [strs_len]
      refine ⟨fun h6 => ?_, fun h6 => ?_⟩
      · have h6 : 0 < a.names.length := by have := of_decide_eq_true h6; omega
        rw [if_pos h6] at hR
        refine V0 ?_
        refine ⟨fun h7 => ?_, fun h7 => ?_⟩
        · have h7 : (a.low == 0) = true := h7
          rw [h7, Bool.true_and] at hR
          refine V0 ?_
          rw [strs_len, hw h6]
          refine ⟨fun h8 => ?_, fun h8 => ?_⟩
          · rw [if_pos (by rw [hR]; exact h8)] at hV
            refine V0 ?_
            subst hV
            refine fin_frz TT ?_ rfl
            rfl
          · rw [if_neg (by rw [hR]; exact fun h => Bool.false_ne_true (h8.symm.trans h))] at hV
            refine V0 ?_
            subst hV
            refine fin_frz TT ?_ rfl
            rfl
        · have h7 : (a.low == 0) = false := h7
          rw [h7, Bool.false_and] at hR
          rw [if_pos (by rw [hR]; rfl)] at hV
          refine V0 ?_
          subst hV
          refine fin_frz TT ?_ rfl
          rfl
      · have h6 : ¬ 0 < a.names.length := by have := of_decide_eq_false h6; omega
        rw [if_neg h6] at hR
        rw [h4, h5, Bool.true_and, Bool.false_and] at hR
        refine V0 ?_
        rw [if_pos (by rw [hR]; rfl)] at hV
        subst hV
        refine fin_frz TT ?_ rfl
        rfl
  · refine V0 ?_
    rw [strs_len]
    refine ⟨fun h6 => ?_, fun h6 => ?_⟩
    · have h6 : 0 < a.names.length := by have := of_decide_eq_true h6; omega
      rw [if_pos h6] at hR
      refine V0 ?_
      refine ⟨fun h7 => ?_, fun h7 => ?_⟩
      · have h7 : (a.low == 0) = true := h7
        rw [h7, Bool.true_and] at hR
        refine V0 ?_
        rw [strs_len, hw h6]
        refine ⟨fun h8 => ?_, fun h8 => ?_⟩
        · rw [if_pos (by rw [hR]; exact h8)] at hV
          refine V0 ?_
          subst hV
          refine fin_frz TT ?_ rfl
          rfl
        · rw [if_neg (by rw [hR]; exact fun h => Bool.false_ne_true (h8.symm.trans h))] at hV
          refine V0 ?_
          subst hV
          refine fin_frz TT ?_ rfl
          rfl
      · have h7 : (a.low == 0) = false := h7
        rw [h7, Bool.false_and] at hR
        rw [if_pos (by rw [hR]; rfl)] at hV
        refine V0 ?_
        subst hV
        refine fin_frz TT ?_ rfl
        rfl
    · have h6 : ¬ 0 < a.names.length := by have := of_decide_eq_false h6; omega
      rw [if_neg h6] at hR
      rw [h4, Bool.false_and] at hR
      refine V0 ?_
      rw [if_pos (by rw [hR]; rfl)] at hV
      subst hV
      refine fin_frz TT ?_ rfl
      rfl
end Go.Av.Z

/- Type graphs: the reference's attributes; the attributes of a type with the inherited ones. -/
set_option maxHeartbeats 4000000
namespace Go.Av.Z
open Go.Proofs

def inB (n low high : Int) : Bool := decide (low ≤ n) && decide (n ≤ high)
theorem c162 (n low high : Int) : Con P 162 [] [.int .i64 n, .int .i64 low, .int .i64 high] (.bool (inB n low high)) [] := by
  refine go Tryz.func162 (by rfl) rfl rfl rfl fun hl => ?_
  refine W0 ?_
  refine ⟨fun h1 => ?_, fun h1 => ?_⟩
  · refine V0 ?_
    refine fin_frz TT ?_ rfl
    rw [inB, h1]; rfl
  · refine V0 ?_
    refine fin_frz TT ?_ rfl
    rw [inB, h1]; rfl
theorem nmsE_nil {l : List ByteArray} (h : l.length = 0) : nmsE l = 0 := by
  have : l = [] := List.eq_nil_of_length_eq_zero h
  subst this; rfl
theorem c164 (a : Attr) (ha : a.ok) : Con P 164 [] [.agg a.el] (.int .i64 (atrV a)) [] := by
  have hN := c208 a.names ha.2.1
  have hl := ha.2.2
  refine go Tryz.func164 (by rfl) rfl rfl rfl fun hl => ?_
  refine W0 ?_
  rw [strs_len]
  refine ⟨fun h0 => ?_, fun h0 => ?_⟩
  · have h0 : a.names.length = 0 := by have h0 : ((a.names.length : Int) == 0) = true := h0; simp at h0; simp [h0]
    have hV : atrV a = if (!rngB a) = true then 6 else 0 := by rw [atrV, nmsE_nil h0]; rfl
    have hR : rngB a = (inB a.low (-1000000) 1000000 && inB a.high a.low 1000000) := by
      rw [rngB, if_neg (by omega)]
      unfold inB
      rw [Bool.eq_iff_iff]; simp; omega
    refine V0 ?_
    refine ⟨_, _, c162 a.low (-1000000) 1000000, ?_⟩
    refine V0 ?_
    refine ⟨fun h1 => ?_, fun h1 => ?_⟩
    · have h1 : (!inB a.low (-1000000) 1000000) = true := h1
      have h1 : inB a.low (-1000000) 1000000 = false := by simpa using h1
      refine V0 ?_
      refine fin_frz TT ?_ rfl
      rw [hV, hR, h1]; rfl
    · have h1 : (!inB a.low (-1000000) 1000000) = false := h1
      have h1 : inB a.low (-1000000) 1000000 = true := by simpa using h1
      refine V0 ?_
      refine ⟨_, _, c162 a.high a.low 1000000, ?_⟩
      refine V0 ?_
      refine ⟨fun h2 => ?_, fun h2 => ?_⟩
      · have h2 : (!inB a.high a.low 1000000) = true := h2
        have h2 : inB a.high a.low 1000000 = false := by simpa using h2
        refine V0 ?_
        refine fin_frz TT ?_ rfl
        rw [hV, hR, h1, h2]; rfl
      · have h2 : (!inB a.high a.low 1000000) = false := h2
        have h2 : inB a.high a.low 1000000 = true := by simpa using h2
        refine V0 ?_
        refine fin_frz TT ?_ rfl
        rw [hV, hR, h1, h2]; rfl
  · have h0 : 0 < a.names.length := by have h0 : ((a.names.length : Int) == 0) = false := h0; simp at h0; exact List.length_pos_iff.2 h0
    have hw : IntKind.i64.wrap ((a.names.length : Int) - 1) = a.names.length - 1 := wrap_small (by omega) (by omega)
    have hR : rngB a = (a.low == 0 && a.high == (a.names.length : Int) - 1) := by rw [rngB, if_pos h0]
    refine V0 ?_
    refine ⟨_, _, hN, ?_⟩
    refine V0 ?_
    refine ⟨fun h1 => ?_, fun h1 => ?_⟩
    · refine V0 ?_
      refine fin_frz TT ?_ rfl
      rw [atrV, if_pos h1]; rfl
    have hV : atrV a = if (!rngB a) = true then 6 else 0 := by rw [atrV, if_neg (by simp [show (nmsE a.names != 0) = false from h1])]
    refine V0 ?_
    refine ⟨fun h2 => ?_, fun h2 => ?_⟩
    · have h2 : (a.low == 0) = false := by have h2 : (a.low != 0) = true := h2; simpa using h2
      refine V0 ?_
      refine fin_frz TT ?_ rfl
      rw [hV, hR, h2]; rfl
    · have h2 : (a.low == 0) = true := by have h2 : (a.low != 0) = false := h2; simpa using h2
      refine V0 ?_
      rw [strs_len, hw]
      refine ⟨fun h3 => ?_, fun h3 => ?_⟩
      · have h3 : (a.high == (a.names.length : Int) - 1) = false := by have h3 : (a.high != (a.names.length : Int) - 1) = true := h3; simpa using h3
        refine V0 ?_
        refine fin_frz TT ?_ rfl
        rw [hV, hR, h2, h3]; rfl
      · have h3 : (a.high == (a.names.length : Int) - 1) = true := by have h3 : (a.high != (a.names.length : Int) - 1) = false := h3; simpa using h3
        refine V0 ?_
        refine fin_frz TT ?_ rfl
        rw [hV, hR, h2, h3]; rfl

/-- The attributes of a type, inherited ones first. -/
def atrs (ns : List NodeT) : Nat → Int → List Attr
  | 0, _ => []
  | k + 1, a => if a < 0 then [] else atrs ns k (ns.getD a.toNat default).parent ++ (ns.getD a.toNat default).attrs
def atr (ns : List NodeT) (a : Int) : List Attr := atrs ns (a.toNat + 1) a
/-- Up to a place the parents lie ahead. -/
def pok (ns : List NodeT) (i : Nat) : Prop := ∀ j n, j ≤ i → ns[j]? = some n → n.parent < j
theorem atr_neg (ns : List NodeT) {a : Int} (h : a < 0) : atr ns a = [] := by rw [atr, atrs, if_pos h]
theorem getD_some {α : Type} {l : List α} {i : Nat} {x d : α} (h : l[i]? = some x) : l.getD i d = x := by rw [List.getD_eq_getElem?_getD, h]; rfl
theorem atrs_neg (ns : List NodeT) {a : Int} (h : a < 0) (k : Nat) : atrs ns k a = [] := by
  cases k with
  | zero => rfl
  | succ k => rw [atrs, if_pos h]
theorem atrs_more (ns : List NodeT) {i : Nat} (h : pok ns i) (hi : i < ns.length) : ∀ (m n : Nat) (b : Int), b ≤ i → b.toNat + 1 ≤ m → m ≤ n → atrs ns n b = atrs ns m b := by
  intro m
  induction m with
  | zero => intro n b _ h1; omega
  | succ m ihm =>
    intro n b hb h1 h3
    cases n with
    | zero => omega
    | succ n =>
      by_cases hb0 : b < 0
      · rw [atrs_neg ns hb0, atrs_neg ns hb0]
      · have hy : ns[b.toNat]? = some ns[b.toNat] := List.getElem?_eq_getElem (by omega)
        have hpb := h b.toNat _ (by omega) hy
        rw [atrs, atrs, if_neg hb0, if_neg hb0, getD_some hy]
        by_cases hm : ns[b.toNat].parent < 0
        · rw [atrs_neg ns hm, atrs_neg ns hm]
        · rw [ihm n _ (by omega) (by omega) (by omega)]
theorem atr_step (ns : List NodeT) {i : Nat} (h : pok ns i) {n : NodeT} (hx : ns[i]? = some n) : atr ns i = atr ns n.parent ++ n.attrs := by
  have hi := (List.getElem?_eq_some_iff.1 hx).1
  have hp := h i n (Nat.le_refl _) hx
  rw [atr, atrs, if_neg (by omega), show ((i : Int)).toNat = i by omega, getD_some hx]
  by_cases hq : n.parent < 0
  · rw [atr_neg ns hq, atrs_neg ns hq]
  · rw [atr, atrs_more ns h hi _ _ n.parent (by omega) (Nat.le_refl _) (by omega)]
theorem pok_mono {ns : List NodeT} {i j : Nat} (h : pok ns i) (hj : j ≤ i) : pok ns j := fun k n hk hn => h k n (by omega) hn
theorem atr_len {t : Types} (ht : t.ok) : ∀ (i : Nat), i < t.nodes.length → pok t.nodes i → (atr t.nodes i).length ≤ (i + 1) * 1048576 := by
  intro i
  induction i using Nat.strongRecOn with
  | ind i ih =>
    intro hi hp
    have hx : t.nodes[i]? = some t.nodes[i] := List.getElem?_eq_getElem hi
    have hq := hp i _ (Nat.le_refl _) hx
    have ha := (ht.1 _ (List.mem_of_getElem? hx)).2.1
    rw [atr_step t.nodes hp hx, List.length_append]
    by_cases h0 : t.nodes[i].parent < 0
    · rw [atr_neg _ h0, List.length_nil]; omega
    · have := ih t.nodes[i].parent.toNat (by omega) (by omega) (pok_mono hp (by omega))
      rw [show ((t.nodes[i].parent.toNat : Nat) : Int) = t.nodes[i].parent by omega] at this
      have h3 : t.nodes[i].parent.toNat + 1 ≤ i := by omega
      have : (t.nodes[i].parent.toNat + 1) * 1048576 ≤ i * 1048576 := Nat.mul_le_mul_right _ h3
      omega
theorem atr_ok {t : Types} (ht : t.ok) : ∀ (i : Nat), i < t.nodes.length → pok t.nodes i → ∀ a ∈ atr t.nodes i, a.ok := by
  intro i
  induction i using Nat.strongRecOn with
  | ind i ih =>
    intro hi hp a ha
    have hx : t.nodes[i]? = some t.nodes[i] := List.getElem?_eq_getElem hi
    have hq := hp i _ (Nat.le_refl _) hx
    rw [atr_step t.nodes hp hx, List.mem_append] at ha
    rcases ha with ha | ha
    · by_cases h0 : t.nodes[i].parent < 0
      · rw [atr_neg _ h0] at ha; cases ha
      · have := ih t.nodes[i].parent.toNat (by omega) (by omega) (pok_mono hp (by omega))
        rw [show ((t.nodes[i].parent.toNat : Nat) : Int) = t.nodes[i].parent by omega] at this
        exact this a ha
    · exact (ht.1 _ (List.mem_of_getElem? hx)).2.2 a ha
end Go.Av.Z

/- Type graphs: the attributes of a type, both programs. -/
set_option maxHeartbeats 4000000
namespace Go.Av.Z
open Go.Proofs

def Types.av (t : Types) : AV := .agg t.cs
theorem atts_app (a b : List Attr) : atts (a ++ b) = atts a ++ atts b := by simp [atts]
theorem mattrs (t : Types) (ht : t.ok) (hs : t.nodes.length ≤ 1000) (a : Int) (h0 : 0 ≤ a) (ha : a.toNat < t.nodes.length) (hp : pok t.nodes a.toNat)
    (ih : ∀ b : Int, 0 ≤ b → b < a → b.toNat < t.nodes.length → pok t.nodes b.toNat → Con P 179 [] [t.av, .int .i64 b] (.ref 0) [.row 87 4 (atts (atr t.nodes b))]) :
    Con P 179 [] [t.av, .int .i64 a] (.ref 0) [.row 87 4 (atts (atr t.nodes a))] := by
  have hx : t.nodes[a.toNat]? = some t.nodes[a.toNat] := List.getElem?_eq_getElem ha
  have hq := hp a.toNat _ (Nat.le_refl _) hx
  have e := atr_step t.nodes hp hx
  rw [show ((a.toNat : Nat) : Int) = a by omega] at e
  have hal := (ht.1 _ (List.mem_of_getElem? hx)).2.1
  have hln := fun (k : Nat) (h1 : k < t.nodes.length) (h2 : pok t.nodes k) => atr_len ht k h1 h2
  generalize t.nodes[a.toNat] = n at hx hq e hal
  refine go Tryz.func179 (by rfl) rfl rfl rfl fun hl => ?_
  refine W0 ?_
  refine ⟨by omega, _, ndts_at hx, ?_⟩
  refine V0 ?_
  refine ⟨fun h1 => ?_, fun h1 => ?_⟩
  · have h1 : 0 ≤ n.parent := of_decide_eq_true h1
    have hlp := hln n.parent.toNat (by omega) (pok_mono hp (by omega))
    rw [show ((n.parent.toNat : Nat) : Int) = n.parent by omega] at hlp
    refine V0 ?_
    refine ⟨_, _, ih n.parent h1 (by omega) (by omega) (pok_mono hp (by omega)), ?_⟩
    refine V0 ?_
    refine ⟨by omega, _, ndts_at hx, ?_⟩
    refine V0 ?_
    rw [atts_len, atts_len]
    refine ⟨by show ((atr t.nodes n.parent).length + n.attrs.length) * 56 ≤ _; omega, ?_⟩
    refine V0 ?_
    rw [e]
    rw [atts_app]; exact le_of [5] rfl rfl rfl ⟨rfl, trivial⟩ ⟨rfl, trivial⟩
  · have h1 : ¬ 0 ≤ n.parent := of_decide_eq_false h1
    refine V0 ?_
    refine ⟨by omega, _, ndts_at hx, ?_⟩
    refine V0 ?_
    rw [atts_len]
    refine ⟨by show (0 + n.attrs.length) * 56 ≤ _; omega, ?_⟩
    refine V0 ?_
    rw [e, atr_neg _ (by omega)]
    exact le_of [3] rfl rfl rfl ⟨rfl, trivial⟩ ⟨rfl, trivial⟩
theorem c179 (t : Types) (ht : t.ok) (hs : t.nodes.length ≤ 1000) (a : Int) (h0 : 0 ≤ a) (ha : a.toNat < t.nodes.length) (hp : pok t.nodes a.toNat) : Con P 179 [] [t.av, .int .i64 a] (.ref 0) [.row 87 4 (atts (atr t.nodes a))] :=
  mattrs t ht hs a h0 ha hp fun b hb0 hb hb2 hb3 => c179 t ht hs b hb0 hb2 hb3
  termination_by a.toNat
  decreasing_by omega
theorem c179f (t : Types) (ht : t.ok) (hs : t.nodes.length ≤ 1000) (a : Int) (h0 : 0 ≤ a) (ha : a.toNat < t.nodes.length) (hp : pok t.nodes a.toNat) : Con P 179 [] [t.av, .int .i64 a] (.slice 4 (atts (atr t.nodes a))) [] := by
  have ih := fun (b : Int) hb0 (hb : b < a) hb2 hb3 => c179 t ht hs b hb0 hb2 hb3
  have hx : t.nodes[a.toNat]? = some t.nodes[a.toNat] := List.getElem?_eq_getElem ha
  have hq := hp a.toNat _ (Nat.le_refl _) hx
  have e := atr_step t.nodes hp hx
  rw [show ((a.toNat : Nat) : Int) = a by omega] at e
  have hal := (ht.1 _ (List.mem_of_getElem? hx)).2.1
  have hln := fun (k : Nat) (h1 : k < t.nodes.length) (h2 : pok t.nodes k) => atr_len ht k h1 h2
  generalize t.nodes[a.toNat] = n at hx hq e hal
  refine go Tryz.func179 (by rfl) rfl rfl rfl fun hl => ?_
  refine W0 ?_
  refine ⟨by omega, _, ndts_at hx, ?_⟩
  refine V0 ?_
  refine ⟨fun h1 => ?_, fun h1 => ?_⟩
  · have h1 : 0 ≤ n.parent := of_decide_eq_true h1
    have hlp := hln n.parent.toNat (by omega) (pok_mono hp (by omega))
    rw [show ((n.parent.toNat : Nat) : Int) = n.parent by omega] at hlp
    refine V0 ?_
    refine ⟨_, _, ih n.parent h1 (by omega) (by omega) (pok_mono hp (by omega)), ?_⟩
    refine V0 ?_
    refine ⟨by omega, _, ndts_at hx, ?_⟩
    refine V0 ?_
    rw [atts_len, atts_len]
    refine ⟨by show ((atr t.nodes n.parent).length + n.attrs.length) * 56 ≤ _; omega, ?_⟩
    refine V0 ?_
    rw [e]
    refine fin_frz TT ?_ rfl; rw [atts_app]; rfl
  · have h1 : ¬ 0 ≤ n.parent := of_decide_eq_false h1
    refine V0 ?_
    refine ⟨by omega, _, ndts_at hx, ?_⟩
    refine V0 ?_
    rw [atts_len]
    refine ⟨by show (0 + n.attrs.length) * 56 ≤ _; omega, ?_⟩
    refine V0 ?_
    rw [e, atr_neg _ (by omega)]
    refine fin_frz TT ?_ rfl; rfl
theorem mattrsR (t : Types) (ht : t.ok) (hs : t.nodes.length ≤ 1000) (a : Int) (hn : a < t.nodes.length) (hp : pok t.nodes a.toNat)
    (ih : ∀ b : Int, b < a → 0 ≤ a → b < t.nodes.length → pok t.nodes b.toNat → Con P 163 [] [t.av, .int .i64 b] (.ref 0) [.row 87 4 (atts (atr t.nodes b))]) :
    Con P 163 [] [t.av, .int .i64 a] (.ref 0) [.row 87 4 (atts (atr t.nodes a))] := by
  refine go Tryz.func163 (by rfl) rfl rfl rfl fun hl => ?_
  refine W0 ?_
  refine ⟨fun h1 => ?_, fun h1 => ?_⟩
  · have h1 : a < 0 := of_decide_eq_true h1
    refine V0 ?_
    rw [atr_neg _ h1]
    exact le_of [2] rfl rfl rfl ⟨rfl, trivial⟩ ⟨rfl, trivial⟩
  have h1 : ¬ a < 0 := of_decide_eq_false h1
  have ha : a.toNat < t.nodes.length := by omega
  have hx : t.nodes[a.toNat]? = some t.nodes[a.toNat] := List.getElem?_eq_getElem ha
  have hq := hp a.toNat _ (Nat.le_refl _) hx
  have e := atr_step t.nodes hp hx
  rw [show ((a.toNat : Nat) : Int) = a by omega] at e
  have hal := (ht.1 _ (List.mem_of_getElem? hx)).2.1
  have hln := fun (k : Nat) (h1 : k < t.nodes.length) (h2 : pok t.nodes k) => atr_len ht k h1 h2
  generalize t.nodes[a.toNat] = n at hx hq e hal
  have hlp : (atr t.nodes n.parent).length ≤ 1000 * 1048576 := by
    by_cases h2 : n.parent < 0
    · rw [atr_neg _ h2]; exact Nat.zero_le _
    · have := hln n.parent.toNat (by omega) (pok_mono hp (by omega))
      rw [show ((n.parent.toNat : Nat) : Int) = n.parent by omega] at this
      have h3 : (n.parent.toNat + 1) * 1048576 ≤ 1000 * 1048576 := Nat.mul_le_mul_right _ (by omega)
      exact Nat.le_trans this h3
  refine V0 ?_
  refine ⟨by omega, _, ndts_at hx, ?_⟩
  refine V0 ?_
  refine ⟨_, _, ih n.parent (by omega) (by omega) (by omega) (pok_mono hp (by omega)), ?_⟩
  refine V0 ?_
  rw [atts_len]
  refine ⟨by show (0 + (atr t.nodes n.parent).length) * 56 ≤ _; omega, ?_⟩
  refine V0 ?_
  refine ⟨by omega, _, ndts_at hx, ?_⟩
  refine V0 ?_
  rw [List.length_append, atts_len, atts_len]
  refine ⟨by show ((0 + (atr t.nodes n.parent).length) + n.attrs.length) * 56 ≤ _; omega, ?_⟩
  refine V0 ?_
  rw [e]
  rw [atts_app]; exact le_of [6] rfl rfl rfl ⟨rfl, trivial⟩ ⟨rfl, trivial⟩
theorem c163 (t : Types) (ht : t.ok) (hs : t.nodes.length ≤ 1000) (a : Int) (ha : a < t.nodes.length) (hp : pok t.nodes a.toNat) : Con P 163 [] [t.av, .int .i64 a] (.ref 0) [.row 87 4 (atts (atr t.nodes a))] :=
  mattrsR t ht hs a ha hp fun b hb h0 hb2 hb3 => c163 t ht hs b hb2 hb3
  termination_by (a + 1).toNat
  decreasing_by omega
theorem c163f (t : Types) (ht : t.ok) (hs : t.nodes.length ≤ 1000) (a : Int) (hn : a < t.nodes.length) (hp : pok t.nodes a.toNat) : Con P 163 [] [t.av, .int .i64 a] (.slice 4 (atts (atr t.nodes a))) [] := by
  have ih := fun (b : Int) (_ : b < a) (_ : 0 ≤ a) hb2 hb3 => c163 t ht hs b hb2 hb3
  refine go Tryz.func163 (by rfl) rfl rfl rfl fun hl => ?_
  refine W0 ?_
  refine ⟨fun h1 => ?_, fun h1 => ?_⟩
  · have h1 : a < 0 := of_decide_eq_true h1
    refine V0 ?_
    rw [atr_neg _ h1]
    refine fin_frz TT ?_ rfl; rfl
  have h1 : ¬ a < 0 := of_decide_eq_false h1
  have ha : a.toNat < t.nodes.length := by omega
  have hx : t.nodes[a.toNat]? = some t.nodes[a.toNat] := List.getElem?_eq_getElem ha
  have hq := hp a.toNat _ (Nat.le_refl _) hx
  have e := atr_step t.nodes hp hx
  rw [show ((a.toNat : Nat) : Int) = a by omega] at e
  have hal := (ht.1 _ (List.mem_of_getElem? hx)).2.1
  have hln := fun (k : Nat) (h1 : k < t.nodes.length) (h2 : pok t.nodes k) => atr_len ht k h1 h2
  generalize t.nodes[a.toNat] = n at hx hq e hal
  have hlp : (atr t.nodes n.parent).length ≤ 1000 * 1048576 := by
    by_cases h2 : n.parent < 0
    · rw [atr_neg _ h2]; exact Nat.zero_le _
    · have := hln n.parent.toNat (by omega) (pok_mono hp (by omega))
      rw [show ((n.parent.toNat : Nat) : Int) = n.parent by omega] at this
      have h3 : (n.parent.toNat + 1) * 1048576 ≤ 1000 * 1048576 := Nat.mul_le_mul_right _ (by omega)
      exact Nat.le_trans this h3
  refine V0 ?_
  refine ⟨by omega, _, ndts_at hx, ?_⟩
  refine V0 ?_
  refine ⟨_, _, ih n.parent (by omega) (by omega) (by omega) (pok_mono hp (by omega)), ?_⟩
  refine V0 ?_
  rw [atts_len]
  refine ⟨by show (0 + (atr t.nodes n.parent).length) * 56 ≤ _; omega, ?_⟩
  refine V0 ?_
  refine ⟨by omega, _, ndts_at hx, ?_⟩
  refine V0 ?_
  rw [List.length_append, atts_len, atts_len]
  refine ⟨by show ((0 + (atr t.nodes n.parent).length) + n.attrs.length) * 56 ≤ _; omega, ?_⟩
  refine V0 ?_
  rw [e]
  refine fin_frz TT ?_ rfl; rw [atts_app]; rfl
end Go.Av.Z

/- Type graphs: node types. -/
set_option maxHeartbeats 4000000
namespace Go.Av.Z
open Go.Proofs

theorem ndts_take (l : List NodeT) (i : Nat) : (ndts l).take i = ndts (l.take i) := by simp [ndts, List.map_take]
def ndA (t : Types) (i : Nat) (n : NodeT) (j : Nat) (a : Attr) : Int := if j < (atr t.nodes i).length - n.attrs.length then 0 else atrE a ((atr t.nodes i).take j)
def ndE (t : Types) (i : Nat) (n : NodeT) : Int :=
  if (!isNm n.name) = true then 2 else if (t.nodes.take i).any (fun m => eqS m.name n.name) = true then 5 else if n.parent < -1 ∨ (i : Int) ≤ n.parent then 6
  else if 4 < n.attrs.length then 3 else if 8 < (atr t.nodes i).length then 3 else errs (ndA t i n) 0 (atr t.nodes i)
theorem c178 (m n : NodeT) : Con P 178 [] [.agg m.el, .fptr n.el] (.bool (eqS m.name n.name)) [] := by
  refine go Tryz.func178 (by rfl) rfl rfl rfl fun hl => ?_
  refine W0 ?_
  refine fin_frz TT ?_ rfl
  rfl
/-- Ahead of a place the parents lie ahead. -/
def pre (ns : List NodeT) (i : Nat) : Prop := ∀ j n, j < i → ns[j]? = some n → n.parent < j
theorem pok_of {ns : List NodeT} {i : Nat} {n : NodeT} (h : pre ns i) (hx : ns[i]? = some n) (hn : n.parent < i) : pok ns i := by
  intro j m hj hm
  rcases Nat.lt_or_ge j i with h' | h'
  · exact h j m h' hm
  · have : j = i := by omega
    subst this; rw [hx] at hm; cases hm; exact hn
theorem c123 (t : Types) (ht : t.ok) (hs : t.nodes.length ≤ 1000) (i : Nat) (n : NodeT) (hx : t.nodes[i]? = some n) (hp : pre t.nodes i) : Con P 123 [] [t.av, .int .i64 i] (.int .i64 (ndE t i n)) [] := by
  have hi := (List.getElem?_eq_some_iff.1 hx).1
  have hok := ht.1 n (List.mem_of_getElem? hx)
  refine go Tryz.func123 (by rfl) rfl rfl rfl fun hl => ?_
  refine W0 ?_
  refine ⟨by omega, _, ndts_at hx, ?_⟩
  refine V0 ?_
  refine ⟨_, _, c177 n.name hok.1, ?_⟩
  refine V0 ?_
  refine ⟨fun h1 => ?_, fun h1 => ?_⟩
  · refine V0 ?_
    refine fin_frz TT ?_ rfl
    rw [ndE, if_pos h1]; rfl
  have h1 : (!isNm n.name) = false := h1
  refine V0 ?_
  refine ⟨by omega, ⟨Nat.zero_le _, by rw [ndts_len]; omega⟩, ?_⟩
  refine V0 ?_
  have hcut : ((ndts t.nodes).take (i : Int).toNat).drop 0 = ndts (t.nodes.take i) := by rw [List.drop_zero, show (i : Int).toNat = i by omega, ndts_take]
  rw [hcut]
  refine ⟨_, _, con_frz rfl rfl rfl (c152a n.el (t.nodes.take i) 178 (fun m => eqS m.name n.name) (fun m _ => c178 m n)), ?_⟩
  refine V0 ?_
  refine ⟨fun h2 => ?_, fun h2 => ?_⟩
  · refine V0 ?_
    refine fin_frz TT ?_ rfl
    rw [ndE, if_neg (by simp [h1]), if_pos h2]; rfl
  refine V0 ?_
  have e2 : ndE t i n = if n.parent < -1 ∨ (i : Int) ≤ n.parent then 6
      else if 4 < n.attrs.length then 3 else if 8 < (atr t.nodes i).length then 3 else errs (ndA t i n) 0 (atr t.nodes i) := by rw [ndE, if_neg (by simp [h1]), if_neg (by simp [h2])]
  refine ⟨fun h3 => ?_, fun h3 => ?_⟩
  · have h3 : n.parent < -1 := of_decide_eq_true h3
    refine V0 ?_
    refine fin_frz TT ?_ rfl
    rw [e2, if_pos (.inl h3)]; rfl
  have h3 : ¬ n.parent < -1 := of_decide_eq_false h3
  refine V0 ?_
  refine ⟨fun h4 => ?_, fun h4 => ?_⟩
  · have h4 : (i : Int) ≤ n.parent := of_decide_eq_true h4
    refine V0 ?_
    refine fin_frz TT ?_ rfl
    rw [e2, if_pos (.inr h4)]; rfl
  have h4 : ¬ (i : Int) ≤ n.parent := of_decide_eq_false h4
  rw [if_neg (by omega)] at e2
  have hpk := pok_of hp hx (by omega)
  refine V0 ?_
  rw [atts_len]
  refine ⟨fun h5 => ?_, fun h5 => ?_⟩
  · have h5 : 4 < n.attrs.length := by have := of_decide_eq_true h5; omega
    rw [if_pos h5] at e2
    refine V0 ?_
    refine fin_frz TT ?_ rfl
    rw [e2]; rfl
  have h5 : ¬ 4 < n.attrs.length := by have := of_decide_eq_false h5; omega
  rw [if_neg h5] at e2
  have hatr := c179f t ht hs i (by omega) (by omega) (by rw [show (i : Int).toNat = i by omega]; exact hpk)
  have hall := atr_ok ht i hi hpk
  have hst := atr_step t.nodes hpk hx
  have hlen : n.attrs.length ≤ (atr t.nodes i).length := by rw [hst, List.length_append]; omega
  have hA : ∀ j a, ndA t i n j a = if j < (atr t.nodes i).length - n.attrs.length then 0 else atrE a ((atr t.nodes i).take j) := fun _ _ => rfl
  generalize ndA t i n = A at e2 hA
  generalize atr t.nodes i = all at e2 hatr hall hlen hA
  refine V0 ?_
  refine ⟨_, _, hatr, ?_⟩
  refine V0 ?_
  rw [atts_len]
  refine ⟨fun h6 => ?_, fun h6 => ?_⟩
  · have h6 : 8 < all.length := by have := of_decide_eq_true h6; omega
    rw [if_pos h6] at e2
    refine V0 ?_
    refine fin_frz TT ?_ rfl
    rw [e2]; rfl
  have h6 : ¬ 8 < all.length := by have := of_decide_eq_false h6; omega
  rw [if_neg h6] at e2
  refine V0 ?_
  rw [atts_len, atts_len]
  have hw : IntKind.i64.wrap ((all.length : Int) - n.attrs.length) = ((all.length - n.attrs.length : Nat) : Int) := by rw [wrap_small (by omega) (by omega)]; omega
  rw [hw]
  refine loop (fun k : Nat => mkSt [(7, .int .i64 k), (6, .slice 4 (atts all))] []) (fun k => k ≤ all.length ∧ all.length - n.attrs.length ≤ k ∧ ∀ j y, j < k → all[j]? = some y → A j y = 0) (fun k => all.length - k) (all.length - n.attrs.length) ⟨by omega, Nat.le_refl _, fun j y h _ => by rw [hA, if_pos h]⟩
    (le_of [] rfl rfl rfl ⟨rfl, rfl, trivial⟩ trivial) ?_
  rintro k ⟨hk, hb, hno⟩
  refine V0 ?_
  rw [atts_len]
  refine ⟨fun hlt => ?_, fun hge => ?_⟩
  · have hlt : k < all.length := by have := of_decide_eq_true hlt; omega
    have hy : all[k]? = some all[k] := List.getElem?_eq_getElem hlt
    generalize all[k] = a at hy
    have hAk : A k a = atrE a (all.take k) := by rw [hA, if_neg (by omega)]
    refine V0 ?_
    refine ⟨by omega, _, atts_at hy, ?_⟩
    refine V0 ?_
    refine ⟨by omega, ⟨Nat.zero_le _, by rw [atts_len]; omega⟩, ?_⟩
    refine V0 ?_
    have hcut : ((atts all).take (k : Int).toNat).drop 0 = atts (all.take k) := by rw [List.drop_zero, show (k : Int).toNat = k by omega, atts_take]
    rw [hcut]
    have hat := c180 a (all.take k) (hall a (List.mem_of_getElem? hy))
    rw [← hAk] at hat
    refine ⟨_, _, hat, ?_⟩
    refine V0 ?_
    refine ⟨fun h7 => ?_, fun h7 => ?_⟩
    · have h7 : A k a ≠ 0 := by simpa using h7
      refine V0 ?_
      refine fin_frz TT ?_ rfl
      rw [e2, errs_first hno hy h7]; rfl
    · have h7 : A k a = 0 := by simpa using h7
      refine V0 ?_
      exact ⟨k + 1, ⟨hlt, by omega, zero_upto hno hy h7⟩, by show all.length - (k + 1) < all.length - k; omega, le_of [] rfl rfl rfl ⟨step_num hlt (by omega), rfl, trivial⟩ trivial⟩
  · have hge : ¬ k < all.length := by have := of_decide_eq_false hge; omega
    refine V0 ?_
    refine fin_frz TT ?_ rfl
    rw [e2, errs_all hno (by omega)]; rfl
end Go.Av.Z

/- Type graphs: node types in the reference. -/
set_option maxHeartbeats 4000000
namespace Go.Av.Z
open Go.Proofs

theorem c107 (t : Types) (ht : t.ok) (hs : t.nodes.length ≤ 1000) (i : Nat) (n : NodeT) (hx : t.nodes[i]? = some n) (hp : pre t.nodes i) : Con P 107 [] [t.av, .int .i64 i] (.int .i64 (ndE t i n)) [] := by
  have hi := (List.getElem?_eq_some_iff.1 hx).1
  have hok := ht.1 n (List.mem_of_getElem? hx)
  refine go Tryz.func107 (by rfl) rfl rfl rfl fun hl => ?_
  refine W0 ?_
  refine ⟨by omega, _, ndts_at hx, ?_⟩
  refine V0 ?_
  refine ⟨_, _, c161 n.name hok.1, ?_⟩
  refine V0 ?_
  refine ⟨fun h1 => ?_, fun h1 => ?_⟩
  · refine V0 ?_
    refine fin_frz TT ?_ rfl
    rw [ndE, if_pos h1]; rfl
  have h1 : (!isNm n.name) = false := h1
  refine V0 ?_
  refine loop (fun k : Nat => mkSt [(6, .int .i64 k), (1, .int .i64 i), (2, .bptr 0 0), (5, .bptr 1 0)] [.box 25 t.cs, .box 82 n.el]) (fun k => k ≤ i ∧ ∀ j y, j < k → t.nodes[j]? = some y → eqS y.name n.name = false) (fun k => i - k) 0 ⟨Nat.zero_le _, fun j y h => by omega⟩
    (le_of [0, 1] rfl rfl rfl ⟨rfl, rfl, rfl, rfl, trivial⟩ ⟨rfl, rfl, trivial⟩) ?_
  rintro k ⟨hk, hne⟩
  refine V0 ?_
  refine ⟨fun hlt2 => ?_, fun hge2 => ?_⟩
  · have hlt2 : k < i := by have := of_decide_eq_true hlt2; omega
    have hy : t.nodes[k]? = some t.nodes[k] := List.getElem?_eq_getElem (by omega)
    generalize t.nodes[k] = y at hy
    refine V0 ?_
    refine ⟨by omega, _, ndts_at hy, ?_⟩
    refine V0 ?_
    refine ⟨fun h3 => ?_, fun h3 => ?_⟩
    · refine V0 ?_
      refine fin_frz TT ?_ rfl
      rw [ndE, if_neg (by simp [h1]), if_pos (any_take_at (p := fun m : NodeT => eqS m.name n.name) hlt2 hy h3)]; rfl
    · refine V0 ?_
      exact ⟨k + 1, ⟨hlt2, none_upto (p := fun m : NodeT => eqS m.name n.name) hne hy h3⟩, by show i - (k + 1) < i - k; omega, le_of [0, 1] rfl rfl rfl ⟨step_num hlt2 (by omega), rfl, rfl, rfl, trivial⟩ ⟨rfl, rfl, trivial⟩⟩
  have hge2 : ¬ k < i := by have := of_decide_eq_false hge2; omega
  have hki : k = i := by omega
  subst hki
  have hi1 : IntKind.i64.wrap ((k : Int) - 1) = k - 1 := wrap_small (by omega) (by omega)
  refine V0 ?_
  rw [hi1]
  refine ⟨_, _, c162 n.parent (-1) ((k : Int) - 1), ?_⟩
  refine V0 ?_
  have e2 : ndE t k n = if n.parent < -1 ∨ (k : Int) ≤ n.parent then 6
      else if 4 < n.attrs.length then 3 else if 8 < (atr t.nodes k).length then 3 else errs (ndA t k n) 0 (atr t.nodes k) := by rw [ndE, if_neg (by simp [h1]), if_neg (by rw [any_take_no (p := fun m : NodeT => eqS m.name n.name) hne]; simp)]
  refine ⟨fun h3 => ?_, fun h3 => ?_⟩
  · have h3 : n.parent < -1 ∨ (k : Int) ≤ n.parent := by
      have h3 : (!inB n.parent (-1) ((k : Int) - 1)) = true := h3
      simp [inB] at h3; omega
    refine V0 ?_
    refine fin_frz TT ?_ rfl
    rw [e2, if_pos h3]; rfl
  have h3 : ¬ (n.parent < -1 ∨ (k : Int) ≤ n.parent) := by
    have h3 : (!inB n.parent (-1) ((k : Int) - 1)) = false := h3
    simp [inB] at h3; omega
  rw [if_neg h3] at e2
  have hpk := pok_of hp hx (by omega)
  have hatr := c163f t ht hs k (by omega) (by rw [show (k : Int).toNat = k by omega]; exact hpk)
  have hall := atr_ok ht k hi hpk
  have hst := atr_step t.nodes hpk hx
  have hlen : n.attrs.length ≤ (atr t.nodes k).length := by rw [hst, List.length_append]; omega
  have hA : ∀ j a, ndA t k n j a = if j < (atr t.nodes k).length - n.attrs.length then 0 else atrE a ((atr t.nodes k).take j) := fun _ _ => rfl
  generalize ndA t k n = A at e2 hA
  generalize atr t.nodes k = all at e2 hatr hall hlen hA
  refine V0 ?_
  refine ⟨_, _, hatr, ?_⟩
  refine V0 ?_
  rw [atts_len]
  refine ⟨fun h5 => ?_, fun h5 => ?_⟩
  · have h5 : 4 < n.attrs.length := by have := of_decide_eq_true h5; omega
    rw [if_pos h5] at e2
    refine V0 ?_
    refine fin_frz TT ?_ rfl
    rw [e2]; rfl
  have h5 : ¬ 4 < n.attrs.length := by have := of_decide_eq_false h5; omega
  rw [if_neg h5] at e2
  refine V0 ?_
  rw [atts_len]
  refine ⟨fun h6 => ?_, fun h6 => ?_⟩
  · have h6 : 8 < all.length := by have := of_decide_eq_true h6; omega
    rw [if_pos h6] at e2
    refine V0 ?_
    refine fin_frz TT ?_ rfl
    rw [e2]; rfl
  have h6 : ¬ 8 < all.length := by have := of_decide_eq_false h6; omega
  rw [if_neg h6] at e2
  refine V0 ?_
  rw [atts_len, atts_len]
  have hw : IntKind.i64.wrap ((all.length : Int) - n.attrs.length) = ((all.length - n.attrs.length : Nat) : Int) := by rw [wrap_small (by omega) (by omega)]; omega
  rw [hw]
  refine loop (fun k : Nat => mkSt [(8, .int .i64 k), (7, .slice 4 (atts all))] []) (fun k => k ≤ all.length ∧ all.length - n.attrs.length ≤ k ∧ ∀ j y, j < k → all[j]? = some y → A j y = 0) (fun k => all.length - k) (all.length - n.attrs.length) ⟨by omega, Nat.le_refl _, fun j y h _ => by rw [hA, if_pos h]⟩
    (le_of [] rfl rfl rfl ⟨rfl, rfl, trivial⟩ trivial) ?_
  rintro q ⟨hq, hb, hno⟩
  refine V0 ?_
  rw [atts_len]
  refine ⟨fun hlt => ?_, fun hge => ?_⟩
  · have hlt : q < all.length := by have := of_decide_eq_true hlt; omega
    have hy : all[q]? = some all[q] := List.getElem?_eq_getElem hlt
    generalize all[q] = a at hy
    have hAk : A q a = atrE a (all.take q) := by rw [hA, if_neg (by omega)]
    have haok := hall a (List.mem_of_getElem? hy)
    refine V0 ?_
    refine ⟨by omega, _, atts_at hy, ?_⟩
    refine V0 ?_
    refine ⟨_, _, c161 a.name haok.1, ?_⟩
    refine V0 ?_
    refine ⟨fun h7 => ?_, fun h7 => ?_⟩
    · have hA7 : A q a = 2 := by rw [hAk, atrE, if_pos h7]
      refine V0 ?_
      refine fin_frz TT ?_ rfl
      rw [e2, errs_first hno hy (by rw [hA7]; decide), hA7]; rfl
    have h7 : (!isNm a.name) = false := h7
    refine V0 ?_
    refine loop (fun r : Nat => mkSt [(9, .int .i64 r), (8, .int .i64 q), (7, .slice 4 (atts all))] []) (fun r => r ≤ q ∧ ∀ j y, j < r → all[j]? = some y → eqS y.name a.name = false) (fun r => q - r) 0 ⟨Nat.zero_le _, fun j y h => by omega⟩
      (le_of [] rfl rfl rfl ⟨rfl, rfl, rfl, trivial⟩ trivial) ?_
    rintro r ⟨hr, hne2⟩
    refine V0 ?_
    refine ⟨fun hlt3 => ?_, fun hge3 => ?_⟩
    · have hlt3 : r < q := by have := of_decide_eq_true hlt3; omega
      have hz : all[r]? = some all[r] := List.getElem?_eq_getElem (by omega)
      generalize all[r] = z at hz
      refine V0 ?_
      refine ⟨by omega, _, atts_at hz, ?_⟩
      refine V0 ?_
      refine ⟨by omega, _, atts_at hy, ?_⟩
      refine V0 ?_
      refine ⟨fun h8 => ?_, fun h8 => ?_⟩
      · have hA8 : A q a = 5 := by rw [hAk, atrE, if_neg (by simp [h7]), if_pos (any_take_at (p := fun y : Attr => eqS y.name a.name) hlt3 hz h8)]
        refine V0 ?_
        refine fin_frz TT ?_ rfl
        rw [e2, errs_first hno hy (by rw [hA8]; decide), hA8]; rfl
      · refine V0 ?_
        exact ⟨r + 1, ⟨hlt3, none_upto (p := fun y : Attr => eqS y.name a.name) hne2 hz h8⟩, by show q - (r + 1) < q - r; omega, le_of [] rfl rfl rfl ⟨step_num hlt3 (by omega), rfl, rfl, trivial⟩ trivial⟩
    have hge3 : ¬ r < q := by have := of_decide_eq_false hge3; omega
    have hrq : r = q := by omega
    subst hrq
    have hA9 : A r a = atrV a := by rw [hAk, atrE, if_neg (by simp [h7]), if_neg (by rw [any_take_no (p := fun y : Attr => eqS y.name a.name) hne2]; simp)]
    have hat := c164 a haok
    rw [← hA9] at hat
    refine V0 ?_
    refine ⟨by omega, _, atts_at hy, ?_⟩
    refine V0 ?_
    refine ⟨_, _, hat, ?_⟩
    refine V0 ?_
    refine ⟨fun h9 => ?_, fun h9 => ?_⟩
    · have h9 : A r a ≠ 0 := by simpa using h9
      refine V0 ?_
      refine fin_frz TT ?_ rfl
      rw [e2, errs_first hno hy h9]; rfl
    · have h9 : A r a = 0 := by simpa using h9
      refine V0 ?_
      exact ⟨r + 1, ⟨hlt, by omega, zero_upto hno hy h9⟩, by show all.length - (r + 1) < all.length - r; omega, le_of [] rfl rfl rfl ⟨step_num hlt (by omega), rfl, trivial⟩ trivial⟩
  · have hge : ¬ q < all.length := by have := of_decide_eq_false hge; omega
    refine V0 ?_
    refine fin_frz TT ?_ rfl
    rw [e2, errs_all hno (by omega)]; rfl
end Go.Av.Z

/- Type graphs: edge types; what is valid. -/
set_option maxHeartbeats 4000000
namespace Go.Av.Z
open Go.Proofs

theorem edts_take (l : List EdgeT) (i : Nat) : (edts l).take i = edts (l.take i) := by simp [edts, List.map_take]
def bndB (low high : Int) : Bool := inB low 0 40 && (high == -1 || inB high low 40)
def endB (t : Types) (n : Int) : Bool := inB n 0 ((t.nodes.length : Int) - 1)
def edE (t : Types) (i : Nat) (x : EdgeT) : Int :=
  if (!isNm x.name) = true then 2 else if (t.edges.take i).any (fun y => eqS y.name x.name) = true then 5 else if (!endB t x.src) = true then 6 else if (!endB t x.dst) = true then 6
  else if (!bndB x.outLow x.outHigh) = true then 6 else if (!bndB x.inLow x.inHigh) = true then 6 else 0
theorem c183 (m n : EdgeT) : Con P 183 [] [.agg m.el, .fptr n.el] (.bool (eqS m.name n.name)) [] := by
  refine go Tryz.func183 (by rfl) rfl rfl rfl fun hl => ?_
  refine W0 ?_
  refine fin_frz TT ?_ rfl
  rfl
theorem c181 (t : Types) (n : Int) : Con P 181 [] [.int .i64 n, .fptr t.cs] (.bool (endB t n)) [] := by
  refine go Tryz.func181 (by rfl) rfl rfl rfl fun hl => ?_
  refine W0 ?_
  refine ⟨fun h1 => ?_, fun h1 => ?_⟩
  · refine V0 ?_
    rw [ndts_len]
    refine fin_frz TT ?_ rfl
    have : decide (n < (t.nodes.length : Int)) = decide (n ≤ (t.nodes.length : Int) - 1) := by rw [decide_eq_decide]; omega
    rw [endB, inB, h1, ← this]; rfl
  · refine V0 ?_
    refine fin_frz TT ?_ rfl
    rw [endB, inB, h1]; rfl
theorem c184 (low high : Int) : Con P 184 [] [.int .i64 low, .int .i64 high] (.bool (bndB low high)) [] := by
  refine go Tryz.func184 (by rfl) rfl rfl rfl fun hl => ?_
  refine W0 ?_
  refine ⟨fun h1 => ?_, fun h1 => ?_⟩
  · refine V0 ?_
    refine ⟨fun h2 => ?_, fun h2 => ?_⟩
    · refine V0 ?_
      refine ⟨fun h3 => ?_, fun h3 => ?_⟩
      · refine V0 ?_
        refine fin_frz TT ?_ rfl
        rw [bndB, inB, h1, h2, show (high == -1) = true from h3]; rfl
      · refine V0 ?_
        refine ⟨fun h4 => ?_, fun h4 => ?_⟩
        · refine V0 ?_
          refine fin_frz TT ?_ rfl
          rw [bndB, inB, h1, h2, show (high == -1) = false from h3, inB, h4]; rfl
        · refine V0 ?_
          refine fin_frz TT ?_ rfl
          rw [bndB, inB, h1, h2, show (high == -1) = false from h3, inB, h4]; rfl
    · refine V0 ?_
      refine fin_frz TT ?_ rfl
      rw [bndB, inB, h1, h2]; rfl
  · refine V0 ?_
    refine fin_frz TT ?_ rfl
    rw [bndB, inB, h1]; rfl
theorem c165 (low high : Int) : Con P 165 [] [.int .i64 low, .int .i64 high] (.bool (bndB low high)) [] := by
  refine go Tryz.func165 (by rfl) rfl rfl rfl fun hl => ?_
  refine W0 ?_
  refine ⟨_, _, c162 low 0 40, ?_⟩
  refine V0 ?_
  refine ⟨fun h1 => ?_, fun h1 => ?_⟩
  · refine V0 ?_
    refine ⟨fun h3 => ?_, fun h3 => ?_⟩
    · refine V0 ?_
      refine fin_frz TT ?_ rfl
      rw [bndB, h1, show (high == -1) = true from h3]; rfl
    · refine V0 ?_
      refine ⟨_, _, c162 high low 40, ?_⟩
      refine V0 ?_
      refine fin_frz TT ?_ rfl
      rw [bndB, h1, show (high == -1) = false from h3]; rfl
  · refine V0 ?_
    refine fin_frz TT ?_ rfl
    rw [bndB, h1]; rfl
theorem c124 (t : Types) (ht : t.ok) (i : Nat) (n : EdgeT) (hx : t.edges[i]? = some n) : Con P 124 [] [t.av, .int .i64 i] (.int .i64 (edE t i n)) [] := by
  have hi := (List.getElem?_eq_some_iff.1 hx).1
  have hok := ht.2 n (List.mem_of_getElem? hx)
  have e2 : edE t i n = if (!isNm n.name) = true then 2 else if (t.edges.take i).any (fun y => eqS y.name n.name) = true then 5 else if (!endB t n.src) = true then 6 else if (!endB t n.dst) = true then 6
    else if (!bndB n.outLow n.outHigh) = true then 6 else if (!bndB n.inLow n.inHigh) = true then 6 else 0 := rfl
  refine go Tryz.func124 (by rfl) rfl rfl rfl fun hl => ?_
  refine W0 ?_
  refine ⟨by omega, _, edts_at hx, ?_⟩
  refine V0 ?_
  refine ⟨_, _, c177 n.name hok, ?_⟩
  refine V0 ?_
  refine ⟨fun h1 => ?_, fun h1 => ?_⟩
  · rw [if_pos h1] at e2
    refine V0 ?_
    refine fin_frz TT ?_ rfl
    rw [e2]; rfl
  rw [if_neg (by simp [show (!isNm n.name) = false from h1])] at e2
  refine V0 ?_
  refine ⟨by omega, ⟨Nat.zero_le _, by rw [edts_len]; omega⟩, ?_⟩
  refine V0 ?_
  have hcut : ((edts t.edges).take (i : Int).toNat).drop 0 = edts (t.edges.take i) := by rw [List.drop_zero, show (i : Int).toNat = i by omega, edts_take]
  rw [hcut]
  refine ⟨_, _, con_frz rfl rfl rfl (c182a n.el (t.edges.take i) 183 (fun m => eqS m.name n.name) (fun m _ => c183 m n)), ?_⟩
  refine V0 ?_
  refine ⟨fun h2 => ?_, fun h2 => ?_⟩
  · rw [if_pos h2] at e2
    refine V0 ?_
    refine fin_frz TT ?_ rfl
    rw [e2]; rfl
  rw [if_neg (by simp [h2])] at e2
  refine V0 ?_
  refine ⟨_, _, con_frz rfl rfl rfl (c181 t n.src), ?_⟩
  refine V0 ?_
  refine ⟨fun h3 => ?_, fun h3 => ?_⟩
  · rw [if_pos h3] at e2
    refine V0 ?_
    refine fin_frz TT ?_ rfl
    rw [e2]; rfl
  rw [if_neg (by simp [show (!endB t n.src) = false from h3])] at e2
  refine V0 ?_
  refine ⟨_, _, c181 t n.dst, ?_⟩
  refine V0 ?_
  refine ⟨fun h4 => ?_, fun h4 => ?_⟩
  · rw [if_pos h4] at e2
    refine V0 ?_
    refine ⟨fun _ => ?_, fun h => absurd (h4.symm.trans h) (by simp)⟩
    refine V0 ?_
    refine fin_frz TT ?_ rfl
    rw [e2]; rfl
  rw [if_neg (by simp [show (!endB t n.dst) = false from h4])] at e2
  refine V0 ?_
  refine ⟨_, _, c184 n.outLow n.outHigh, ?_⟩
  refine V0 ?_
  refine ⟨fun h5 => ?_, fun h5 => ?_⟩
  · rw [if_pos h5] at e2
    refine V0 ?_
    refine fin_frz TT ?_ rfl
    rw [e2]; rfl
  rw [if_neg (by simp [show (!bndB n.outLow n.outHigh) = false from h5])] at e2
  refine V0 ?_
  refine ⟨_, _, c184 n.inLow n.inHigh, ?_⟩
  refine V0 ?_
  refine ⟨fun h6 => ?_, fun h6 => ?_⟩
  · rw [if_pos h6] at e2
    refine V0 ?_
    refine fin_frz TT ?_ rfl
    rw [e2]; rfl
  rw [if_neg (by simp [show (!bndB n.inLow n.inHigh) = false from h6])] at e2
  refine V0 ?_
  refine fin_frz TT ?_ rfl
  rw [e2]; rfl
theorem c108 (t : Types) (ht : t.ok) (hs : t.nodes.length ≤ 1000) (i : Nat) (n : EdgeT) (hx : t.edges[i]? = some n) : Con P 108 [] [t.av, .int .i64 i] (.int .i64 (edE t i n)) [] := by
  have hi := (List.getElem?_eq_some_iff.1 hx).1
  have hok := ht.2 n (List.mem_of_getElem? hx)
  have e2 : edE t i n = if (!isNm n.name) = true then 2 else if (t.edges.take i).any (fun y => eqS y.name n.name) = true then 5 else if (!endB t n.src) = true then 6 else if (!endB t n.dst) = true then 6
    else if (!bndB n.outLow n.outHigh) = true then 6 else if (!bndB n.inLow n.inHigh) = true then 6 else 0 := rfl
  have hi1 : IntKind.i64.wrap ((t.nodes.length : Int) - 1) = t.nodes.length - 1 := wrap_small (by omega) (by omega)
  refine go Tryz.func108 (by rfl) rfl rfl rfl fun hl => ?_
  have hn : t.edges.length ≤ 9223372036854775807 := by
    have := hl (edts t.edges).length (by simp [lensL, lens, Types.av, Types.cs])
    rwa [edts_len] at this
  refine V0 ?_
  refine ⟨by omega, _, edts_at hx, ?_⟩
  refine V0 ?_
  refine ⟨_, _, c161 n.name hok, ?_⟩
  refine V0 ?_
  refine ⟨fun h1 => ?_, fun h1 => ?_⟩
  · rw [if_pos h1] at e2
    refine V0 ?_
    refine fin_frz TT ?_ rfl
    rw [e2]; rfl
  rw [if_neg (by simp [show (!isNm n.name) = false from h1])] at e2
  refine V0 ?_
  refine loop (fun k : Nat => mkSt [(6, .int .i64 k), (1, .int .i64 i), (2, .bptr 0 0), (5, .bptr 1 0)] [.box 25 t.cs, .box 84 n.el]) (fun k => k ≤ i ∧ ∀ j y, j < k → t.edges[j]? = some y → eqS y.name n.name = false) (fun k => i - k) 0 ⟨Nat.zero_le _, fun j y h => by omega⟩
    (le_of [0, 1] rfl rfl rfl ⟨rfl, rfl, rfl, rfl, trivial⟩ ⟨rfl, rfl, trivial⟩) ?_
  rintro k ⟨hk, hne⟩
  refine V0 ?_
  refine ⟨fun hlt2 => ?_, fun hge2 => ?_⟩
  · have hlt2 : k < i := by have := of_decide_eq_true hlt2; omega
    have hy : t.edges[k]? = some t.edges[k] := List.getElem?_eq_getElem (by omega)
    generalize t.edges[k] = y at hy
    refine V0 ?_
    refine ⟨by omega, _, edts_at hy, ?_⟩
    refine V0 ?_
    refine ⟨fun h3 => ?_, fun h3 => ?_⟩
    · rw [if_pos (any_take_at (p := fun m : EdgeT => eqS m.name n.name) hlt2 hy h3)] at e2
      refine V0 ?_
      refine fin_frz TT ?_ rfl
      rw [e2]; rfl
    · refine V0 ?_
      exact ⟨k + 1, ⟨hlt2, none_upto (p := fun m : EdgeT => eqS m.name n.name) hne hy h3⟩, by show i - (k + 1) < i - k; omega, le_of [0, 1] rfl rfl rfl ⟨step_num hlt2 (by omega), rfl, rfl, rfl, trivial⟩ ⟨rfl, rfl, trivial⟩⟩
  have hge2 : ¬ k < i := by have := of_decide_eq_false hge2; omega
  have hki : k = i := by omega
  subst hki
  rw [if_neg (by rw [any_take_no (p := fun m : EdgeT => eqS m.name n.name) hne]; simp)] at e2
  refine V0 ?_
  rw [ndts_len, hi1]
  refine ⟨_, _, c162 n.src 0 ((t.nodes.length : Int) - 1), ?_⟩
  refine V0 ?_
  refine ⟨fun h3 => ?_, fun h3 => ?_⟩
  · rw [if_pos (show (!endB t n.src) = true from h3)] at e2
    refine V0 ?_
    refine fin_frz TT ?_ rfl
    rw [e2]; rfl
  rw [if_neg (by simp [show (!endB t n.src) = false from h3])] at e2
  refine V0 ?_
  refine ⟨_, _, c162 n.dst 0 ((t.nodes.length : Int) - 1), ?_⟩
  refine V0 ?_
  refine ⟨fun h4 => ?_, fun h4 => ?_⟩
  · rw [if_pos (show (!endB t n.dst) = true from h4)] at e2
    refine V0 ?_
    refine fin_frz TT ?_ rfl
    rw [e2]; rfl
  rw [if_neg (by simp [show (!endB t n.dst) = false from h4])] at e2
  refine V0 ?_
  refine ⟨_, _, c165 n.outLow n.outHigh, ?_⟩
  refine V0 ?_
  refine ⟨fun h5 => ?_, fun h5 => ?_⟩
  · rw [if_pos h5] at e2
    refine V0 ?_
    refine fin_frz TT ?_ rfl
    rw [e2]; rfl
  rw [if_neg (by simp [show (!bndB n.outLow n.outHigh) = false from h5])] at e2
  refine V0 ?_
  refine ⟨_, _, c165 n.inLow n.inHigh, ?_⟩
  refine V0 ?_
  refine ⟨fun h6 => ?_, fun h6 => ?_⟩
  · rw [if_pos h6] at e2
    refine V0 ?_
    refine fin_frz TT ?_ rfl
    rw [e2]; rfl
  rw [if_neg (by simp [show (!bndB n.inLow n.inHigh) = false from h6])] at e2
  refine V0 ?_
  refine fin_frz TT ?_ rfl
  rw [e2]; rfl
end Go.Av.Z

/- Type graphs: what is valid. -/
set_option maxHeartbeats 4000000
namespace Go.Av.Z
open Go.Proofs

/-- The place of the first number that isn't zero. -/
def errIx {α : Type} (f : Nat → α → Int) : Nat → List α → Nat
  | i, [] => i
  | i, x :: r => if f i x = 0 then errIx f (i + 1) r else i
theorem errIx_at {α : Type} {f : Nat → α → Int} : ∀ {l : List α} {n i : Nat} {x : α}, (∀ (j : Nat) (y : α), j < i → l[j]? = some y → f (n + j) y = 0) → l[i]? = some x → f (n + i) x ≠ 0 → errIx f n l = n + i
  | [], n, i, x, _, h, _ => by simp at h
  | y :: r, n, 0, x, h, hx, hf => by
    simp at hx; subst hx
    unfold errIx
    rw [if_neg (by simpa using hf)]; rfl
  | y :: r, n, i + 1, x, h, hx, hf => by
    unfold errIx
    rw [if_pos (by simpa using h 0 y (by omega) rfl)]
    have := errIx_at (f := f) (l := r) (n := n + 1) (i := i) (x := x) (fun j z hj hz => by have := h (j + 1) z (by omega) (by simpa using hz); rw [show n + 1 + j = n + (j + 1) by omega]; exact this) (by simpa using hx) (by rw [show n + 1 + i = n + (i + 1) by omega]; exact hf)
    rw [this]; omega
theorem errIx_first {α : Type} {f : Nat → α → Int} {l : List α} {i : Nat} {x : α} (h : ∀ j y, j < i → l[j]? = some y → f j y = 0) (hx : l[i]? = some x) (hf : f i x ≠ 0) : errIx f 0 l = i := by
  have := errIx_at (f := f) (l := l) (n := 0) (i := i) (x := x) (fun j y hj hy => by rw [Nat.zero_add]; exact h j y hj hy) hx (by rw [Nat.zero_add]; exact hf)
  rwa [Nat.zero_add] at this

/-- The error of a type graph. -/
def tval (t : Types) : Int :=
  if t.nodes.length = 0 then 7 else if 12 < t.nodes.length ∨ 20 < t.edges.length then 3 else if errs (ndE t) 0 t.nodes ≠ 0 then errs (ndE t) 0 t.nodes else errs (edE t) 0 t.edges
def tnam (t : Types) : ByteArray :=
  if t.nodes.length = 0 ∨ 12 < t.nodes.length ∨ 20 < t.edges.length then eS else if errs (ndE t) 0 t.nodes ≠ 0 then (t.nodes.getD (errIx (ndE t) 0 t.nodes) default).name
  else if errs (edE t) 0 t.edges ≠ 0 then (t.edges.getD (errIx (edE t) 0 t.edges) default).name else eS
theorem ndE_par {t : Types} {i : Nat} {n : NodeT} (h : ndE t i n = 0) : n.parent < i := by
  unfold ndE at h
  split at h
  · cases h
  · split at h
    · cases h
    · split at h
      · cases h
      · omega
theorem pre_of {t : Types} {i : Nat} (h : ∀ j n, j < i → t.nodes[j]? = some n → ndE t j n = 0) : pre t.nodes i := fun j n hj hn => ndE_par (h j n hj hn)
def tvV (t : Types) : AV := .tuple [.str (tnam t), .int .i64 (tval t)]
theorem c68 (t : Types) (ht : t.ok) : Con P 68 [] [t.av] (tvV t) [] := by
  refine go Tryz.func68 (by rfl) rfl rfl rfl fun hl => ?_
  refine W0 ?_
  have hbad : ∀ h : 12 < t.nodes.length ∨ 20 < t.edges.length, t.nodes.length ≠ 0 → tvV t = .tuple [.str eS, .int .i64 3] := fun h h0 => by rw [tvV, tnam, tval, if_pos (.inr h), if_neg h0, if_pos h]
  rw [ndts_len]
  refine ⟨fun h0 => ?_, fun h0 => ?_⟩
  · have h0 : t.nodes.length = 0 := by have h0 : ((t.nodes.length : Int) == 0) = true := h0; simp at h0; simp [h0]
    have e : tvV t = .tuple [.str eS, .int .i64 7] := by rw [tvV, tnam, tval, if_pos (.inl h0), if_pos h0]
    refine V0 ?_
    refine fin_frz TT ?_ rfl
    rw [e]; rfl
  have h0 : t.nodes.length ≠ 0 := by have h0 : ((t.nodes.length : Int) == 0) = false := h0; simp at h0; intro h; exact h0 (List.eq_nil_of_length_eq_zero h)
  refine V0 ?_
  rw [ndts_len]
  refine ⟨fun h1 => ?_, fun h1 => ?_⟩
  · have h1 : 12 < t.nodes.length := by have := of_decide_eq_true h1; omega
    refine V0 ?_
    refine fin_frz TT ?_ rfl
    rw [hbad (.inl h1) h0]; rfl
  have h1 : ¬ 12 < t.nodes.length := by have := of_decide_eq_false h1; omega
  refine V0 ?_
  rw [edts_len]
  refine ⟨fun h2 => ?_, fun h2 => ?_⟩
  · have h2 : 20 < t.edges.length := by have := of_decide_eq_true h2; omega
    refine V0 ?_
    refine fin_frz TT ?_ rfl
    rw [hbad (.inr h2) h0]; rfl
  have h2 : ¬ 20 < t.edges.length := by have := of_decide_eq_false h2; omega
  have eV : tval t = if errs (ndE t) 0 t.nodes ≠ 0 then errs (ndE t) 0 t.nodes else errs (edE t) 0 t.edges := by rw [tval, if_neg h0, if_neg (by omega)]
  have eN : tnam t = if errs (ndE t) 0 t.nodes ≠ 0 then (t.nodes.getD (errIx (ndE t) 0 t.nodes) default).name else if errs (edE t) 0 t.edges ≠ 0 then (t.edges.getD (errIx (edE t) 0 t.edges) default).name else eS := by rw [tnam, if_neg (by omega)]
  refine V0 ?_
  refine loop (fun i : Nat => mkSt [(29, .int .i64 i), (28, .int .i64 t.nodes.length), (27, .slice 4 (ndts t.nodes)), (1, .bptr 0 0)] [.box 25 t.cs]) (fun i => i ≤ t.nodes.length ∧ ∀ j y, j < i → t.nodes[j]? = some y → ndE t j y = 0) (fun i => t.nodes.length - i) 0 ⟨Nat.zero_le _, fun j y h => by omega⟩ (le_of [0] rfl rfl rfl ⟨rfl, by rw [ndts_len]; rfl, rfl, rfl, trivial⟩ ⟨rfl, trivial⟩) ?_
  rintro i ⟨hi, hno⟩
  have hpre := pre_of hno
  refine V0 ?_
  try rw [ndts_len]
  refine ⟨fun hlt => ?_, fun hge => ?_⟩
  · have hlt := of_lt hlt
    have hx : t.nodes[i]? = some t.nodes[i] := List.getElem?_eq_getElem hlt
    generalize t.nodes[i] = n at hx
    have hc := c123 t ht (by omega) i n hx hpre
    refine V0 ?_
    try (refine ⟨by omega, _, ndts_at hx, ?_⟩; refine V0 ?_)
    refine ⟨_, _, hc, ?_⟩
    refine V0 ?_
    refine ⟨fun h3 => ?_, fun h3 => ?_⟩
    · have h3 : ndE t i n ≠ 0 := by simpa using h3
      have e1 := errs_first hno hx h3
      have e : tvV t = .tuple [.str n.name, .int .i64 (ndE t i n)] := by rw [tvV, eN, eV, if_pos (by rw [e1]; exact h3), if_pos (by rw [e1]; exact h3), e1, errIx_first hno hx h3, getD_some hx]
      refine V0 ?_
      try (refine ⟨by omega, _, ndts_at hx, ?_⟩; refine V0 ?_)
      refine fin_frz TT ?_ rfl
      rw [e]; rfl
    · have h3 : ndE t i n = 0 := by simpa using h3
      refine V0 ?_
      exact ⟨i + 1, ⟨hlt, zero_upto hno hx h3⟩, by show t.nodes.length - (i + 1) < t.nodes.length - i; omega, le_of [0] rfl rfl rfl ⟨step_num hlt (by omega), rfl, rfl, rfl, trivial⟩ ⟨rfl, trivial⟩⟩
  have hge := of_ge hge
  have e1 := errs_all hno (by omega)
  rw [if_neg (by simp [e1])] at eV eN
  refine V0 ?_
  clear hno hi hpre
  refine loop (fun i : Nat => mkSt [(46, .int .i64 i), (45, .int .i64 t.edges.length), (44, .slice 7 (edts t.edges)), (1, .bptr 0 0)] [.box 25 t.cs]) (fun i => i ≤ t.edges.length ∧ ∀ j y, j < i → t.edges[j]? = some y → edE t j y = 0) (fun i => t.edges.length - i) 0 ⟨Nat.zero_le _, fun j y h => by omega⟩ (le_of [0] rfl rfl rfl ⟨rfl, by rw [edts_len]; rfl, rfl, rfl, trivial⟩ ⟨rfl, trivial⟩) ?_
  rintro i ⟨hi, hno⟩
  refine V0 ?_
  try rw [edts_len]
  refine ⟨fun hlt => ?_, fun hge => ?_⟩
  · have hlt := of_lt hlt
    have hx : t.edges[i]? = some t.edges[i] := List.getElem?_eq_getElem hlt
    generalize t.edges[i] = n at hx
    have hc := c124 t ht i n hx
    refine V0 ?_
    try (refine ⟨by omega, _, edts_at hx, ?_⟩; refine V0 ?_)
    refine ⟨_, _, hc, ?_⟩
    refine V0 ?_
    refine ⟨fun h3 => ?_, fun h3 => ?_⟩
    · have h3 : edE t i n ≠ 0 := by simpa using h3
      have e2 := errs_first hno hx h3
      have e : tvV t = .tuple [.str n.name, .int .i64 (edE t i n)] := by rw [tvV, eN, eV, if_pos (by rw [e2]; exact h3), e2, errIx_first hno hx h3, getD_some hx]
      refine V0 ?_
      try (refine ⟨by omega, _, edts_at hx, ?_⟩; refine V0 ?_)
      refine fin_frz TT ?_ rfl
      rw [e]; rfl
    · have h3 : edE t i n = 0 := by simpa using h3
      refine V0 ?_
      exact ⟨i + 1, ⟨hlt, zero_upto hno hx h3⟩, by show t.edges.length - (i + 1) < t.edges.length - i; omega, le_of [0] rfl rfl rfl ⟨step_num hlt (by omega), rfl, rfl, rfl, trivial⟩ ⟨rfl, trivial⟩⟩
  have hge := of_ge hge
  have e2 := errs_all hno (by omega)
  have e : tvV t = .tuple [.str eS, .int .i64 0] := by rw [tvV, eN, eV, if_neg (by simp [e2]), e2]
  refine V0 ?_
  refine fin_frz TT ?_ rfl
  rw [e]; rfl
theorem c49 (t : Types) (ht : t.ok) : Con P 49 [] [t.av] (tvV t) [] := by
  refine go Tryz.func49 (by rfl) rfl rfl rfl fun hl => ?_
  refine W0 ?_
  have hbad : ∀ h : 12 < t.nodes.length ∨ 20 < t.edges.length, t.nodes.length ≠ 0 → tvV t = .tuple [.str eS, .int .i64 3] := fun h h0 => by rw [tvV, tnam, tval, if_pos (.inr h), if_neg h0, if_pos h]
  rw [ndts_len]
  refine ⟨fun h0 => ?_, fun h0 => ?_⟩
  · have h0 : t.nodes.length = 0 := by have h0 : ((t.nodes.length : Int) == 0) = true := h0; simp at h0; simp [h0]
    have e : tvV t = .tuple [.str eS, .int .i64 7] := by rw [tvV, tnam, tval, if_pos (.inl h0), if_pos h0]
    refine V0 ?_
    refine fin_frz TT ?_ rfl
    rw [e]; rfl
  have h0 : t.nodes.length ≠ 0 := by have h0 : ((t.nodes.length : Int) == 0) = false := h0; simp at h0; intro h; exact h0 (List.eq_nil_of_length_eq_zero h)
  refine V0 ?_
  rw [ndts_len]
  refine ⟨fun h1 => ?_, fun h1 => ?_⟩
  · have h1 : 12 < t.nodes.length := by have := of_decide_eq_true h1; omega
    refine V0 ?_
    refine fin_frz TT ?_ rfl
    rw [hbad (.inl h1) h0]; rfl
  have h1 : ¬ 12 < t.nodes.length := by have := of_decide_eq_false h1; omega
  refine V0 ?_
  rw [edts_len]
  refine ⟨fun h2 => ?_, fun h2 => ?_⟩
  · have h2 : 20 < t.edges.length := by have := of_decide_eq_true h2; omega
    refine V0 ?_
    refine fin_frz TT ?_ rfl
    rw [hbad (.inr h2) h0]; rfl
  have h2 : ¬ 20 < t.edges.length := by have := of_decide_eq_false h2; omega
  have eV : tval t = if errs (ndE t) 0 t.nodes ≠ 0 then errs (ndE t) 0 t.nodes else errs (edE t) 0 t.edges := by rw [tval, if_neg h0, if_neg (by omega)]
  have eN : tnam t = if errs (ndE t) 0 t.nodes ≠ 0 then (t.nodes.getD (errIx (ndE t) 0 t.nodes) default).name else if errs (edE t) 0 t.edges ≠ 0 then (t.edges.getD (errIx (edE t) 0 t.edges) default).name else eS := by rw [tnam, if_neg (by omega)]
  refine V0 ?_
  refine loop (fun i : Nat => mkSt [(4, .int .i64 i), (1, .bptr 0 0)] [.box 25 t.cs]) (fun i => i ≤ t.nodes.length ∧ ∀ j y, j < i → t.nodes[j]? = some y → ndE t j y = 0) (fun i => t.nodes.length - i) 0 ⟨Nat.zero_le _, fun j y h => by omega⟩ (le_of [0] rfl rfl rfl ⟨rfl, rfl, trivial⟩ ⟨rfl, trivial⟩) ?_
  rintro i ⟨hi, hno⟩
  have hpre := pre_of hno
  refine V0 ?_
  try rw [ndts_len]
  refine ⟨fun hlt => ?_, fun hge => ?_⟩
  · have hlt := of_lt hlt
    have hx : t.nodes[i]? = some t.nodes[i] := List.getElem?_eq_getElem hlt
    generalize t.nodes[i] = n at hx
    have hc := c107 t ht (by omega) i n hx hpre
    refine V0 ?_
    try (refine ⟨by omega, _, ndts_at hx, ?_⟩; refine V0 ?_)
    refine ⟨_, _, hc, ?_⟩
    refine V0 ?_
    refine ⟨fun h3 => ?_, fun h3 => ?_⟩
    · have h3 : ndE t i n ≠ 0 := by simpa using h3
      have e1 := errs_first hno hx h3
      have e : tvV t = .tuple [.str n.name, .int .i64 (ndE t i n)] := by rw [tvV, eN, eV, if_pos (by rw [e1]; exact h3), if_pos (by rw [e1]; exact h3), e1, errIx_first hno hx h3, getD_some hx]
      refine V0 ?_
      try (refine ⟨by omega, _, ndts_at hx, ?_⟩; refine V0 ?_)
      refine fin_frz TT ?_ rfl
      rw [e]; rfl
    · have h3 : ndE t i n = 0 := by simpa using h3
      refine V0 ?_
      exact ⟨i + 1, ⟨hlt, zero_upto hno hx h3⟩, by show t.nodes.length - (i + 1) < t.nodes.length - i; omega, le_of [0] rfl rfl rfl ⟨step_num hlt (by omega), rfl, trivial⟩ ⟨rfl, trivial⟩⟩
  have hge := of_ge hge
  have e1 := errs_all hno (by omega)
  rw [if_neg (by simp [e1])] at eV eN
  refine V0 ?_
  clear hno hi hpre
  refine loop (fun i : Nat => mkSt [(6, .int .i64 i), (1, .bptr 0 0)] [.box 25 t.cs]) (fun i => i ≤ t.edges.length ∧ ∀ j y, j < i → t.edges[j]? = some y → edE t j y = 0) (fun i => t.edges.length - i) 0 ⟨Nat.zero_le _, fun j y h => by omega⟩ (le_of [0] rfl rfl rfl ⟨rfl, rfl, trivial⟩ ⟨rfl, trivial⟩) ?_
  rintro i ⟨hi, hno⟩
  refine V0 ?_
  try rw [edts_len]
  refine ⟨fun hlt => ?_, fun hge => ?_⟩
  · have hlt := of_lt hlt
    have hx : t.edges[i]? = some t.edges[i] := List.getElem?_eq_getElem hlt
    generalize t.edges[i] = n at hx
    have hc := c108 t ht (by omega) i n hx
    refine V0 ?_
    try (refine ⟨by omega, _, edts_at hx, ?_⟩; refine V0 ?_)
    refine ⟨_, _, hc, ?_⟩
    refine V0 ?_
    refine ⟨fun h3 => ?_, fun h3 => ?_⟩
    · have h3 : edE t i n ≠ 0 := by simpa using h3
      have e2 := errs_first hno hx h3
      have e : tvV t = .tuple [.str n.name, .int .i64 (edE t i n)] := by rw [tvV, eN, eV, if_pos (by rw [e2]; exact h3), e2, errIx_first hno hx h3, getD_some hx]
      refine V0 ?_
      try (refine ⟨by omega, _, edts_at hx, ?_⟩; refine V0 ?_)
      refine fin_frz TT ?_ rfl
      rw [e]; rfl
    · have h3 : edE t i n = 0 := by simpa using h3
      refine V0 ?_
      exact ⟨i + 1, ⟨hlt, zero_upto hno hx h3⟩, by show t.edges.length - (i + 1) < t.edges.length - i; omega, le_of [0] rfl rfl rfl ⟨step_num hlt (by omega), rfl, trivial⟩ ⟨rfl, trivial⟩⟩
  have hge := of_ge hge
  have e2 := errs_all hno (by omega)
  have e : tvV t = .tuple [.str eS, .int .i64 0] := by rw [tvV, eN, eV, if_neg (by simp [e2]), e2]
  refine V0 ?_
  refine fin_frz TT ?_ rfl
  rw [e]; rfl
end Go.Av.Z

/- Pruning: what dangles, constants. -/
set_option maxHeartbeats 4000000
namespace Go.Av.Z
open Go.Proofs

theorem c125 (m l : List Int) (hm : m.length ≤ 1099511627776) (h : ∀ i ∈ m, 0 ≤ i ∧ i < l.length) : Con P 125 [] [.slice 1 (nums m), .slice 1 (nums l)] (.slice 1 (nums (m.map (at0 l)))) [] := by
  refine go Tryz.func125 (by rfl) rfl rfl rfl fun hl => ?_
  refine W0 ?_
  refine loop (fun i : Nat => mkSt [(11, .int .i64 i), (10, .int .i64 m.length), (9, .slice 1 (nums m)), (5, .ref 0), (1, .slice 1 (nums l))] [.row 3 1 (nums ((m.take i).map (at0 l)))]) (fun i => i ≤ m.length) (fun i => m.length - i) 0 (Nat.zero_le _)
    (le_of [1] rfl rfl rfl ⟨rfl, by rw [nums_len]; rfl, rfl, rfl, rfl, trivial⟩ ⟨rfl, trivial⟩) ?_
  intro i hi
  refine V0 ?_
  refine ⟨fun hlt => ?_, fun hge => ?_⟩
  · have hlt := of_lt hlt
    have hx : m[i]? = some m[i] := List.getElem?_eq_getElem hlt
    generalize m[i] = k at hx
    have hk := h k (List.mem_of_getElem? hx)
    refine V0 ?_
    refine ⟨by omega, _, nums_at hx, ?_⟩
    refine V0 ?_
    refine ⟨by omega, _, nums_at (at0_some (by omega)), ?_⟩
    refine V0 ?_
    refine ⟨by rw [nums_len, List.length_map, List.length_take]; show (min i m.length + 1) * 8 ≤ _; omega, ?_⟩
    refine V0 ?_
    exact ⟨i + 1, hlt, by show m.length - (i + 1) < m.length - i; omega, le_of [2] rfl rfl rfl ⟨step_num hlt (by omega), rfl, rfl, rfl, rfl, trivial⟩ ⟨by rw [take_map _ hx, nums_app]; rfl, trivial⟩⟩
  · have hge := of_ge hge
    rw [take_of_all hge]
    refine V0 ?_
    exact fin_frz TT rfl rfl
def dglE (edges gone : List Int) (i : Nat) (e : Edge) : Int := if (!edges.contains (i : Int)) = true ∧ (gone.contains e.src = true ∨ gone.contains e.dst = true) then 1 else 0
/-- An edge that is none of some dangles at one of some nodes. -/
def dgl (g : Graph) (edges gone : List Int) : Bool := errs (dglE edges gone) 0 g.edges != 0
theorem c126 (g : Graph) (edges gn : List Int) : Con P 126 [] [g.av, .slice 1 (nums edges), .slice 1 (nums gn)] (.bool (dgl g edges gn)) [] := by
  refine go Tryz.func126 (by rfl) rfl rfl rfl fun hl => ?_
  have hn : g.edges.length ≤ 9223372036854775807 := by
    have := hl (edgs g.edges).length (by simp [lensL, lens, Graph.av, Graph.cs])
    rwa [edgs_len] at this
  refine V0 ?_
  refine loop (fun i : Nat => mkSt [(12, .int .i64 i), (11, .int .i64 g.edges.length), (10, .slice 3 (edgs g.edges)), (1, .slice 1 (nums edges)), (2, .slice 1 (nums gn))] []) (fun i => i ≤ g.edges.length ∧ ∀ j y, j < i → g.edges[j]? = some y → dglE edges gn j y = 0) (fun i => g.edges.length - i) 0 ⟨Nat.zero_le _, fun j y h => by omega⟩
    (le_of [] rfl rfl rfl ⟨rfl, by rw [edgs_len]; rfl, rfl, rfl, rfl, trivial⟩ trivial) ?_
  rintro i ⟨hi, hno⟩
  refine V0 ?_
  refine ⟨fun hlt => ?_, fun hge => ?_⟩
  · have hlt := of_lt hlt
    have hx : g.edges[i]? = some g.edges[i] := List.getElem?_eq_getElem hlt
    generalize g.edges[i] = e at hx
    have yes : dglE edges gn i e = 1 → dgl g edges gn = true := fun h => by rw [dgl, errs_first hno hx (by rw [h]; decide), h]; rfl
    refine V0 ?_
    refine ⟨by omega, _, edgs_at hx, ?_⟩
    refine V0 ?_
    refine ⟨_, _, c43 edges i, ?_⟩
    refine V0 ?_
    refine ⟨fun h1 => ?_, fun h1 => ?_⟩
    · refine V0 ?_
      refine ⟨_, _, c43 gn e.src, ?_⟩
      refine V0 ?_
      refine ⟨fun h2 => ?_, fun h2 => ?_⟩
      · refine V0 ?_
        refine fin_frz TT ?_ rfl
        rw [yes (by rw [dglE, if_pos ⟨h1, .inl h2⟩])]; rfl
      · refine V0 ?_
        refine ⟨_, _, c43 gn e.dst, ?_⟩
        refine V0 ?_
        refine ⟨fun h3 => ?_, fun h3 => ?_⟩
        · refine V0 ?_
          refine fin_frz TT ?_ rfl
          rw [yes (by rw [dglE, if_pos ⟨h1, .inr h3⟩])]; rfl
        · refine V0 ?_
          exact ⟨i + 1, ⟨hlt, zero_upto hno hx (by rw [dglE, h2, h3]; simp)⟩, by show g.edges.length - (i + 1) < g.edges.length - i; omega, le_of [] rfl rfl rfl ⟨step_num hlt hn, rfl, rfl, rfl, rfl, trivial⟩ trivial⟩
    · refine V0 ?_
      exact ⟨i + 1, ⟨hlt, zero_upto hno hx (by rw [dglE, h1]; simp)⟩, by show g.edges.length - (i + 1) < g.edges.length - i; omega, le_of [] rfl rfl rfl ⟨step_num hlt hn, rfl, rfl, rfl, rfl, trivial⟩ trivial⟩
  · have hge := of_ge hge
    refine V0 ?_
    refine fin_frz TT ?_ rfl
    rw [dgl, errs_all hno (by omega)]; rfl
theorem c189 (l : List Int) (n : Int) : Con P 189 [] [.slice 1 (nums l), .int .i64 n] (.bool (l.contains n)) [] := by
  refine go Tryz.func189 (by rfl) rfl rfl rfl fun hl => ?_
  have hn : l.length ≤ 9223372036854775807 := len_nums (rest := []) (fun n h => hl n (by simpa [lensL, lens] using h))
  refine V0 ?_
  refine loop (fun i : Nat => mkSt [(5, .int .i64 i), (0, .slice 1 (nums l)), (1, .int .i64 n)] []) (fun i => i ≤ l.length ∧ ∀ j y, j < i → l[j]? = some y → (y == n) = false) (fun i => l.length - i) 0 ⟨Nat.zero_le _, fun j y h => by omega⟩
    (le_of [] rfl rfl rfl ⟨rfl, rfl, rfl, trivial⟩ trivial) ?_
  rintro i ⟨hi, hno⟩
  refine V0 ?_
  rw [nums_len]
  refine ⟨fun hlt => ?_, fun hge => ?_⟩
  · have hlt := of_lt hlt
    have hx : l[i]? = some l[i] := List.getElem?_eq_getElem hlt
    generalize l[i] = x at hx
    refine V0 ?_
    refine ⟨by omega, _, nums_at hx, ?_⟩
    refine V0 ?_
    refine ⟨fun h3 => ?_, fun h3 => ?_⟩
    · refine V0 ?_
      refine fin_frz TT ?_ rfl
      rw [← plc_contains, plc, idx_some hno hx h3]; simp; rfl
    · refine V0 ?_
      exact ⟨i + 1, ⟨hlt, none_upto (p := fun y => y == n) hno hx h3⟩, by show l.length - (i + 1) < l.length - i; omega, le_of [] rfl rfl rfl ⟨step_num hlt hn, rfl, rfl, trivial⟩ trivial⟩
  · have hge := of_ge hge
    refine V0 ?_
    refine fin_frz TT ?_ rfl
    rw [← plc_contains, plc, idx_none (none_all hno (by omega))]; rfl
theorem c131 (g : Graph) (edges gn : List Int) : Con P 131 [] [g.av, .slice 1 (nums edges), .slice 1 (nums gn)] (.bool (dgl g edges gn)) [] := by
  refine go Tryz.func131 (by rfl) rfl rfl rfl fun hl => ?_
  have hn : g.edges.length ≤ 9223372036854775807 := by
    have := hl (edgs g.edges).length (by simp [lensL, lens, Graph.av, Graph.cs])
    rwa [edgs_len] at this
  refine V0 ?_
  refine loop (fun i : Nat => mkSt [(7, .int .i64 i), (3, .bptr 0 0), (1, .slice 1 (nums edges)), (2, .slice 1 (nums gn))] [.box 29 g.cs]) (fun i => i ≤ g.edges.length ∧ ∀ j y, j < i → g.edges[j]? = some y → dglE edges gn j y = 0) (fun i => g.edges.length - i) 0 ⟨Nat.zero_le _, fun j y h => by omega⟩
    (le_of [0] rfl rfl rfl ⟨rfl, rfl, rfl, rfl, trivial⟩ ⟨rfl, trivial⟩) ?_
  rintro i ⟨hi, hno⟩
  refine V0 ?_
  rw [edgs_len]
  refine ⟨fun hlt => ?_, fun hge => ?_⟩
  · have hlt := of_lt hlt
    have hx : g.edges[i]? = some g.edges[i] := List.getElem?_eq_getElem hlt
    generalize g.edges[i] = e at hx
    have yes : dglE edges gn i e = 1 → dgl g edges gn = true := fun h => by rw [dgl, errs_first hno hx (by rw [h]; decide), h]; rfl
    refine V0 ?_
    refine ⟨_, _, c189 edges i, ?_⟩
    refine V0 ?_
    refine ⟨fun h1 => ?_, fun h1 => ?_⟩
    · refine V0 ?_
      refine ⟨by omega, _, edgs_at hx, ?_⟩
      refine V0 ?_
      refine ⟨_, _, c189 gn e.src, ?_⟩
      refine V0 ?_
      refine ⟨fun h2 => ?_, fun h2 => ?_⟩
      · refine V0 ?_
        refine fin_frz TT ?_ rfl
        rw [yes (by rw [dglE, if_pos ⟨h1, .inl h2⟩])]; rfl
      · refine V0 ?_
        refine ⟨by omega, _, edgs_at hx, ?_⟩
        refine V0 ?_
        refine ⟨_, _, c189 gn e.dst, ?_⟩
        refine V0 ?_
        refine ⟨fun h3 => ?_, fun h3 => ?_⟩
        · refine V0 ?_
          refine fin_frz TT ?_ rfl
          rw [yes (by rw [dglE, if_pos ⟨h1, .inr h3⟩])]; rfl
        · refine V0 ?_
          exact ⟨i + 1, ⟨hlt, zero_upto hno hx (by rw [dglE, h2, h3]; simp)⟩, by show g.edges.length - (i + 1) < g.edges.length - i; omega, le_of [0] rfl rfl rfl ⟨step_num hlt hn, rfl, rfl, rfl, trivial⟩ ⟨rfl, trivial⟩⟩
    · refine V0 ?_
      exact ⟨i + 1, ⟨hlt, zero_upto hno hx (by rw [dglE, h1]; simp)⟩, by show g.edges.length - (i + 1) < g.edges.length - i; omega, le_of [0] rfl rfl rfl ⟨step_num hlt hn, rfl, rfl, rfl, trivial⟩ ⟨rfl, trivial⟩⟩
  · have hge := of_ge hge
    refine V0 ?_
    refine fin_frz TT ?_ rfl
    rw [dgl, errs_all hno (by omega)]; rfl
/-- Not True. -/
def isNoB (c : Cond) : Bool := c.kind == 2 && (match c.kids with | k :: _ => k.kind == 1 | [] => false)
theorem c185 (c : Cond) (h : c.kind = 2 → c.kids ≠ []) : Con P 185 [] [c.av] (.bool (isNoB c)) [] := by
  refine go Tryz.func185 (by rfl) rfl rfl rfl fun hl => ?_
  refine W0 ?_
  refine ⟨fun h1 => ?_, fun h1 => ?_⟩
  · have h1 : (c.kind == 2) = true := h1
    obtain ⟨k, r, hk⟩ := List.exists_cons_of_ne_nil (h (by simpa using h1))
    refine V0 ?_
    refine ⟨by decide, _, cnds_at (i := 0) (x := k) (by rw [hk]; rfl), ?_⟩
    refine V0 ?_
    refine fin_frz TT ?_ rfl
    rw [isNoB, h1, hk]; rfl
  · have h1 : (c.kind == 2) = false := h1
    refine V0 ?_
    refine fin_frz TT ?_ rfl
    rw [isNoB, h1]; rfl
theorem c187 (c : Cond) : Con P 187 [] [c.av] (.bool (c.kind == 1)) [] := by
  refine go Tryz.func187 (by rfl) rfl rfl rfl fun hl => ?_
  refine W0 ?_
  refine fin_frz TT ?_ rfl
  rfl
theorem c188 (c : Cond) : Con P 188 [] [c.av] (.bool (c.kind == 1)) [] := by
  refine go Tryz.func188 (by rfl) rfl rfl rfl fun hl => ?_
  refine W0 ?_
  refine fin_frz TT ?_ rfl
  rfl
def isFlB (c : Cond) : Bool := c.kind == 2 && ((c.kids.length : Int) == 1 && (match c.kids with | k :: _ => k.kind == 1 | [] => false))
theorem c129 (c : Cond) : Con P 129 [] [c.av] (.bool (isFlB c)) [] := by
  refine go Tryz.func129 (by rfl) rfl rfl rfl fun hl => ?_
  refine W0 ?_
  refine ⟨fun h1 => ?_, fun h1 => ?_⟩
  · have h1 : (c.kind == 2) = true := h1
    refine V0 ?_
    rw [cnds_len]
    refine ⟨fun h2 => ?_, fun h2 => ?_⟩
    · have h2 : ((c.kids.length : Int) == 1) = true := h2
      have h3 : c.kids.length = 1 := by have h2 := eq_of_beq h2; omega
      obtain ⟨k, hk⟩ := List.length_eq_one_iff.1 h3
      refine V0 ?_
      refine ⟨by decide, _, cnds_at (i := 0) (x := k) (by rw [hk]; rfl), ?_⟩
      refine V0 ?_
      refine fin_frz TT ?_ rfl
      rw [isFlB, h1, h2, hk]; rfl
    · have h2 : ((c.kids.length : Int) == 1) = false := h2
      refine V0 ?_
      refine fin_frz TT ?_ rfl
      rw [isFlB, h1, h2]; rfl
  · have h1 : (c.kind == 2) = false := h1
    refine V0 ?_
    refine fin_frz TT ?_ rfl
    rw [isFlB, h1]; rfl
end Go.Av.Z

/- Pruning: copies. -/
set_option maxHeartbeats 4000000
namespace Go.Av.Z
open Go.Proofs

mutual
/-- A condition without slots, variables and tests. -/
def cpy : Cond → Cond
  | .mk kind kids map pat => .mk kind (cpys kids) map ⟨pat.graph, [], 0, []⟩
def cpys : List Cond → List Cond
  | [] => []
  | c :: r => cpy c :: cpys r
end
theorem cpys_map : ∀ l : List Cond, cpys l = l.map cpy
  | [] => by rw [cpys]; rfl
  | c :: r => by rw [cpys, cpys_map r]; rfl
theorem cpy_eq (c : Cond) : cpy c = .mk c.kind (c.kids.map cpy) c.map ⟨c.pat.graph, [], 0, []⟩ := by cases c; rw [cpy, cpys_map]; rfl
theorem m70 (c : Cond) (hf : fineA c) (hk : kb c) (ih : ∀ x ∈ c.kids, Con P 70 [] [x.av] (cpy x).av []) : Con P 70 [] [c.av] (cpy c).av [] := by
  obtain ⟨hf1, hf2⟩ := (fineA_iff c).1 hf
  have hkl := ((kb_iff c).1 hk).1
  unfold Cond.fine at hf1
  refine go Tryz.func70 (by rfl) rfl rfl rfl fun hl => ?_
  refine W0 ?_
  refine V0 ?_
  refine ⟨_, _, c46 c.map.nodes (by omega), ?_⟩
  refine V0 ?_
  refine ⟨_, _, c46 c.map.edges (by omega), ?_⟩
  refine V0 ?_
  refine ⟨_, _, c46 c.pat.graph.nodes (by omega), ?_⟩
  refine V0 ?_
  refine ⟨_, _, c98 c.pat.graph.edges (by omega), ?_⟩
  refine V0 ?_
  refine loop (fun n : Nat => mkSt [(34, .int .i64 n), (33, .int .i64 c.kids.length), (32, .slice 9 (cnds c.kids)), (3, .bptr 8 0), (2, .bptr 0 0)] [.box 39 [.int .i64 0, .ref 1, .ref 2, .ref 3, .ref 4, .ref 5, .ref 6, .int .i64 0, .ref 7], .row 39 9 [], .row 3 1 [], .row 3 1 [], .row 3 1 [], .row 133 3 [], .row 117 4 [], .row 119 5 [], .box 39 [.int .i64 c.kind, .ref 9, .ref 10, .ref 11, .ref 12, .ref 13, .ref 14, .int .i64 0, .ref 15], .row 39 9 (cnds ((c.kids.take n).map cpy)), .row 3 1 (nums c.map.nodes), .row 3 1 (nums c.map.edges), .row 3 1 (nums c.pat.graph.nodes), .row 133 3 (edgs c.pat.graph.edges), .row 117 4 [], .row 119 5 []])
      (fun n => n ≤ c.kids.length) (fun n => c.kids.length - n) 0 (Nat.zero_le _)
    (le_of [1, 2, 3, 4, 5, 6, 7, 8, 13, 21, 9, 11, 26, 28, 24, 25] rfl rfl rfl ⟨rfl, by rw [cnds_len]; rfl, rfl, rfl, rfl, trivial⟩ ⟨rfl, rfl, rfl, rfl, rfl, rfl, rfl, rfl, rfl, rfl, rfl, rfl, rfl, rfl, rfl, rfl, trivial⟩) ?_
  intro n hn
  refine V0 ?_
  refine ⟨fun hlt => ?_, fun hge => ?_⟩
  · have hlt := of_lt hlt
    have hx : c.kids[n]? = some c.kids[n] := List.getElem?_eq_getElem hlt
    generalize c.kids[n] = x at hx
    refine V0 ?_
    refine ⟨by omega, _, cnds_at hx, ?_⟩
    refine V0 ?_
    refine ⟨_, _, ih x (List.mem_of_getElem? hx), ?_⟩
    refine V0 ?_
    refine ⟨by rw [cnds_len, List.length_map, List.length_take]; show (_ + 1) * 184 ≤ _; omega, ?_⟩
    refine V0 ?_
    exact ⟨n + 1, hlt, by show c.kids.length - (n + 1) < c.kids.length - n; omega, le_of [0, 1, 2, 3, 4, 5, 6, 7, 8, 26, 10, 11, 12, 13, 14, 15] rfl rfl rfl ⟨step_num hlt (by omega), rfl, rfl, rfl, rfl, trivial⟩ ⟨rfl, rfl, rfl, rfl, rfl, rfl, rfl, rfl, rfl, by rw [take_map _ hx, cnds_app]; rfl, rfl, rfl, rfl, rfl, rfl, rfl, trivial⟩⟩
  · have hge := of_ge hge
    rw [take_of_all hge]
    refine V0 ?_
    refine fin_frz TT ?_ rfl
    rw [cpy_eq]; rfl
theorem c70 (c : Cond) (hf : fineA c) (hk : kb c) : Con P 70 [] [c.av] (cpy c).av [] :=
  m70 c hf hk fun x hx => c70 x (((fineA_iff c).1 hf).2 x hx) (((kb_iff c).1 hk).2 x hx)
  termination_by SizeOf.sizeOf c
  decreasing_by exact kid_lt hx
end Go.Av.Z

/- Pruning: lists of kids. -/
set_option maxHeartbeats 4000000
namespace Go.Av.Z
open Go.Proofs

def nil4 (k : Int) (ks : List Cond) : Cond := .mk k ks ⟨[], []⟩ ⟨⟨[], []⟩, [], 0, []⟩
def lstE (c empty : Cond) : List Cond → Cond
  | [] => empty
  | [k] => k
  | ks => nil4 c.kind ks
def lst (c empty whole : Cond) (neu abs : Cond → Bool) : Cond := if c.kids.any abs = true then whole else lstE c empty (c.kids.filter fun k => !neu k)
theorem filter_tk {α : Type} (p : α → Bool) {l : List α} {i : Nat} {x : α} (h : l[i]? = some x) : (l.take (i + 1)).filter p = (l.take i).filter p ++ (if p x = true then [x] else []) := by
  rw [List.take_add_one, h, List.filter_append]
  cases hp : p x <;> simp [hp]
theorem c186 (c empty whole : Cond) (f1 f2 : Nat) (neu abs : Cond → Bool) (hk : c.kids.length ≤ 1048576) (h1 : ∀ k ∈ c.kids, Con P f1 [] [k.av] (.bool (neu k)) []) (h2 : ∀ k ∈ c.kids, Con P f2 [] [k.av] (.bool (abs k)) []) :
    Con P 186 [] [c.av, empty.av, whole.av, .fn f1 [], .fn f2 []] (lst c empty whole neu abs).av [] := by
  refine go Tryz.func186 (by rfl) rfl rfl rfl fun hl => ?_
  refine W0 ?_
  rw [cnds_len]
  refine loop (fun n : Nat => mkSt [(17, .int .i64 n), (16, .int .i64 c.kids.length), (15, .slice 9 (cnds c.kids)), (5, .bptr 0 0), (6, .bptr 1 0), (7, .bptr 2 0), (10, .bptr 3 0), (11, .ref 11), (3, .fn f1 []), (4, .fn f2 [])] [.box 39 c.cs, .box 39 empty.cs, .box 39 whole.cs, .box 39 [.int .i64 0, .ref 4, .ref 5, .ref 6, .ref 7, .ref 8, .ref 9, .int .i64 0, .ref 10], .row 39 9 [], .row 3 1 [], .row 3 1 [], .row 3 1 [], .row 133 3 [], .row 117 4 [], .row 119 5 [], .row 39 9 (cnds ((c.kids.take n).filter fun k => !neu k))])
      (fun n => n ≤ c.kids.length ∧ ∀ j y, j < n → c.kids[j]? = some y → abs y = false) (fun n => c.kids.length - n) 0 ⟨Nat.zero_le _, fun j y h => by omega⟩
    (le_of [0, 1, 2, 3, 4, 5, 6, 7, 8, 9, 10, 11] rfl rfl rfl ⟨rfl, rfl, rfl, rfl, rfl, rfl, rfl, rfl, rfl, rfl, trivial⟩ ⟨rfl, rfl, rfl, rfl, rfl, rfl, rfl, rfl, rfl, rfl, rfl, rfl, trivial⟩) ?_
  rintro n ⟨hn, hno⟩
  refine V0 ?_
  refine ⟨fun hlt => ?_, fun hge => ?_⟩
  · have hlt := of_lt hlt
    have hx : c.kids[n]? = some c.kids[n] := List.getElem?_eq_getElem hlt
    generalize c.kids[n] = x at hx
    have hm := List.mem_of_getElem? hx
    refine V0 ?_
    refine ⟨by omega, _, cnds_at hx, ?_⟩
    refine V0 ?_
    refine ⟨_, _, h2 x hm, ?_⟩
    refine V0 ?_
    refine ⟨fun h3 => ?_, fun h3 => ?_⟩
    · refine V0 ?_
      refine fin_frz TT ?_ rfl
      rw [lst, if_pos (any_at hx h3)]; rfl
    have hno2 := none_upto (p := abs) hno hx h3
    refine V0 ?_
    refine ⟨_, _, h1 x hm, ?_⟩
    refine V0 ?_
    refine ⟨fun h4 => ?_, fun h4 => ?_⟩
    · have hle := List.length_filter_le (fun k => !neu k) (c.kids.take n)
      have hle2 : (c.kids.take n).length ≤ c.kids.length := by rw [List.length_take]; omega
      refine V0 ?_
      refine ⟨by rw [cnds_len]; show (_ + 1) * 184 ≤ _; omega, ?_⟩
      refine V0 ?_
      exact ⟨n + 1, ⟨hlt, hno2⟩, by show c.kids.length - (n + 1) < c.kids.length - n; omega, le_of [0, 1, 2, 3, 4, 5, 6, 7, 8, 9, 10, 23] rfl rfl rfl ⟨step_num hlt (by omega), rfl, rfl, rfl, rfl, rfl, rfl, rfl, rfl, rfl, trivial⟩ ⟨rfl, rfl, rfl, rfl, rfl, rfl, rfl, rfl, rfl, rfl, rfl, by rw [filter_tk _ hx, if_pos h4, cnds_app]; rfl, trivial⟩⟩
    · have h4 : (!neu x) = false := h4
      refine V0 ?_
      exact ⟨n + 1, ⟨hlt, hno2⟩, by show c.kids.length - (n + 1) < c.kids.length - n; omega, le_of [0, 1, 2, 3, 4, 5, 6, 7, 8, 9, 10, 11] rfl rfl rfl ⟨step_num hlt (by omega), rfl, rfl, rfl, rfl, rfl, rfl, rfl, rfl, rfl, trivial⟩ ⟨rfl, rfl, rfl, rfl, rfl, rfl, rfl, rfl, rfl, rfl, rfl, by rw [filter_tk _ hx, if_neg (by simp [h4]), List.append_nil]; rfl, trivial⟩⟩
  have hge := of_ge hge
  rw [take_of_all hge]
  have e : lst c empty whole neu abs = lstE c empty (c.kids.filter fun k => !neu k) := by rw [lst, if_neg (by rw [any_none hno (by omega)]; simp)]
  generalize (c.kids.filter fun k => !neu k) = ks at e
  refine V0 ?_
  rw [cnds_len]
  refine ⟨fun h3 => ?_, fun h3 => ?_⟩
  · have h3 : ks = [] := List.eq_nil_of_length_eq_zero (by have h3 : ((ks.length : Int) == 0) = true := h3; have := eq_of_beq h3; omega)
    subst h3
    refine V0 ?_
    refine fin_frz TT ?_ rfl
    rw [e]; rfl
  have h3 : ks.length ≠ 0 := by intro h; have h3 : ((ks.length : Int) == 0) = false := h3; rw [h] at h3; cases h3
  refine V0 ?_
  refine ⟨fun h4 => ?_, fun h4 => ?_⟩
  · have h4 : ks.length = 1 := by have h4 : ((ks.length : Int) == 1) = true := h4; have := eq_of_beq h4; omega
    obtain ⟨k, rfl⟩ := List.length_eq_one_iff.1 h4
    refine V0 ?_
    refine ⟨⟨by decide, by rw [cnds_len]; exact Int.one_pos⟩, ?_⟩
    refine V0 ?_
    refine ⟨rfl, _, cnds_at (i := 0) (x := k) rfl, ?_⟩
    refine V0 ?_
    refine fin_frz TT ?_ rfl
    rw [e]; rfl
  · have h4 : ks.length ≠ 1 := by intro h; have h4 : ((ks.length : Int) == 1) = false := h4; rw [h] at h4; cases h4
    match ks, h3, h4 with
    | [], h3, _ => exact absurd rfl h3
    | [k], _, h4 => exact absurd rfl h4
    | a :: b :: r, _, _ =>
      refine V0 ?_
      refine fin_frz TT ?_ rfl
      rw [e]; rfl
end Go.Av.Z

/- Pruning: reduced, cut. -/
set_option maxHeartbeats 4000000
namespace Go.Av.Z
open Go.Proofs

/-- Not has a kid. -/
def nn (c : Cond) : Prop := c.kind = 2 → c.kids ≠ []
def kid0 (c : Cond) : Cond := c.kids.headD .zero
def red (c : Cond) : Cond :=
  if (c.kind == 2) = true then (if isNoB (kid0 c) = true then cyes else c)
  else if (c.kind == 3) = true then lst c cyes cno (fun k => k.kind == 1) isNoB
  else if (c.kind == 4) = true then lst c cno cyes isNoB (fun k => k.kind == 1)
  else if (c.kind == 5) = true then (if isNoB (kid0 c) = true then cno else c)
  else c
theorem c128 (c : Cond) (hk : c.kids.length ≤ 1048576) (h0 : c.kind = 2 ∨ c.kind = 5 → c.kids ≠ []) (hn : ∀ k ∈ c.kids, nn k) : Con P 128 [] [c.av] (red c).av [] := by
  have hz : ∀ k r, c.kids = k :: r → kid0 c = k := fun k r h => by rw [kid0, h]; rfl
  have ho : c.av = .agg c.cs := rfl
  refine go Tryz.func128 (by rfl) rfl rfl rfl fun hl => ?_
  refine W0 ?_
  refine ⟨fun h1 => ?_, fun h1 => ?_⟩
  · have h1 : (c.kind == 2) = true := h1
    obtain ⟨k, r, hkr⟩ := List.exists_cons_of_ne_nil (h0 (.inl (by simpa using h1)))
    have hx : c.kids[0]? = some k := by rw [hkr]; rfl
    have e : red c = if isNoB k = true then cyes else c := by rw [red, if_pos h1, hz k r hkr]
    refine V0 ?_
    refine ⟨by decide, _, cnds_at hx, ?_⟩
    refine V0 ?_
    refine ⟨_, _, c185 k (hn k (List.mem_of_getElem? hx)), ?_⟩
    refine V0 ?_
    refine ⟨fun h2 => ?_, fun h2 => ?_⟩
    · refine V0 ?_
      refine ⟨_, _, c47, ?_⟩
      refine V0 ?_
      refine fin_frz TT ?_ rfl
      rw [e, if_pos h2]; rfl
    · refine V0 ?_
      refine fin_frz TT ?_ rfl
      rw [e, if_neg (by simp [h2])]; rfl
  have h1 : (c.kind == 2) = false := h1
  refine V0 ?_
  refine ⟨fun h2 => ?_, fun h2 => ?_⟩
  · have e : red c = lst c cyes cno (fun k => k.kind == 1) isNoB := by rw [red, if_neg (by simp [h1]), if_pos h2]
    refine V0 ?_
    refine ⟨_, _, c47, ?_⟩
    refine V0 ?_
    refine ⟨_, _, c127, ?_⟩
    refine V0 ?_
    refine ⟨_, _, c186 c cyes cno 187 185 (fun k => k.kind == 1) isNoB hk (fun k _ => c187 k) (fun k hm => c185 k (hn k hm)), ?_⟩
    refine V0 ?_
    refine fin_frz TT ?_ rfl
    rw [e]; rfl
  have h2 : (c.kind == 3) = false := h2
  refine V0 ?_
  refine ⟨fun h3 => ?_, fun h3 => ?_⟩
  · have e : red c = lst c cno cyes isNoB (fun k => k.kind == 1) := by rw [red, if_neg (by simp [h1]), if_neg (by simp [h2]), if_pos h3]
    refine V0 ?_
    refine ⟨_, _, c127, ?_⟩
    refine V0 ?_
    refine ⟨_, _, c47, ?_⟩
    refine V0 ?_
    refine ⟨_, _, c186 c cno cyes 185 188 isNoB (fun k => k.kind == 1) hk (fun k hm => c185 k (hn k hm)) (fun k _ => c188 k), ?_⟩
    refine V0 ?_
    refine fin_frz TT ?_ rfl
    rw [e]; rfl
  have h3 : (c.kind == 4) = false := h3
  refine V0 ?_
  refine ⟨fun h4 => ?_, fun h4 => ?_⟩
  · obtain ⟨k, r, hkr⟩ := List.exists_cons_of_ne_nil (h0 (.inr (by simpa using h4)))
    have hx : c.kids[0]? = some k := by rw [hkr]; rfl
    have e : red c = if isNoB k = true then cno else c := by rw [red, if_neg (by simp [h1]), if_neg (by simp [h2]), if_neg (by simp [h3]), if_pos h4, hz k r hkr]
    refine V0 ?_
    refine ⟨by decide, _, cnds_at hx, ?_⟩
    refine V0 ?_
    refine ⟨_, _, c185 k (hn k (List.mem_of_getElem? hx)), ?_⟩
    refine V0 ?_
    refine ⟨fun h5 => ?_, fun h5 => ?_⟩
    · refine V0 ?_
      refine ⟨_, _, c127, ?_⟩
      refine V0 ?_
      refine fin_frz TT ?_ rfl
      rw [e, if_pos h5]; rfl
    · refine V0 ?_
      refine fin_frz TT ?_ rfl
      rw [e, if_neg (by simp [h5])]; rfl
  · have h4 : (c.kind == 5) = false := h4
    refine V0 ?_
    refine fin_frz TT ?_ rfl
    rw [red, if_neg (by simp [h1]), if_neg (by simp [h2]), if_neg (by simp [h3]), if_neg (by simp [h4])]; rfl
mutual
def prn (gone edges : List Int) : Cond → Cond
  | .mk kind kids map pat => if (kind == 5) = true then (if dgl pat.graph (edges.map (at0 map.edges)) (gone.map (at0 map.nodes)) = true then cno
      else red (.mk kind (prns (gone.map (at0 map.nodes)) (edges.map (at0 map.edges)) kids) map pat)) else red (.mk kind (prns gone edges kids) map pat)
def prns (gone edges : List Int) : List Cond → List Cond
  | [] => []
  | c :: r => prn gone edges c :: prns gone edges r
end
theorem prns_map (gone edges : List Int) : ∀ l : List Cond, prns gone edges l = l.map (prn gone edges)
  | [] => by rw [prns]; rfl
  | c :: r => by rw [prns, prns_map gone edges r]; rfl
/-- A condition with other kids. -/
def wth (c : Cond) (ks : List Cond) : Cond := .mk c.kind ks c.map c.pat
theorem prn_eq (gone edges : List Int) (c : Cond) : prn gone edges c = if (c.kind == 5) = true then (if dgl c.pat.graph (edges.map (at0 c.map.edges)) (gone.map (at0 c.map.nodes)) = true then cno
      else red (wth c (c.kids.map (prn (gone.map (at0 c.map.nodes)) (edges.map (at0 c.map.edges)))))) else red (wth c (c.kids.map (prn gone edges))) := by
  cases c
  rw [prn, prns_map, prns_map]; rfl
theorem nn_cyes : nn cyes := by intro h; cases h
theorem nn_cno : nn cno := by intro _; simp [cno, Cond.kids]
theorem red_nn {c : Cond} (h0 : c.kind = 2 → c.kids ≠ []) (hn : ∀ k ∈ c.kids, nn k) : nn (red c) := by
  have hl : ∀ (empty whole : Cond) (neu abs : Cond → Bool), c.kind ≠ 2 → nn empty → nn whole → nn (lst c empty whole neu abs) := by
    intro empty whole neu abs hc h1 h2
    unfold lst
    split
    · exact h2
    · have hs : ∀ k ∈ c.kids.filter (fun k => !neu k), nn k := fun k hk => hn k (List.mem_filter.1 hk).1
      generalize c.kids.filter (fun k => !neu k) = ks at hs
      match ks, hs with
      | [], _ => exact h1
      | [k], hs => exact hs k (by simp)
      | a :: b :: r, _ => intro h; exact absurd h hc
  unfold red
  split
  · split
    · exact nn_cyes
    · exact h0
  · rename_i g2
    have g2 : c.kind ≠ 2 := by simpa using g2
    split
    · exact hl _ _ _ _ g2 nn_cyes nn_cno
    · split
      · exact hl _ _ _ _ g2 nn_cno nn_cyes
      · split
        · split
          · exact nn_cno
          · exact h0
        · exact h0
end Go.Av.Z

/- Pruning: the program's cut. -/
set_option maxHeartbeats 4000000
namespace Go.Av.Z
open Go.Proofs

theorem shp_two {c : Cond} (h : shp c = 0) (h2 : c.kind = 2) : ∃ x, c.kids = [x] := by
  unfold shp at h
  split at h
  · cases h
  · rename_i h1
    have h1 : shpOk c = true := by simpa using h1
    unfold shpOk at h1
    rw [h2] at h1
    have h1 : (((c.kids.length : Int) == 1) && unusedB c) = true := h1
    rw [Bool.and_eq_true] at h1
    have := eq_of_beq h1.1
    exact List.length_eq_one_iff.1 (by omega)
theorem nn_ovr {a : Graph} {c : Cond} (h : ovr a c = 0) : nn c := by
  intro h2
  obtain ⟨x, hx⟩ := shp_two (ovr_shp h) h2
  rw [hx]; simp
theorem wth_kids (c : Cond) (ks : List Cond) : (wth c ks).kids = ks := rfl
theorem wth_kind (c : Cond) (ks : List Cond) : (wth c ks).kind = c.kind := rfl
theorem prn_nn (c : Cond) (a : Graph) (h : ovr a c = 0) (gone edges : List Int) : nn (prn gone edges c) := by
  rw [prn_eq]
  split
  · rename_i h5
    obtain ⟨⟨y, hy, hoy⟩, _⟩ := ovr_five h h5
    have hm : y ∈ c.kids := by rw [hy]; exact List.mem_singleton.2 rfl
    split
    · exact nn_cno
    · refine red_nn (fun h2 => ?_) (fun k hk => ?_)
      · rw [wth_kind] at h2; rw [h2] at h5; cases h5
      · rw [wth_kids, hy] at hk
        simp only [List.map_cons, List.map_nil, List.mem_singleton] at hk
        subst hk
        exact prn_nn y c.pat.graph hoy _ _
  · rename_i h5
    have h5 : (c.kind == 5) = false := by simpa using h5
    have hok := ovr_else h h5
    refine red_nn (fun h2 => ?_) (fun k hk => ?_)
    · have := nn_ovr h h2
      rw [wth_kids]
      simpa using this
    · rw [wth_kids, List.mem_map] at hk
      obtain ⟨x, hx, rfl⟩ := hk
      exact prn_nn x a (hok x hx) _ _
  termination_by SizeOf.sizeOf c
  decreasing_by all_goals (exact kid_lt (by assumption))
theorem img_in {by_ gone : List Int} {n m : Nat} (hb : ∀ k ∈ by_, 0 ≤ k ∧ k < m) (hl : by_.length = n) (hg : ∀ i ∈ gone, 0 ≤ i ∧ i < n) : ∀ i ∈ gone.map (at0 by_), 0 ≤ i ∧ i < m := by
  intro i hi
  obtain ⟨j, hj, rfl⟩ := List.mem_map.1 hi
  have := hg j hj
  exact hb _ (List.mem_of_getElem? (at0_some (l := by_) (n := j) (by omega)))
theorem m69 (c : Cond) (a : Graph) (ho : ovr a c = 0) (hk : kb c) (gone edges : List Int) (hg : ∀ i ∈ gone, 0 ≤ i ∧ i < a.nodes.length) (he : ∀ i ∈ edges, 0 ≤ i ∧ i < a.edges.length) (hgl : gone.length ≤ 1048576) (hel : edges.length ≤ 1048576)
    (ih : ∀ x ∈ c.kids, ∀ (a : Graph) (gone edges : List Int), ovr a x = 0 → (∀ i ∈ gone, 0 ≤ i ∧ i < a.nodes.length) → (∀ i ∈ edges, 0 ≤ i ∧ i < a.edges.length) → gone.length ≤ 1048576 → edges.length ≤ 1048576 →
      Con P 69 [] [x.av, .slice 1 (nums gone), .slice 1 (nums edges)] (prn gone edges x).av []) : Con P 69 [] [c.av, .slice 1 (nums gone), .slice 1 (nums edges)] (prn gone edges c).av [] := by
  have hkl := ((kb_iff c).1 hk).1
  by_cases h5 : (c.kind == 5) = true
  · obtain ⟨⟨y, hy, hoy⟩, hmv, _⟩ := ovr_five ho h5
    have hml := mval_len hmv
    have e := prn_eq gone edges c
    rw [if_pos h5] at e
    refine go Tryz.func69 (by rfl) rfl rfl rfl fun hl => ?_
    refine W0 ?_
    refine ⟨fun _ => ?_, fun h => absurd (h5.symm.trans h) (by simp)⟩
    refine V0 ?_
    refine ⟨_, _, c125 gone c.map.nodes (by omega) (by rw [hml.1]; exact hg), ?_⟩
    refine V0 ?_
    refine ⟨_, _, c125 edges c.map.edges (by omega) (by rw [hml.2.1]; exact he), ?_⟩
    refine V0 ?_
    have hg2 := img_in (mval_node hmv) hml.1 hg
    have he2 := img_in (mval_edge hmv) hml.2.1 he
    have hgl2 : (gone.map (at0 c.map.nodes)).length ≤ 1048576 := by rw [List.length_map]; exact hgl
    have hel2 : (edges.map (at0 c.map.edges)).length ≤ 1048576 := by rw [List.length_map]; exact hel
    generalize gone.map (at0 c.map.nodes) = gone2 at hg2 hgl2 e
    generalize edges.map (at0 c.map.edges) = edges2 at he2 hel2 e
    refine ⟨_, _, c126 c.pat.graph edges2 gone2, ?_⟩
    refine V0 ?_
    refine ⟨fun h => ?_, fun h => ?_⟩
    · refine V0 ?_
      refine ⟨_, _, c127, ?_⟩
      refine V0 ?_
      refine fin_frz TT ?_ rfl
      rw [e, if_pos h]; rfl
    rw [if_neg (by simp [h])] at e
    have ihx := fun x hm => ih x hm c.pat.graph gone2 edges2 (by rw [hy, List.mem_singleton] at hm; rw [hm]; exact hoy) hg2 he2 hgl2 hel2
    refine V0 ?_
    have hk0 : (wth c (c.kids.map (prn gone2 edges2))).kind = 2 ∨ (wth c (c.kids.map (prn gone2 edges2))).kind = 5 → (wth c (c.kids.map (prn gone2 edges2))).kids ≠ [] := fun _ => by rw [wth_kids, hy]; simp
    have hkn : ∀ k ∈ (wth c (c.kids.map (prn gone2 edges2))).kids, nn k := fun k hk => by
      rw [wth_kids, hy] at hk
      simp only [List.map_cons, List.map_nil, List.mem_singleton] at hk
      subst hk
      exact prn_nn y c.pat.graph hoy _ _
    rw [cnds_len]
    refine loop (fun n : Nat => mkSt [(35, .int .i64 n), (34, .int .i64 c.kids.length), (33, .slice 9 (cnds c.kids)), (3, .bptr 0 0), (6, .bptr 1 0), (7, .bptr 9 0), (1, .slice 1 (nums (gone2))), (2, .slice 1 (nums (edges2)))] [.box 39 c.cs, .box 39 [.int .i64 0, .ref 2, .ref 3, .ref 4, .ref 5, .ref 6, .ref 7, .int .i64 0, .ref 8], .row 39 9 [], .row 3 1 [], .row 3 1 [], .row 3 1 [], .row 133 3 [], .row 117 4 [], .row 119 5 [], .box 39 [.int .i64 c.kind, .ref 10, .slice 1 (nums c.map.nodes), .slice 1 (nums c.map.edges), .slice 1 (nums c.pat.graph.nodes), .slice 3 (edgs c.pat.graph.edges), .slice 4 (slts c.pat.slots), .int .i64 c.pat.vars, .slice 5 (tsts c.pat.tests)], .row 39 9 (cnds ((c.kids.take n).map (prn (gone2) (edges2))))])
        (fun n => n ≤ c.kids.length) (fun n => c.kids.length - n) 0 (Nat.zero_le _)
      (le_of [0, 1, 2, 3, 4, 5, 6, 7, 8, 12, 20] rfl rfl rfl ⟨rfl, rfl, rfl, rfl, rfl, rfl, rfl, rfl, trivial⟩ ⟨rfl, rfl, rfl, rfl, rfl, rfl, rfl, rfl, rfl, rfl, rfl, trivial⟩) ?_
    intro n hn
    refine V0 ?_
    refine ⟨fun hlt => ?_, fun hge => ?_⟩
    · have hlt := of_lt hlt
      have hx : c.kids[n]? = some c.kids[n] := List.getElem?_eq_getElem hlt
      generalize c.kids[n] = x at hx
      have hm := List.mem_of_getElem? hx
      refine V0 ?_
      refine ⟨by omega, _, cnds_at hx, ?_⟩
      refine V0 ?_
      refine ⟨_, _, ihx x hm, ?_⟩
      refine V0 ?_
      refine ⟨by rw [cnds_len, List.length_map, List.length_take]; show (_ + 1) * 184 ≤ _; omega, ?_⟩
      refine V0 ?_
      exact ⟨n + 1, hlt, by show c.kids.length - (n + 1) < c.kids.length - n; omega, le_of [0, 1, 2, 3, 4, 5, 6, 7, 8, 9, 21] rfl rfl rfl ⟨step_num hlt (by omega), rfl, rfl, rfl, rfl, rfl, rfl, rfl, trivial⟩ ⟨rfl, rfl, rfl, rfl, rfl, rfl, rfl, rfl, rfl, rfl, by rw [take_map _ hx, cnds_app]; rfl, trivial⟩⟩
    · have hge := of_ge hge
      rw [take_of_all hge]
      refine V0 ?_
      have hred := c128 (wth c (c.kids.map (prn (gone2) (edges2)))) (by rw [wth_kids, List.length_map]; exact hkl) hk0 hkn
      refine ⟨_, _, con_frz rfl rfl rfl hred, ?_⟩
      refine V0 ?_
      refine fin_frz TT ?_ rfl
      rw [e]; rfl
  · have h5 : (c.kind == 5) = false := by simpa using h5
    have hok := ovr_else ho h5
    have e := prn_eq gone edges c
    rw [if_neg (by simp [h5])] at e
    have ihx := fun x hm => ih x hm a gone edges (hok x hm) hg he hgl hel
    have hk0 : (wth c (c.kids.map (prn gone edges))).kind = 2 ∨ (wth c (c.kids.map (prn gone edges))).kind = 5 → (wth c (c.kids.map (prn gone edges))).kids ≠ [] := fun h => by
      rw [wth_kind] at h
      rcases h with h | h
      · rw [wth_kids]; simpa using nn_ovr ho h
      · rw [h] at h5; cases h5
    have hkn : ∀ k ∈ (wth c (c.kids.map (prn gone edges))).kids, nn k := fun k hk => by
      rw [wth_kids, List.mem_map] at hk
      obtain ⟨x, hx, rfl⟩ := hk
      exact prn_nn x a (hok x hx) _ _
    refine go Tryz.func69 (by rfl) rfl rfl rfl fun hl => ?_
    refine W0 ?_
    refine ⟨fun h => absurd (h5.symm.trans h) (by simp), fun _ => ?_⟩
    refine V0 ?_
    rw [cnds_len]
    refine loop (fun n : Nat => mkSt [(35, .int .i64 n), (34, .int .i64 c.kids.length), (33, .slice 9 (cnds c.kids)), (3, .bptr 0 0), (6, .bptr 1 0), (7, .bptr 9 0), (1, .slice 1 (nums (gone))), (2, .slice 1 (nums (edges)))] [.box 39 c.cs, .box 39 [.int .i64 0, .ref 2, .ref 3, .ref 4, .ref 5, .ref 6, .ref 7, .int .i64 0, .ref 8], .row 39 9 [], .row 3 1 [], .row 3 1 [], .row 3 1 [], .row 133 3 [], .row 117 4 [], .row 119 5 [], .box 39 [.int .i64 c.kind, .ref 10, .slice 1 (nums c.map.nodes), .slice 1 (nums c.map.edges), .slice 1 (nums c.pat.graph.nodes), .slice 3 (edgs c.pat.graph.edges), .slice 4 (slts c.pat.slots), .int .i64 c.pat.vars, .slice 5 (tsts c.pat.tests)], .row 39 9 (cnds ((c.kids.take n).map (prn (gone) (edges))))])
        (fun n => n ≤ c.kids.length) (fun n => c.kids.length - n) 0 (Nat.zero_le _)
      (le_of [0, 1, 2, 3, 4, 5, 6, 7, 8, 9, 17] rfl rfl rfl ⟨rfl, rfl, rfl, rfl, rfl, rfl, rfl, rfl, trivial⟩ ⟨rfl, rfl, rfl, rfl, rfl, rfl, rfl, rfl, rfl, rfl, rfl, trivial⟩) ?_
    intro n hn
    refine V0 ?_
    refine ⟨fun hlt => ?_, fun hge => ?_⟩
    · have hlt := of_lt hlt
      have hx : c.kids[n]? = some c.kids[n] := List.getElem?_eq_getElem hlt
      generalize c.kids[n] = x at hx
      have hm := List.mem_of_getElem? hx
      refine V0 ?_
      refine ⟨by omega, _, cnds_at hx, ?_⟩
      refine V0 ?_
      refine ⟨_, _, ihx x hm, ?_⟩
      refine V0 ?_
      refine ⟨by rw [cnds_len, List.length_map, List.length_take]; show (_ + 1) * 184 ≤ _; omega, ?_⟩
      refine V0 ?_
      exact ⟨n + 1, hlt, by show c.kids.length - (n + 1) < c.kids.length - n; omega, le_of [0, 1, 2, 3, 4, 5, 6, 7, 8, 9, 21] rfl rfl rfl ⟨step_num hlt (by omega), rfl, rfl, rfl, rfl, rfl, rfl, rfl, trivial⟩ ⟨rfl, rfl, rfl, rfl, rfl, rfl, rfl, rfl, rfl, rfl, by rw [take_map _ hx, cnds_app]; rfl, trivial⟩⟩
    · have hge := of_ge hge
      rw [take_of_all hge]
      refine V0 ?_
      have hred := c128 (wth c (c.kids.map (prn (gone) (edges)))) (by rw [wth_kids, List.length_map]; exact hkl) hk0 hkn
      refine ⟨_, _, con_frz rfl rfl rfl hred, ?_⟩
      refine V0 ?_
      refine fin_frz TT ?_ rfl
      rw [e]; rfl
theorem c69 (c : Cond) (hk : kb c) (a : Graph) (gone edges : List Int) (ho : ovr a c = 0) (hg : ∀ i ∈ gone, 0 ≤ i ∧ i < a.nodes.length) (he : ∀ i ∈ edges, 0 ≤ i ∧ i < a.edges.length) (hgl : gone.length ≤ 1048576) (hel : edges.length ≤ 1048576) :
    Con P 69 [] [c.av, .slice 1 (nums gone), .slice 1 (nums edges)] (prn gone edges c).av [] :=
  m69 c a ho hk gone edges hg he hgl hel fun x hx a gone edges h1 h2 h3 h4 h5 => c69 x (((kb_iff c).1 hk).2 x hx) a gone edges h1 h2 h3 h4 h5
  termination_by SizeOf.sizeOf c
  decreasing_by exact kid_lt hx
end Go.Av.Z

/- Small type graphs; what is deleted. -/
set_option maxHeartbeats 4000000
namespace Go.Av.Z
open Go.Proofs

def fS (_ : Nat) (s : ByteArray) : Int := if 40 < s.size then 1 else 0
def fA (_ : Nat) (a : Attr) : Int := if 40 < a.name.size then 1 else if 25 < a.names.length then 1 else errs fS 0 a.names
/-- The first node types, whose attributes are counted. -/
def fN : List NodeT → Int → Int
  | [], _ => 0
  | n :: r, s => if 30 < IntKind.i64.wrap (s + n.attrs.length) then 1 else if 40 < n.name.size then 1 else if errs fA 0 n.attrs ≠ 0 then 1 else fN r (IntKind.i64.wrap (s + n.attrs.length))
def fE (_ : Nat) (e : EdgeT) : Int := if 40 < e.name.size then 1 else 0
def fewT (t : Types) : Bool := if 20 < t.nodes.length then false else if 30 < t.edges.length then false else if fN t.nodes 0 ≠ 0 then false else errs fE 0 t.edges == 0
theorem fS_ne {i : Nat} {s : ByteArray} (h : 40 < s.size) : fS i s ≠ 0 := by rw [fS, if_pos h]; decide
theorem fA_one (a : Attr) (h : errs fS 0 a.names ≠ 0) (i : Nat) : fA i a ≠ 0 := by
  unfold fA
  split
  · decide
  · split
    · decide
    · exact h
theorem c11 (t : Types) (ht : t.ok) : Con P 11 [] [t.av] (.bool (fewT t)) [] := by
  refine go Tryz.func11 (by rfl) rfl rfl rfl fun hl => ?_
  refine V0 ?_
  rw [ndts_len]
  refine ⟨fun h1 => ?_, fun h1 => ?_⟩
  · have h1 : 20 < t.nodes.length := by have := of_decide_eq_true h1; omega
    refine V0 ?_
    refine fin_frz TT ?_ rfl
    rw [fewT, if_pos h1]; rfl
  have h1 : ¬ 20 < t.nodes.length := by have := of_decide_eq_false h1; omega
  refine V0 ?_
  rw [edts_len]
  refine ⟨fun h2 => ?_, fun h2 => ?_⟩
  · have h2 : 30 < t.edges.length := by have := of_decide_eq_true h2; omega
    refine V0 ?_
    refine fin_frz TT ?_ rfl
    rw [fewT, if_neg h1, if_pos h2]; rfl
  have h2 : ¬ 30 < t.edges.length := by have := of_decide_eq_false h2; omega
  have e : fewT t = if fN t.nodes 0 ≠ 0 then false else errs fE 0 t.edges == 0 := by rw [fewT, if_neg h1, if_neg h2]
  generalize hF : fN t.nodes 0 = F at e
  refine V0 ?_
  refine loop (fun p : Nat × Int => mkSt [(4, .int .i64 p.1), (3, .int .i64 p.2), (1, .bptr 0 0)] [.box 25 t.cs]) (fun p => p.1 ≤ t.nodes.length ∧ fN (t.nodes.drop p.1) p.2 = F) (fun p => t.nodes.length - p.1) (0, 0) ⟨Nat.zero_le _, hF⟩
    (le_of [0] rfl rfl rfl ⟨rfl, rfl, rfl, trivial⟩ ⟨rfl, trivial⟩) ?_
  rintro ⟨i, s⟩ ⟨hi, hs⟩
  simp only at hi hs
  refine V0 ?_
  rw [ndts_len]
  refine ⟨fun hlt => ?_, fun hge => ?_⟩
  · have hlt : i < t.nodes.length := by have := of_decide_eq_true hlt; omega
    have hx : t.nodes[i]? = some t.nodes[i] := List.getElem?_eq_getElem hlt
    generalize t.nodes[i] = n at hx
    rw [drop_at hx, fN] at hs
    refine V0 ?_
    refine ⟨by omega, _, ndts_at hx, ?_⟩
    refine V0 ?_
    rw [atts_len]
    generalize IntKind.i64.wrap (s + (n.attrs.length : Int)) = s2 at hs
    refine ⟨fun h3 => ?_, fun h3 => ?_⟩
    · have h3 : (30 : Int) < s2 := of_decide_eq_true h3
      rw [if_pos h3] at hs
      refine V0 ?_
      refine fin_frz TT ?_ rfl
      rw [e, if_pos (by rw [← hs]; decide)]; rfl
    have h3 : ¬ (30 : Int) < s2 := of_decide_eq_false h3
    rw [if_neg h3] at hs
    refine V0 ?_
    refine ⟨by omega, _, ndts_at hx, ?_⟩
    refine V0 ?_
    refine ⟨fun h4 => ?_, fun h4 => ?_⟩
    · have h4 : 40 < n.name.size := by have := of_decide_eq_true h4; omega
      rw [if_pos h4] at hs
      refine V0 ?_
      refine fin_frz TT ?_ rfl
      rw [e, if_pos (by rw [← hs]; decide)]; rfl
    have h4 : ¬ 40 < n.name.size := by have := of_decide_eq_false h4; omega
    rw [if_neg h4] at hs
    refine V0 ?_
    have hal := (ht.1 n (List.mem_of_getElem? hx)).2.1
    refine loop (fun k : Nat => mkSt [(5, .int .i64 k), (4, .int .i64 i), (3, .int .i64 s2), (1, .bptr 0 0)] [.box 25 t.cs]) (fun k => k ≤ n.attrs.length ∧ ∀ j y, j < k → n.attrs[j]? = some y → fA j y = 0) (fun k => n.attrs.length - k) 0 ⟨Nat.zero_le _, fun j y h => by omega⟩
      (le_of [0] rfl rfl rfl ⟨rfl, rfl, rfl, rfl, trivial⟩ ⟨rfl, trivial⟩) ?_
    rintro k ⟨hk, hno⟩
    refine V0 ?_
    refine ⟨by omega, _, ndts_at hx, ?_⟩
    refine V0 ?_
    rw [atts_len]
    refine ⟨fun hlt2 => ?_, fun hge2 => ?_⟩
    · have hlt2 : k < n.attrs.length := by have := of_decide_eq_true hlt2; omega
      have hy : n.attrs[k]? = some n.attrs[k] := List.getElem?_eq_getElem hlt2
      generalize n.attrs[k] = a at hy
      have bad : fA k a ≠ 0 → fewT t = false := fun h => by rw [e, if_pos (by rw [← hs, if_pos (by rw [errs_first hno hy h]; exact h)]; decide)]
      refine V0 ?_
      refine ⟨by omega, _, ndts_at hx, ?_⟩
      refine V0 ?_
      refine ⟨by omega, _, atts_at hy, ?_⟩
      refine V0 ?_
      refine ⟨fun h5 => ?_, fun h5 => ?_⟩
      · have h5 : 40 < a.name.size := by have := of_decide_eq_true h5; omega
        refine V0 ?_
        refine fin_frz TT ?_ rfl
        rw [bad (by rw [fA, if_pos h5]; decide)]; rfl
      have h5 : ¬ 40 < a.name.size := by have := of_decide_eq_false h5; omega
      refine V0 ?_
      rw [strs_len]
      refine ⟨fun h6 => ?_, fun h6 => ?_⟩
      · have h6 : 25 < a.names.length := by have := of_decide_eq_true h6; omega
        refine V0 ?_
        refine fin_frz TT ?_ rfl
        rw [bad (by rw [fA, if_neg h5, if_pos h6]; decide)]; rfl
      have h6 : ¬ 25 < a.names.length := by have := of_decide_eq_false h6; omega
      refine V0 ?_
      refine loop (fun q : Nat => mkSt [(7, .int .i64 q), (6, .bptr 1 0), (5, .int .i64 k), (4, .int .i64 i), (3, .int .i64 s2), (1, .bptr 0 0)] [.box 25 t.cs, .box 87 a.el]) (fun q => q ≤ a.names.length ∧ ∀ j y, j < q → a.names[j]? = some y → fS j y = 0) (fun q => a.names.length - q) 0 ⟨Nat.zero_le _, fun j y h => by omega⟩
        (le_of [0, 1] rfl rfl rfl ⟨rfl, rfl, rfl, rfl, rfl, rfl, trivial⟩ ⟨rfl, rfl, trivial⟩) ?_
      rintro q ⟨hq, hno2⟩
      refine V0 ?_
      rw [strs_len]
      refine ⟨fun hlt3 => ?_, fun hge3 => ?_⟩
      · have hlt3 : q < a.names.length := by have := of_decide_eq_true hlt3; omega
        have hz : a.names[q]? = some a.names[q] := List.getElem?_eq_getElem hlt3
        generalize a.names[q] = z at hz
        refine V0 ?_
        refine ⟨by omega, _, strs_at hz, ?_⟩
        refine V0 ?_
        refine ⟨fun h7 => ?_, fun h7 => ?_⟩
        · have h7 : 40 < z.size := by have := of_decide_eq_true h7; omega
          refine V0 ?_
          refine fin_frz TT ?_ rfl
          rw [bad (fA_one a (by rw [errs_first hno2 hz (fS_ne h7)]; exact fS_ne h7) k)]; rfl
        · have h7 : ¬ 40 < z.size := by have := of_decide_eq_false h7; omega
          refine V0 ?_
          exact ⟨q + 1, ⟨hlt3, zero_upto hno2 hz (by rw [fS, if_neg h7])⟩, by show a.names.length - (q + 1) < a.names.length - q; omega, le_of [0, 1] rfl rfl rfl ⟨step_num hlt3 (by have := ((ht.1 n (List.mem_of_getElem? hx)).2.2 a (List.mem_of_getElem? hy)).2.2; omega), rfl, rfl, rfl, rfl, rfl, trivial⟩ ⟨rfl, rfl, trivial⟩⟩
      · have hge3 : ¬ q < a.names.length := by have := of_decide_eq_false hge3; omega
        have hz := errs_all hno2 (by omega)
        refine V0 ?_
        exact ⟨k + 1, ⟨hlt2, zero_upto hno hy (by rw [fA, if_neg h5, if_neg h6, hz])⟩, by show n.attrs.length - (k + 1) < n.attrs.length - k; omega, le_of [0] rfl rfl rfl ⟨step_num hlt2 (by omega), rfl, rfl, rfl, trivial⟩ ⟨rfl, trivial⟩⟩
    · have hge2 : ¬ k < n.attrs.length := by have := of_decide_eq_false hge2; omega
      rw [if_neg (by rw [errs_all hno (by omega)]; simp)] at hs
      refine V0 ?_
      exact ⟨(i + 1, s2), ⟨hlt, hs⟩, by show t.nodes.length - (i + 1) < t.nodes.length - i; omega, le_of [0] rfl rfl rfl ⟨step_num hlt (by omega), rfl, rfl, trivial⟩ ⟨rfl, trivial⟩⟩
  have hge : ¬ i < t.nodes.length := by have := of_decide_eq_false hge; omega
  rw [List.drop_eq_nil_of_le (by omega), fN] at hs
  rw [if_neg (by rw [← hs]; simp)] at e
  refine V0 ?_
  refine loop (fun i : Nat => mkSt [(8, .int .i64 i), (1, .bptr 0 0)] [.box 25 t.cs]) (fun i => i ≤ t.edges.length ∧ ∀ j y, j < i → t.edges[j]? = some y → fE j y = 0) (fun i => t.edges.length - i) 0 ⟨Nat.zero_le _, fun j y h => by omega⟩
    (le_of [0] rfl rfl rfl ⟨rfl, rfl, trivial⟩ ⟨rfl, trivial⟩) ?_
  clear hi hs
  rintro i ⟨hi, hno⟩
  refine V0 ?_
  rw [edts_len]
  refine ⟨fun hlt => ?_, fun hge => ?_⟩
  · have hlt : i < t.edges.length := by have := of_decide_eq_true hlt; omega
    have hx : t.edges[i]? = some t.edges[i] := List.getElem?_eq_getElem hlt
    generalize t.edges[i] = n at hx
    refine V0 ?_
    refine ⟨by omega, _, edts_at hx, ?_⟩
    refine V0 ?_
    refine ⟨fun h7 => ?_, fun h7 => ?_⟩
    · have h7 : 40 < n.name.size := by have := of_decide_eq_true h7; omega
      have h8 : fE i n = 1 := by rw [fE, if_pos h7]
      refine V0 ?_
      refine fin_frz TT ?_ rfl
      rw [e, errs_first hno hx (by rw [h8]; decide), h8]; rfl
    · have h7 : ¬ 40 < n.name.size := by have := of_decide_eq_false h7; omega
      refine V0 ?_
      exact ⟨i + 1, ⟨hlt, zero_upto hno hx (by rw [fE, if_neg h7])⟩, by show t.edges.length - (i + 1) < t.edges.length - i; omega, le_of [0] rfl rfl rfl ⟨step_num hlt (by omega), rfl, trivial⟩ ⟨rfl, trivial⟩⟩
  · have hge : ¬ i < t.edges.length := by have := of_decide_eq_false hge; omega
    refine V0 ?_
    refine fin_frz TT ?_ rfl
    rw [e, errs_all hno (by omega)]; rfl
end Go.Av.Z

/- What is deleted; the identity. -/
set_option maxHeartbeats 4000000
namespace Go.Av.Z
open Go.Proofs

def idn (g : Graph) : Mor := ⟨rng 0 g.nodes.length, rng 0 g.edges.length⟩
theorem c54 (g : Graph) (h1 : g.nodes.length ≤ 1000000) (h2 : g.edges.length ≤ 1000000) : Con P 54 [] [g.av] (idn g).av [] := by
  refine go Tryz.func54 (by rfl) rfl rfl rfl fun hl => ?_
  refine W0 ?_
  refine V0 ?_
  rw [nums_len]
  refine ⟨_, _, c110 g.nodes.length h1, ?_⟩
  refine V0 ?_
  rw [edgs_len]
  refine ⟨_, _, c110 g.edges.length h2, ?_⟩
  refine V0 ?_
  refine fin_frz TT ?_ rfl
  rfl
theorem c52 (ρ : Rule) (hd : ρ.keep.nodes.Nodup) (h1 : ρ.left.graph.nodes.length ≤ 1000) (h2 : ρ.keep.nodes.length ≤ 1000) : Con P 52 [] [ρ.av] (.slice 1 (nums (restL ρ.left.graph.nodes.length ρ.keep.nodes))) [] := by
  refine go Tryz.func52 (by rfl) rfl rfl rfl fun hl => ?_
  refine W0 ?_
  refine V0 ?_
  rw [nums_len]
  refine ⟨_, _, c78 ρ.keep.nodes ρ.left.graph.nodes.length hd h1 h2, ?_⟩
  refine V0 ?_
  have hbl := back_len ρ.keep.nodes ρ.left.graph.nodes.length
  have hba : ∀ (k : Nat), k < ρ.left.graph.nodes.length → (back ρ.keep.nodes ρ.left.graph.nodes.length)[k]? = some (plc ρ.keep.nodes k) := fun k hk => by
    have := back_at (l := ρ.keep.nodes) (n := ρ.left.graph.nodes.length) (k := (k : Int)) (by omega) (by omega)
    rw [← this]
    exact at0_some (l := back ρ.keep.nodes ρ.left.graph.nodes.length) (n := (k : Int)) (by rw [hbl]; omega)
  generalize back ρ.keep.nodes ρ.left.graph.nodes.length = bk at hbl hba
  refine loop (fun i : Nat => mkSt [(5, .int .i64 i), (4, .ref 0), (3, .slice 1 (nums bk))] [.row 3 1 (nums (restL i ρ.keep.nodes))]) (fun i => i ≤ bk.length) (fun i => bk.length - i) 0 (Nat.zero_le _)
    (le_of [3] rfl rfl rfl ⟨rfl, rfl, rfl, trivial⟩ ⟨rfl, trivial⟩) ?_
  intro i hi
  refine V0 ?_
  rw [nums_len]
  refine ⟨fun hlt => ?_, fun hge => ?_⟩
  · have hlt := of_lt hlt
    have hx := hba i (by omega)
    have hc := plc_contains ρ.keep.nodes (i : Int)
    generalize plc ρ.keep.nodes (i : Int) = k at hx hc
    refine V0 ?_
    refine ⟨by omega, _, nums_at hx, ?_⟩
    refine V0 ?_
    refine ⟨fun h3 => ?_, fun h3 => ?_⟩
    · have h3 : k < 0 := of_decide_eq_true h3
      have h4 : (!ρ.keep.nodes.contains (i : Int)) = true := by rw [← hc]; simp; omega
      have hlen := restL_len i ρ.keep.nodes
      refine V0 ?_
      refine ⟨by rw [nums_len]; show (_ + 1) * 8 ≤ _; omega, ?_⟩
      refine V0 ?_
      exact ⟨i + 1, hlt, by show bk.length - (i + 1) < bk.length - i; omega, le_of [2] rfl rfl rfl ⟨step_num hlt (by omega), rfl, rfl, trivial⟩ ⟨by rw [restL_yes h4, nums_app]; rfl, trivial⟩⟩
    · have h3 : ¬ k < 0 := of_decide_eq_false h3
      have h4 : (!ρ.keep.nodes.contains (i : Int)) = false := by rw [← hc]; simp; omega
      refine V0 ?_
      exact ⟨i + 1, hlt, by show bk.length - (i + 1) < bk.length - i; omega, le_of [0] rfl rfl rfl ⟨step_num hlt (by omega), rfl, rfl, trivial⟩ ⟨by rw [restL_no h4]; rfl, trivial⟩⟩
  · have hge := of_ge hge
    have hi : i = ρ.left.graph.nodes.length := by omega
    subst hi
    refine V0 ?_
    refine fin_frz TT ?_ rfl
    rfl
end Go.Av.Z

/- Pruning: the reference. -/
set_option maxHeartbeats 4000000
namespace Go.Av.Z
open Go.Proofs

mutual
def cutR (gone edges : List Int) : Cond → Cond
  | .mk kind kids map pat => if (kind == 5) = true then (if dgl pat.graph (edges.map (at0 map.edges)) (gone.map (at0 map.nodes)) = true then cno
      else .mk kind (cutRs (gone.map (at0 map.nodes)) (edges.map (at0 map.edges)) kids) map pat) else .mk kind (cutRs gone edges kids) map pat
def cutRs (gone edges : List Int) : List Cond → List Cond
  | [] => []
  | c :: r => cutR gone edges c :: cutRs gone edges r
end
theorem cutRs_map (gone edges : List Int) : ∀ l : List Cond, cutRs gone edges l = l.map (cutR gone edges)
  | [] => by rw [cutRs]; rfl
  | c :: r => by rw [cutRs, cutRs_map gone edges r]; rfl
theorem cutR_eq (gone edges : List Int) (c : Cond) : cutR gone edges c = if (c.kind == 5) = true then (if dgl c.pat.graph (edges.map (at0 c.map.edges)) (gone.map (at0 c.map.nodes)) = true then cno
      else wth c (c.kids.map (cutR (gone.map (at0 c.map.nodes)) (edges.map (at0 c.map.edges))))) else wth c (c.kids.map (cutR gone edges)) := by
  cases c
  rw [cutR, cutRs_map, cutRs_map]; rfl
theorem mx72 (c : Cond) (a : Graph) (ho : ovr a c = 0) (hk : kb c) (gone edges : List Int) (hg : ∀ i ∈ gone, 0 ≤ i ∧ i < a.nodes.length) (he : ∀ i ∈ edges, 0 ≤ i ∧ i < a.edges.length) (hgl : gone.length ≤ 1000000) (hel : edges.length ≤ 1000000)
    (ih : ∀ x ∈ c.kids, ∀ (a : Graph) (gone edges : List Int), ovr a x = 0 → (∀ i ∈ gone, 0 ≤ i ∧ i < a.nodes.length) → (∀ i ∈ edges, 0 ≤ i ∧ i < a.edges.length) → gone.length ≤ 1000000 → edges.length ≤ 1000000 →
      Con P 72 [] [x.av, .slice 1 (nums gone), .slice 1 (nums edges)] (cutR gone edges x).av []) : Con P 72 [] [c.av, .slice 1 (nums gone), .slice 1 (nums edges)] (cutR gone edges c).av [] := by
  have hkl := ((kb_iff c).1 hk).1
  have e := cutR_eq gone edges c
  by_cases h5 : (c.kind == 5) = true
  · obtain ⟨⟨y, hy, hoy⟩, hmv, _⟩ := ovr_five ho h5
    have hml := mval_len hmv
    rw [if_pos h5] at e
    refine go Tryz.func72 (by rfl) rfl rfl rfl fun hl => ?_
    refine W0 ?_
    refine ⟨fun _ => ?_, fun h => absurd (h5.symm.trans h) (by simp)⟩
    refine V0 ?_
    refine ⟨_, _, c77 gone c.map.nodes (by omega) (by rw [hml.1]; exact hg), ?_⟩
    refine V0 ?_
    refine ⟨_, _, c77 edges c.map.edges (by omega) (by rw [hml.2.1]; exact he), ?_⟩
    refine V0 ?_
    have hg2 := img_in (mval_node hmv) hml.1 hg
    have he2 := img_in (mval_edge hmv) hml.2.1 he
    have hgl2 : (gone.map (at0 c.map.nodes)).length ≤ 1000000 := by rw [List.length_map]; exact hgl
    have hel2 : (edges.map (at0 c.map.edges)).length ≤ 1000000 := by rw [List.length_map]; exact hel
    generalize gone.map (at0 c.map.nodes) = gone2 at hg2 hgl2 e
    generalize edges.map (at0 c.map.edges) = edges2 at he2 hel2 e
    refine ⟨_, _, c131 c.pat.graph edges2 gone2, ?_⟩
    refine V0 ?_
    refine ⟨fun h => ?_, fun h => ?_⟩
    · refine V0 ?_
      refine ⟨_, _, c130, ?_⟩
      refine V0 ?_
      refine fin_frz TT ?_ rfl
      rw [e, if_pos h]; rfl
    rw [if_neg (by simp [h])] at e
    have ihx := fun x hm => ih x hm c.pat.graph gone2 edges2 (by rw [hy, List.mem_singleton] at hm; rw [hm]; exact hoy) hg2 he2 hgl2 hel2
    refine V0 ?_
    refine loop (fun n : Nat => mkSt [(8, .int .i64 n), (3, .bptr 0 0), (6, .bptr 1 0), (7, .bptr 9 0), (1, .slice 1 (nums (gone2))), (2, .slice 1 (nums (edges2)))] [.box 39 c.cs, .box 39 [.int .i64 0, .ref 2, .ref 3, .ref 4, .ref 5, .ref 6, .ref 7, .int .i64 0, .ref 8], .row 39 9 [], .row 3 1 [], .row 3 1 [], .row 3 1 [], .row 133 3 [], .row 117 4 [], .row 119 5 [], .box 39 [.int .i64 c.kind, .ref 10, .slice 1 (nums c.map.nodes), .slice 1 (nums c.map.edges), .slice 1 (nums c.pat.graph.nodes), .slice 3 (edgs c.pat.graph.edges), .slice 4 (slts c.pat.slots), .int .i64 c.pat.vars, .slice 5 (tsts c.pat.tests)], .row 39 9 (cnds ((c.kids.take n).map (cutR (gone2) (edges2))))])
        (fun n => n ≤ c.kids.length) (fun n => c.kids.length - n) 0 (Nat.zero_le _)
      (le_of [0, 1, 2, 3, 4, 5, 6, 7, 8, 12, 20] rfl rfl rfl ⟨rfl, rfl, rfl, rfl, rfl, rfl, trivial⟩ ⟨rfl, rfl, rfl, rfl, rfl, rfl, rfl, rfl, rfl, rfl, rfl, trivial⟩) ?_
    intro n hn
    refine V0 ?_
    rw [cnds_len]
    refine ⟨fun hlt => ?_, fun hge => ?_⟩
    · have hlt := of_lt hlt
      have hx : c.kids[n]? = some c.kids[n] := List.getElem?_eq_getElem hlt
      generalize c.kids[n] = x at hx
      have hm := List.mem_of_getElem? hx
      refine V0 ?_
      refine ⟨by omega, _, cnds_at hx, ?_⟩
      refine V0 ?_
      refine ⟨_, _, ihx x hm, ?_⟩
      refine V0 ?_
      refine ⟨by rw [cnds_len, List.length_map, List.length_take]; show (_ + 1) * 184 ≤ _; omega, ?_⟩
      refine V0 ?_
    
      exact ⟨n + 1, hlt, by show c.kids.length - (n + 1) < c.kids.length - n; omega, le_of [0, 1, 2, 3, 4, 5, 6, 7, 8, 9, 13] rfl rfl rfl ⟨step_num hlt (by omega), rfl, rfl, rfl, rfl, rfl, trivial⟩ ⟨rfl, rfl, rfl, rfl, rfl, rfl, rfl, rfl, rfl, rfl, by rw [take_map _ hx, cnds_app]; rfl, trivial⟩⟩
    · have hge := of_ge hge
      rw [take_of_all hge]
      refine V0 ?_
      refine fin_frz TT ?_ rfl
      rw [e]; rfl
  · have h5 : (c.kind == 5) = false := by simpa using h5
    have hok := ovr_else ho h5
    rw [if_neg (by simp [h5])] at e
    have ihx := fun x hm => ih x hm a gone edges (hok x hm) hg he hgl hel
    refine go Tryz.func72 (by rfl) rfl rfl rfl fun hl => ?_
    refine W0 ?_
    refine ⟨fun h => absurd (h5.symm.trans h) (by simp), fun _ => ?_⟩
    refine V0 ?_
    refine loop (fun n : Nat => mkSt [(8, .int .i64 n), (3, .bptr 0 0), (6, .bptr 1 0), (7, .bptr 9 0), (1, .slice 1 (nums (gone))), (2, .slice 1 (nums (edges)))] [.box 39 c.cs, .box 39 [.int .i64 0, .ref 2, .ref 3, .ref 4, .ref 5, .ref 6, .ref 7, .int .i64 0, .ref 8], .row 39 9 [], .row 3 1 [], .row 3 1 [], .row 3 1 [], .row 133 3 [], .row 117 4 [], .row 119 5 [], .box 39 [.int .i64 c.kind, .ref 10, .slice 1 (nums c.map.nodes), .slice 1 (nums c.map.edges), .slice 1 (nums c.pat.graph.nodes), .slice 3 (edgs c.pat.graph.edges), .slice 4 (slts c.pat.slots), .int .i64 c.pat.vars, .slice 5 (tsts c.pat.tests)], .row 39 9 (cnds ((c.kids.take n).map (cutR (gone) (edges))))])
        (fun n => n ≤ c.kids.length) (fun n => c.kids.length - n) 0 (Nat.zero_le _)
      (le_of [0, 1, 2, 3, 4, 5, 6, 7, 8, 9, 17] rfl rfl rfl ⟨rfl, rfl, rfl, rfl, rfl, rfl, trivial⟩ ⟨rfl, rfl, rfl, rfl, rfl, rfl, rfl, rfl, rfl, rfl, rfl, trivial⟩) ?_
    intro n hn
    refine V0 ?_
    rw [cnds_len]
    refine ⟨fun hlt => ?_, fun hge => ?_⟩
    · have hlt := of_lt hlt
      have hx : c.kids[n]? = some c.kids[n] := List.getElem?_eq_getElem hlt
      generalize c.kids[n] = x at hx
      have hm := List.mem_of_getElem? hx
      refine V0 ?_
      refine ⟨by omega, _, cnds_at hx, ?_⟩
      refine V0 ?_
      refine ⟨_, _, ihx x hm, ?_⟩
      refine V0 ?_
      refine ⟨by rw [cnds_len, List.length_map, List.length_take]; show (_ + 1) * 184 ≤ _; omega, ?_⟩
      refine V0 ?_
    
      exact ⟨n + 1, hlt, by show c.kids.length - (n + 1) < c.kids.length - n; omega, le_of [0, 1, 2, 3, 4, 5, 6, 7, 8, 9, 13] rfl rfl rfl ⟨step_num hlt (by omega), rfl, rfl, rfl, rfl, rfl, trivial⟩ ⟨rfl, rfl, rfl, rfl, rfl, rfl, rfl, rfl, rfl, rfl, by rw [take_map _ hx, cnds_app]; rfl, trivial⟩⟩
    · have hge := of_ge hge
      rw [take_of_all hge]
      refine V0 ?_
      refine fin_frz TT ?_ rfl
      rw [e]; rfl
theorem c72 (c : Cond) (hk : kb c) (a : Graph) (gone edges : List Int) (ho : ovr a c = 0) (hg : ∀ i ∈ gone, 0 ≤ i ∧ i < a.nodes.length) (he : ∀ i ∈ edges, 0 ≤ i ∧ i < a.edges.length) (hgl : gone.length ≤ 1000000) (hel : edges.length ≤ 1000000) :
    Con P 72 [] [c.av, .slice 1 (nums gone), .slice 1 (nums edges)] (cutR gone edges c).av [] :=
  mx72 c a ho hk gone edges hg he hgl hel fun x hx a gone edges h1 h2 h3 h4 h5 => c72 x (((kb_iff c).1 hk).2 x hx) a gone edges h1 h2 h3 h4 h5
  termination_by SizeOf.sizeOf c
  decreasing_by exact kid_lt hx
end Go.Av.Z

/- Pruning: both ways lead to the same. -/
set_option maxHeartbeats 4000000
namespace Go.Av.Z
open Go.Proofs

/-- What ends the going through kids; what is left out. -/
def rt (k : Int) (y : Cond) : Option Cond :=
  if (k == 3) = true then (if isFlB y = true then some cno else none) else if (k == 4) = true then (if (y.kind == 1) = true then some y else none)
  else if (k == 2) = true then (if isFlB y = true then some cyes else none) else if (k == 5) = true then (if isFlB y = true then some y else none) else none
def sk (k : Int) (y : Cond) : Bool := if (k == 3) = true then y.kind == 1 else if (k == 4) = true then isFlB y else false
def finL (c : Cond) : List Cond → Cond
  | [] => if (c.kind == 3) = true then cyes else cno
  | [k] => k
  | a :: b :: r => wth c (a :: b :: r)
def fin (c : Cond) (ks : List Cond) : Cond := if ((c.kind != 3) && (c.kind != 4)) = true then wth c ks else finL c ks
def woK (c : Cond) (ks : List Cond) : Cond := match ks.findSome? (rt c.kind) with
  | some r => r
  | none => fin c (ks.filter fun y => !sk c.kind y)
mutual
def wo : Cond → Cond
  | .mk kind kids map pat => woK (.mk kind kids map pat) (wos kids)
def wos : List Cond → List Cond
  | [] => []
  | c :: r => wo c :: wos r
end
theorem wos_map : ∀ l : List Cond, wos l = l.map wo
  | [] => by rw [wos]; rfl
  | c :: r => by rw [wos, wos_map r]; rfl
theorem wo_eq (c : Cond) : wo c = woK c (c.kids.map wo) := by cases c; rw [wo, wos_map]; rfl

/-- Constants are told as ever. -/
def nr (c : Cond) : Prop := (c.kind = 1 → c = cyes) ∧ (c.kind = 2 → ∃ k, c = nil4 2 [k] ∧ (k.kind = 1 → k = cyes))
theorem nr_cyes : nr cyes := ⟨fun _ => rfl, fun h => by cases h⟩
theorem nr_cno : nr cno := ⟨fun h => (by cases h), fun _ => ⟨cyes, rfl, fun _ => rfl⟩⟩
theorem nr_fl {y : Cond} (h : nr y) : isNoB y = isFlB y := by
  unfold isNoB isFlB
  by_cases h2 : y.kind = 2
  · obtain ⟨k, hk, _⟩ := h.2 h2
    subst hk; simp [nil4, Cond.kids, Cond.kind]
  · have : (y.kind == 2) = false := by simpa using h2
    rw [this]; rfl
theorem fl_cno {y : Cond} (h : nr y) (hf : isFlB y = true) : y = cno := by
  unfold isFlB at hf
  rw [Bool.and_eq_true, Bool.and_eq_true] at hf
  obtain ⟨k, hk, hk1⟩ := h.2 (by simpa using hf.1)
  subst hk
  have h3 : (k.kind == 1) = true := hf.2.2
  rw [hk1 (by simpa using h3)]; rfl
theorem unused_eq {c : Cond} (h : unusedB c = true) (ks : List Cond) : wth c ks = nil4 c.kind ks := by
  unfold unusedB plainB at h
  obtain ⟨kind, kids, map, pat⟩ := c
  obtain ⟨g, s, v, t⟩ := pat
  obtain ⟨n, e⟩ := map
  obtain ⟨gn, ge⟩ := g
  simp only [Bool.and_eq_true, beq_iff_eq, Cond.map, Cond.pat, Int.natCast_eq_zero, List.length_eq_zero_iff] at h
  obtain ⟨h1, h2, h3, h4, h5, h6, h7⟩ := h
  subst h1 h2 h3 h4 h5 h6 h7
  rfl
theorem shp_kinds {c : Cond} (h : shp c = 0) : (c.kind = 1 ∧ c.kids = [] ∧ unusedB c = true) ∨ (c.kind = 2 ∧ (∃ x, c.kids = [x]) ∧ unusedB c = true) ∨ ((c.kind = 3 ∨ c.kind = 4) ∧ unusedB c = true) ∨ (c.kind = 5 ∧ ∃ x, c.kids = [x]) := by
  have h0 := h
  unfold shp at h
  split at h
  · cases h
  · rename_i h1
    have h1 : shpOk c = true := by simpa using h1
    unfold shpOk at h1
    split at h1
    · rename_i g
      rw [Bool.and_eq_true] at h1
      have := eq_of_beq h1.1
      exact .inl ⟨by simpa using g, List.eq_nil_of_length_eq_zero (by omega), h1.2⟩
    · split at h1
      · rename_i g
        rw [Bool.and_eq_true] at h1
        exact .inr (.inl ⟨by simpa using g, shp_two h0 (by simpa using g), h1.2⟩)
      · split at h1
        · rename_i g
          rw [Bool.and_eq_true] at h1
          exact .inr (.inr (.inl ⟨by simpa using g, h1.2⟩))
        · split at h1
          · rename_i g
            exact .inr (.inr (.inr ⟨by simpa using g, shp_five h0 g⟩))
          · cases h1
theorem some_const {p : Cond → Bool} {v : Cond} : ∀ {ks : List Cond}, (∀ y ∈ ks, p y = true → y = v ∨ True) → (ks.findSome? fun y => if p y = true then some v else none) = if ks.any p = true then some v else none
  | [], _ => rfl
  | y :: r, h => by
    rw [List.findSome?_cons, List.any_cons]
    cases hp : p y
    · simp only [Bool.false_eq_true, if_false, Bool.false_or]
      exact some_const fun z hz => h z (List.mem_cons_of_mem _ hz)
    · simp
theorem some_self {p : Cond → Bool} {v : Cond} : ∀ {ks : List Cond}, (∀ y ∈ ks, p y = true → y = v) → (ks.findSome? fun y => if p y = true then some y else none) = if ks.any p = true then some v else none
  | [], _ => rfl
  | y :: r, h => by
    rw [List.findSome?_cons, List.any_cons]
    cases hp : p y
    · simp only [Bool.false_eq_true, if_false, Bool.false_or]
      exact some_self fun z hz => h z (List.mem_cons_of_mem _ hz)
    · simp [h y (List.mem_cons_self ..) hp]
theorem any_same {p q : Cond → Bool} {ks : List Cond} (h : ∀ y ∈ ks, p y = q y) : ks.any p = ks.any q := by
  induction ks with
  | nil => rfl
  | cons y r ih => rw [List.any_cons, List.any_cons, h y (List.mem_cons_self ..), ih fun z hz => h z (List.mem_cons_of_mem _ hz)]
theorem filter_same {p q : Cond → Bool} {ks : List Cond} (h : ∀ y ∈ ks, p y = q y) : ks.filter p = ks.filter q := List.filter_congr h
theorem red_wo {c : Cond} (hs : shp c = 0) {ks : List Cond} (hl : ks.length = c.kids.length) (hn : ∀ k ∈ ks, nr k) : red (wth c ks) = woK c ks ∧ nr (red (wth c ks)) := by
  rcases shp_kinds hs with ⟨hk, h0, hu⟩ | ⟨hk, ⟨x, hx⟩, hu⟩ | ⟨hk, hu⟩ | ⟨hk, x, hx⟩
  · have : ks = [] := List.eq_nil_of_length_eq_zero (by rw [hl, h0]; rfl)
    subst this
    have e1 : red (wth c []) = wth c [] := by rw [red, wth_kind, hk]; rfl
    have e2 : woK c [] = wth c [] := by unfold woK fin; rw [hk]; rfl
    rw [e1, e2, unused_eq hu, hk]
    exact ⟨rfl, nr_cyes⟩
  · obtain ⟨k, rfl⟩ := List.length_eq_one_iff.1 (by rw [hl, hx]; rfl : ks.length = 1)
    have hnk := hn k (by simp)
    have e1 : red (wth c [k]) = if isNoB k = true then cyes else wth c [k] := by rw [red, wth_kind, hk]; rfl
    have e2 : woK c [k] = if isFlB k = true then cyes else wth c [k] := by
      unfold woK
      rw [List.findSome?_cons, rt, hk]
      cases h : isFlB k
      · simp [fin, hk, sk]
      · simp
    rw [e1, e2, nr_fl hnk]
    refine ⟨rfl, ?_⟩
    split
    · exact nr_cyes
    · rw [unused_eq hu, hk]
      exact ⟨fun h => (by cases h), fun _ => ⟨k, rfl, hnk.1⟩⟩
  · have hfl := any_same (p := isNoB) (q := isFlB) fun y hy => nr_fl (hn y hy)
    rcases hk with hk | hk
    · have e1 : red (wth c ks) = lst (wth c ks) cyes cno (fun k => k.kind == 1) isNoB := by rw [red, wth_kind, hk]; rfl
      have e2 : ks.findSome? (rt c.kind) = if ks.any isFlB = true then some cno else none := by
        rw [hk]; exact some_const (p := isFlB) fun _ _ _ => .inr trivial
      have e3 : (ks.filter fun y => !sk c.kind y) = ks.filter fun k => !(k.kind == 1) := by rw [hk]; rfl
      rw [e1, woK, e2, e3, lst, wth_kids, hfl]
      split
      · exact ⟨rfl, nr_cno⟩
      · have hs2 : ∀ k ∈ ks.filter (fun k => !(k.kind == 1)), nr k := fun k hm => hn k (List.mem_filter.1 hm).1
        generalize ks.filter (fun k => !(k.kind == 1)) = qs at hs2
        match qs, hs2 with
        | [], _ => exact ⟨by simp [lstE, fin, finL, hk], nr_cyes⟩
        | [k], hs2 => exact ⟨by simp [lstE, fin, finL, hk], hs2 k (by simp)⟩
        | a :: b :: r, _ => exact ⟨by simp [lstE, fin, finL, hk, unused_eq hu]; rfl, fun h => absurd (hk.symm.trans h) (by decide), fun h => absurd (hk.symm.trans h) (by decide)⟩
    · have e1 : red (wth c ks) = lst (wth c ks) cno cyes isNoB (fun k => k.kind == 1) := by rw [red, wth_kind, hk]; rfl
      have e2 : ks.findSome? (rt c.kind) = if ks.any (fun k => k.kind == 1) = true then some cyes else none := by
        rw [hk]; exact some_self (p := fun k => k.kind == 1) fun y hy h => (hn y hy).1 (by simpa using h)
      have e3 : (ks.filter fun y => !sk c.kind y) = ks.filter fun k => !isNoB k := by
        rw [hk]; exact filter_same fun y hy => by rw [nr_fl (hn y hy)]; rfl
      rw [e1, woK, e2, e3, lst, wth_kids]
      split
      · exact ⟨rfl, nr_cyes⟩
      · have hs2 : ∀ k ∈ ks.filter (fun k => !isNoB k), nr k := fun k hm => hn k (List.mem_filter.1 hm).1
        generalize ks.filter (fun k => !isNoB k) = qs at hs2
        match qs, hs2 with
        | [], _ => exact ⟨by simp [lstE, fin, finL, hk], nr_cno⟩
        | [k], hs2 => exact ⟨by simp [lstE, fin, finL, hk], hs2 k (by simp)⟩
        | a :: b :: r, _ => exact ⟨by simp [lstE, fin, finL, hk, unused_eq hu]; rfl, fun h => absurd (hk.symm.trans h) (by decide), fun h => absurd (hk.symm.trans h) (by decide)⟩
  · obtain ⟨k, rfl⟩ := List.length_eq_one_iff.1 (by rw [hl, hx]; rfl : ks.length = 1)
    have hnk := hn k (by simp)
    have e1 : red (wth c [k]) = if isNoB k = true then cno else wth c [k] := by rw [red, wth_kind, hk]; rfl
    have e2 : woK c [k] = if isFlB k = true then k else wth c [k] := by
      unfold woK
      rw [List.findSome?_cons, rt, hk]
      cases h : isFlB k
      · simp [fin, hk, sk]
      · simp
    rw [e1, e2, nr_fl hnk]
    by_cases h : isFlB k = true
    · rw [if_pos h, if_pos h, fl_cno hnk h]; exact ⟨rfl, nr_cno⟩
    · rw [if_neg h, if_neg h]
      exact ⟨rfl, fun h => absurd (hk.symm.trans h) (by decide), fun h => absurd (hk.symm.trans h) (by decide)⟩
theorem wo_cyes : wo cyes = cyes := by rw [wo_eq]; rfl
theorem wo_cno : wo cno = cno := by
  rw [wo_eq]
  show woK cno [wo cyes] = cno
  rw [wo_cyes]; rfl
theorem wo_cut (c : Cond) (a : Graph) (h : ovr a c = 0) (gone edges : List Int) : wo (cutR gone edges c) = prn gone edges c ∧ nr (prn gone edges c) := by
  have hs := ovr_shp h
  have key : ∀ (g e : List Int), (∀ x ∈ c.kids, wo (cutR g e x) = prn g e x ∧ nr (prn g e x)) → wo (wth c (c.kids.map (cutR g e))) = red (wth c (c.kids.map (prn g e))) ∧ nr (red (wth c (c.kids.map (prn g e)))) := by
    intro g e hx
    have e1 : (c.kids.map (cutR g e)).map wo = c.kids.map (prn g e) := by
      rw [List.map_map]
      exact List.map_congr_left fun x hm => (hx x hm).1
    have := red_wo hs (ks := c.kids.map (prn g e)) (by rw [List.length_map]) (fun k hk => by
      rw [List.mem_map] at hk
      obtain ⟨x, hm, rfl⟩ := hk
      exact (hx x hm).2)
    refine ⟨?_, this.2⟩
    rw [this.1, wo_eq, wth_kids, e1]
    rfl
  rw [cutR_eq, prn_eq]
  by_cases h5 : (c.kind == 5) = true
  · obtain ⟨⟨y, hy, hoy⟩, _⟩ := ovr_five h h5
    rw [if_pos h5, if_pos h5]
    split
    · exact ⟨wo_cno, nr_cno⟩
    · refine key _ _ fun x hx => ?_
      have hxy : x = y := by rw [hy, List.mem_singleton] at hx; exact hx
      exact wo_cut x c.pat.graph (by rw [hxy]; exact hoy) _ _
  · have h5 : (c.kind == 5) = false := by simpa using h5
    rw [if_neg (by simp [h5]), if_neg (by simp [h5])]
    exact key _ _ fun x hx => wo_cut x a (ovr_else h h5 x hx) _ _
  termination_by SizeOf.sizeOf c
  decreasing_by all_goals (exact kid_lt (by assumption))
end Go.Av.Z

/- Pruning: the reference takes constants out. -/
set_option maxHeartbeats 4000000
namespace Go.Av.Z
open Go.Proofs

theorem findSome_at {α β : Type} {f : α → Option β} : ∀ {l : List α} {i : Nat} {x : α} {r : β}, (∀ j y, j < i → l[j]? = some y → f y = none) → l[i]? = some x → f x = some r → l.findSome? f = some r
  | [], i, x, r, _, h, _ => by simp at h
  | y :: q, 0, x, r, h, hx, hp => by simp at hx; subst hx; simp [hp]
  | y :: q, i + 1, x, r, h, hx, hp => by
    rw [List.findSome?_cons, h 0 y (by omega) rfl]
    exact findSome_at (l := q) (i := i) (fun j z hj hz => h (j + 1) z (by omega) (by simpa using hz)) (by simpa using hx) hp
theorem findSome_no {α β : Type} {f : α → Option β} {l : List α} {i : Nat} (h : ∀ j y, j < i → l[j]? = some y → f y = none) (hi : l.length ≤ i) : l.findSome? f = none := by
  rw [List.findSome?_eq_none_iff]
  intro x hx
  obtain ⟨j, hj⟩ := List.mem_iff_getElem?.1 hx
  exact h j x (by have := (List.getElem?_eq_some_iff.1 hj).1; omega) hj
theorem none_next {α β : Type} {f : α → Option β} {l : List α} {i : Nat} {x : α} (h : ∀ j y, j < i → l[j]? = some y → f y = none) (hx : l[i]? = some x) (hf : f x = none) : ∀ j y, j < i + 1 → l[j]? = some y → f y = none := by
  intro j y hj hy
  rcases Nat.lt_or_ge j i with h' | h'
  · exact h j y h' hy
  · have : j = i := by omega
    subst this; rw [hx] at hy; cases hy; exact hf
theorem mx71 (c : Cond) (hk : c.kids.length ≤ 1048576) (ih : ∀ x ∈ c.kids, Con P 71 [] [x.av] (wo x).av []) : Con P 71 [] [c.av] (wo c).av [] := by
  have e := wo_eq c
  have hkl : (c.kids.map wo).length = c.kids.length := List.length_map ..
  have hat : ∀ (j : Nat) (x : Cond), c.kids[j]? = some x → (c.kids.map wo)[j]? = some (wo x) := fun j x h => by rw [List.getElem?_map, h]; rfl
  generalize c.kids.map wo = ks at e hkl hat
  generalize wo c = W at e
  refine go Tryz.func71 (by rfl) rfl rfl rfl fun hl => ?_
  refine W0 ?_
  refine V0 ?_
  refine loop (fun n : Nat => mkSt [(4, .int .i64 n), (1, .bptr 0 0), (2, .bptr 1 0), (3, .bptr 9 0)] [.box 39 c.cs, .box 39 [.int .i64 0, .ref 2, .ref 3, .ref 4, .ref 5, .ref 6, .ref 7, .int .i64 0, .ref 8], .row 39 9 [], .row 3 1 [], .row 3 1 [], .row 3 1 [], .row 133 3 [], .row 117 4 [], .row 119 5 [], .box 39 [.int .i64 c.kind, .ref 10, .slice 1 (nums c.map.nodes), .slice 1 (nums c.map.edges), .slice 1 (nums c.pat.graph.nodes), .slice 3 (edgs c.pat.graph.edges), .slice 4 (slts c.pat.slots), .int .i64 c.pat.vars, .slice 5 (tsts c.pat.tests)], .row 39 9 (cnds ((ks.take n).filter fun y => !sk c.kind y))])
      (fun n => n ≤ c.kids.length ∧ ∀ j y, j < n → ks[j]? = some y → rt c.kind y = none) (fun n => c.kids.length - n) 0 ⟨Nat.zero_le _, fun j y h => by omega⟩
    (le_of [0, 1, 2, 3, 4, 5, 6, 7, 8, 9, 17] rfl rfl rfl ⟨rfl, rfl, rfl, rfl, trivial⟩ ⟨rfl, rfl, rfl, rfl, rfl, rfl, rfl, rfl, rfl, rfl, rfl, trivial⟩) ?_
  rintro n ⟨hn, hno⟩
  refine V0 ?_
  rw [cnds_len]
  refine ⟨fun hlt => ?_, fun hge => ?_⟩
  · have hlt := of_lt hlt
    have hx : c.kids[n]? = some c.kids[n] := List.getElem?_eq_getElem hlt
    generalize c.kids[n] = x at hx
    have hy := hat n x hx
    have hc := ih x (List.mem_of_getElem? hx)
    have hfl := fun y => c129 y
    generalize wo x = y at hy hc
    have hfl := hfl y
    have ret : ∀ r, rt c.kind y = some r → W = r := fun r h => by rw [e, woK, findSome_at hno hy h]
    have hle := List.length_filter_le (fun y => !sk c.kind y) (ks.take n)
    have hle2 : (ks.take n).length ≤ c.kids.length := by rw [List.length_take]; omega
    have hrt : rt c.kind y = if (c.kind == 3) = true then (if isFlB y = true then some cno else none) else if (c.kind == 4) = true then (if (y.kind == 1) = true then some y else none)
      else if (c.kind == 2) = true then (if isFlB y = true then some cyes else none) else if (c.kind == 5) = true then (if isFlB y = true then some y else none) else none := rfl
    have hsk : sk c.kind y = if (c.kind == 3) = true then y.kind == 1 else if (c.kind == 4) = true then isFlB y else false := rfl
    refine V0 ?_
    refine ⟨by omega, _, cnds_at hx, ?_⟩
    refine V0 ?_
    refine ⟨_, _, hc, ?_⟩
    refine V0 ?_
    refine ⟨fun g3 => ?_, fun g3 => ?_⟩
    · rw [if_pos g3] at hrt hsk
      refine V0 ?_
      refine ⟨_, _, hfl, ?_⟩
      refine V0 ?_
      refine ⟨fun h => ?_, fun h => ?_⟩
      · rw [if_pos h] at hrt
        refine V0 ?_
        refine ⟨_, _, c130, ?_⟩
        refine V0 ?_
        refine fin_frz TT ?_ rfl
        rw [ret _ (hrt)]; rfl
      · rw [if_neg (by simp [h])] at hrt
        refine V0 ?_
        refine ⟨fun h2 => ?_, fun h2 => ?_⟩
        · have h2 : (y.kind == 1) = true := h2
          refine V0 ?_
          exact ⟨n + 1, ⟨by omega, none_next hno hy (hrt)⟩, by show c.kids.length - (n + 1) < c.kids.length - n; omega, le_of [0, 1, 2, 3, 4, 5, 6, 7, 8, 9, 10] rfl rfl rfl ⟨step_num hlt (by omega), rfl, rfl, rfl, trivial⟩ ⟨rfl, rfl, rfl, rfl, rfl, rfl, rfl, rfl, rfl, rfl, by rw [filter_tk _ hy, if_neg (by rw [hsk, h2]; simp), List.append_nil]; rfl, trivial⟩⟩
        · have h2 : (y.kind == 1) = false := h2
          refine V0 ?_
          refine ⟨by rw [cnds_len]; show (_ + 1) * 184 ≤ _; omega, ?_⟩
          refine V0 ?_
          exact ⟨n + 1, ⟨by omega, none_next hno hy (hrt)⟩, by show c.kids.length - (n + 1) < c.kids.length - n; omega, le_of [0, 1, 2, 3, 4, 5, 6, 7, 8, 9, 22] rfl rfl rfl ⟨step_num hlt (by omega), rfl, rfl, rfl, trivial⟩ ⟨rfl, rfl, rfl, rfl, rfl, rfl, rfl, rfl, rfl, rfl, by rw [filter_tk _ hy, if_pos (by rw [hsk, h2]; rfl), cnds_app]; rfl, trivial⟩⟩
    have g3 : (c.kind == 3) = false := g3
    rw [if_neg (by simp [g3])] at hrt hsk
    refine V0 ?_
    refine ⟨fun g4 => ?_, fun g4 => ?_⟩
    · rw [if_pos g4] at hrt hsk
      refine V0 ?_
      refine ⟨fun h2 => ?_, fun h2 => ?_⟩
      · have h2 : (y.kind == 1) = true := h2
        rw [if_pos h2] at hrt
        refine V0 ?_
        refine fin_frz TT ?_ rfl
        rw [ret _ (hrt)]; rfl
      · have h2 : (y.kind == 1) = false := h2
        rw [if_neg (by simp [h2])] at hrt
        refine V0 ?_
        refine ⟨_, _, hfl, ?_⟩
        refine V0 ?_
        refine ⟨fun h => ?_, fun h => ?_⟩
        · refine V0 ?_
          exact ⟨n + 1, ⟨by omega, none_next hno hy (hrt)⟩, by show c.kids.length - (n + 1) < c.kids.length - n; omega, le_of [0, 1, 2, 3, 4, 5, 6, 7, 8, 9, 10] rfl rfl rfl ⟨step_num hlt (by omega), rfl, rfl, rfl, trivial⟩ ⟨rfl, rfl, rfl, rfl, rfl, rfl, rfl, rfl, rfl, rfl, by rw [filter_tk _ hy, if_neg (by rw [hsk, h]; simp), List.append_nil]; rfl, trivial⟩⟩
        · refine V0 ?_
          refine ⟨by rw [cnds_len]; show (_ + 1) * 184 ≤ _; omega, ?_⟩
          refine V0 ?_
          exact ⟨n + 1, ⟨by omega, none_next hno hy (hrt)⟩, by show c.kids.length - (n + 1) < c.kids.length - n; omega, le_of [0, 1, 2, 3, 4, 5, 6, 7, 8, 9, 22] rfl rfl rfl ⟨step_num hlt (by omega), rfl, rfl, rfl, trivial⟩ ⟨rfl, rfl, rfl, rfl, rfl, rfl, rfl, rfl, rfl, rfl, by rw [filter_tk _ hy, if_pos (by rw [hsk, h]; rfl), cnds_app]; rfl, trivial⟩⟩
    have g4 : (c.kind == 4) = false := g4
    rw [if_neg (by simp [g4])] at hrt hsk
    refine V0 ?_
    refine ⟨fun g2 => ?_, fun g2 => ?_⟩
    · rw [if_pos g2] at hrt
      refine V0 ?_
      refine ⟨_, _, hfl, ?_⟩
      refine V0 ?_
      refine ⟨fun h => ?_, fun h => ?_⟩
      · rw [if_pos h] at hrt
        refine V0 ?_
        refine ⟨_, _, c55, ?_⟩
        refine V0 ?_
        refine fin_frz TT ?_ rfl
        rw [ret _ (hrt)]; rfl
      · rw [if_neg (by simp [h])] at hrt
        refine V0 ?_
        refine ⟨by rw [cnds_len]; show (_ + 1) * 184 ≤ _; omega, ?_⟩
        refine V0 ?_
        exact ⟨n + 1, ⟨by omega, none_next hno hy (hrt)⟩, by show c.kids.length - (n + 1) < c.kids.length - n; omega, le_of [0, 1, 2, 3, 4, 5, 6, 7, 8, 9, 22] rfl rfl rfl ⟨step_num hlt (by omega), rfl, rfl, rfl, trivial⟩ ⟨rfl, rfl, rfl, rfl, rfl, rfl, rfl, rfl, rfl, rfl, by rw [filter_tk _ hy, if_pos (by rw [hsk]; rfl), cnds_app]; rfl, trivial⟩⟩
    have g2 : (c.kind == 2) = false := g2
    rw [if_neg (by simp [g2])] at hrt
    refine V0 ?_
    refine ⟨fun g5 => ?_, fun g5 => ?_⟩
    · rw [if_pos g5] at hrt
      refine V0 ?_
      refine ⟨_, _, hfl, ?_⟩
      refine V0 ?_
      refine ⟨fun h => ?_, fun h => ?_⟩
      · rw [if_pos h] at hrt
        refine V0 ?_
        refine fin_frz TT ?_ rfl
        rw [ret _ (hrt)]; rfl
      · rw [if_neg (by simp [h])] at hrt
        refine V0 ?_
        refine ⟨by rw [cnds_len]; show (_ + 1) * 184 ≤ _; omega, ?_⟩
        refine V0 ?_
        exact ⟨n + 1, ⟨by omega, none_next hno hy (hrt)⟩, by show c.kids.length - (n + 1) < c.kids.length - n; omega, le_of [0, 1, 2, 3, 4, 5, 6, 7, 8, 9, 22] rfl rfl rfl ⟨step_num hlt (by omega), rfl, rfl, rfl, trivial⟩ ⟨rfl, rfl, rfl, rfl, rfl, rfl, rfl, rfl, rfl, rfl, by rw [filter_tk _ hy, if_pos (by rw [hsk]; rfl), cnds_app]; rfl, trivial⟩⟩
    · rw [if_neg (by simp [show (c.kind == 5) = false from g5])] at hrt
      refine V0 ?_
      refine ⟨by rw [cnds_len]; show (_ + 1) * 184 ≤ _; omega, ?_⟩
      refine V0 ?_
      exact ⟨n + 1, ⟨by omega, none_next hno hy (hrt)⟩, by show c.kids.length - (n + 1) < c.kids.length - n; omega, le_of [0, 1, 2, 3, 4, 5, 6, 7, 8, 9, 21] rfl rfl rfl ⟨step_num hlt (by omega), rfl, rfl, rfl, trivial⟩ ⟨rfl, rfl, rfl, rfl, rfl, rfl, rfl, rfl, rfl, rfl, by rw [filter_tk _ hy, if_pos (by rw [hsk]; rfl), cnds_app]; rfl, trivial⟩⟩
  have hge := of_ge hge
  have hks := findSome_no hno (by omega)
  rw [List.take_of_length_le (by omega)]
  rw [woK, hks] at e
  generalize (ks.filter fun y => !sk c.kind y) = qs at e
  have e : W = if ((c.kind != 3) && (c.kind != 4)) = true then wth c qs else finL c qs := e
  have big : qs.length ≠ 1 → qs.length ≠ 0 → finL c qs = wth c qs := by
    intro h1 h0
    match qs, h1, h0 with
    | [], _, h0 => exact absurd rfl h0
    | [k], h1, _ => exact absurd rfl h1
    | a :: b :: r, _, _ => rfl
  have hand : (c.kind == 3) = true ∨ (c.kind == 4) = true → ((c.kind != 3) && (c.kind != 4)) = false := by
    intro h
    rcases h with h | h
    · have := eq_of_beq h; rw [this]; rfl
    · have := eq_of_beq h; rw [this]; rfl
  refine V0 ?_
  refine ⟨fun g3 => ?_, fun g3 => ?_⟩
  · have g3 : (c.kind != 3) = true := g3
    refine V0 ?_
    refine ⟨fun g4 => ?_, fun g4 => ?_⟩
    · have g4 : (c.kind != 4) = true := g4
      refine V0 ?_
      refine fin_frz TT ?_ rfl
      rw [e, if_pos (by rw [g3, g4]; rfl)]; rfl
    · have g4 : (c.kind == 4) = true := by have g4 : (c.kind != 4) = false := g4; simpa using g4
      rw [if_neg (by rw [hand (.inr g4)]; simp)] at e
      have g3 : (c.kind == 3) = false := by simpa using g3
      refine V0 ?_
      rw [cnds_len]
      refine ⟨fun h1 => ?_, fun h1 => ?_⟩
      · have h1 : qs.length = 1 := by have h1 : ((qs.length : Int) == 1) = true := h1; have := eq_of_beq h1; omega
        obtain ⟨k, rfl⟩ := List.length_eq_one_iff.1 h1
        refine V0 ?_
        refine ⟨⟨by decide, by rw [cnds_len]; exact Int.one_pos⟩, ?_⟩
        refine V0 ?_
        refine ⟨rfl, _, cnds_at (i := 0) (x := k) rfl, ?_⟩
        refine V0 ?_
        refine fin_frz TT ?_ rfl
        rw [e]; rfl
      have h1 : qs.length ≠ 1 := by intro h; have h1 : ((qs.length : Int) == 1) = false := h1; rw [h] at h1; cases h1
      refine V0 ?_
      rw [cnds_len]
      refine ⟨fun h0 => ?_, fun h0 => ?_⟩
      · have h0' : qs.length = 0 := by have h0 : ((qs.length : Int) == 0) = true := h0; have := eq_of_beq h0; omega
        have : qs = [] := List.eq_nil_of_length_eq_zero h0'
        subst this
        refine V0 ?_
        refine ⟨fun k3 => ?_, fun k3 => ?_⟩
        · have k3 : (c.kind == 3) = true := k3
          refine V0 ?_
          refine ⟨_, _, c55, ?_⟩
          refine V0 ?_
          refine fin_frz TT ?_ rfl
          rw [e, finL, k3]; rfl
        · have k3 : (c.kind == 3) = false := k3
          refine V0 ?_
          refine ⟨_, _, c130, ?_⟩
          refine V0 ?_
          refine fin_frz TT ?_ rfl
          rw [e, finL, k3]; rfl
      · have h0' : qs.length ≠ 0 := by intro h; have h0 : ((qs.length : Int) == 0) = false := h0; rw [h] at h0; cases h0
        refine V0 ?_
        rw [cnds_len]
        refine ⟨fun h => absurd (h.symm.trans h0) (by simp), fun _ => ?_⟩
        refine V0 ?_
        refine fin_frz TT ?_ rfl
        rw [e, big h1 h0']; rfl
  · have g3 : (c.kind == 3) = true := by have g3 : (c.kind != 3) = false := g3; simpa using g3
    rw [if_neg (by rw [hand (.inl g3)]; simp)] at e
    refine V0 ?_
    rw [cnds_len]
    refine ⟨fun h1 => ?_, fun h1 => ?_⟩
    · have h1 : qs.length = 1 := by have h1 : ((qs.length : Int) == 1) = true := h1; have := eq_of_beq h1; omega
      obtain ⟨k, rfl⟩ := List.length_eq_one_iff.1 h1
      refine V0 ?_
      refine ⟨⟨by decide, by rw [cnds_len]; exact Int.one_pos⟩, ?_⟩
      refine V0 ?_
      refine ⟨rfl, _, cnds_at (i := 0) (x := k) rfl, ?_⟩
      refine V0 ?_
      refine fin_frz TT ?_ rfl
      rw [e]; rfl
    have h1 : qs.length ≠ 1 := by intro h; have h1 : ((qs.length : Int) == 1) = false := h1; rw [h] at h1; cases h1
    refine V0 ?_
    rw [cnds_len]
    refine ⟨fun h0 => ?_, fun h0 => ?_⟩
    · have h0' : qs.length = 0 := by have h0 : ((qs.length : Int) == 0) = true := h0; have := eq_of_beq h0; omega
      have : qs = [] := List.eq_nil_of_length_eq_zero h0'
      subst this
      refine V0 ?_
      refine ⟨fun k3 => ?_, fun k3 => ?_⟩
      · have k3 : (c.kind == 3) = true := k3
        refine V0 ?_
        refine ⟨_, _, c55, ?_⟩
        refine V0 ?_
        refine fin_frz TT ?_ rfl
        rw [e, finL, k3]; rfl
      · have k3 : (c.kind == 3) = false := k3
        refine V0 ?_
        refine ⟨_, _, c130, ?_⟩
        refine V0 ?_
        refine fin_frz TT ?_ rfl
        rw [e, finL, k3]; rfl
    · have h0' : qs.length ≠ 0 := by intro h; have h0 : ((qs.length : Int) == 0) = false := h0; rw [h] at h0; cases h0
      refine V0 ?_
      rw [cnds_len]
      refine ⟨fun h => absurd (h.symm.trans h0) (by simp), fun _ => ?_⟩
      refine V0 ?_
      refine fin_frz TT ?_ rfl
      rw [e, big h1 h0']; rfl
theorem c71 (c : Cond) (hk : kb c) : Con P 71 [] [c.av] (wo c).av [] :=
  mx71 c ((kb_iff c).1 hk).1 fun x hx => c71 x (((kb_iff c).1 hk).2 x hx)
  termination_by SizeOf.sizeOf c
  decreasing_by exact kid_lt hx
end Go.Av.Z

/- Prune, and the reference's. -/
set_option maxHeartbeats 4000000
namespace Go.Av.Z
open Go.Proofs

theorem plain_cpy {c : Cond} (h : shp c = 0) (ks : List Cond) : Cond.mk c.kind ks c.map ⟨c.pat.graph, [], 0, []⟩ = wth c ks := by
  have hp : plainB c.pat = true := by
    unfold shp at h
    split at h
    · cases h
    · split at h
      · cases h
      · rename_i h2; simpa using h2
  unfold plainB at hp
  obtain ⟨kind, kids, map, pat⟩ := c
  obtain ⟨g, s, v, t⟩ := pat
  simp only [Bool.and_eq_true, beq_iff_eq, Cond.pat, Int.natCast_eq_zero, List.length_eq_zero_iff] at hp
  obtain ⟨h1, h2, h3⟩ := hp
  subst h1 h2 h3
  rfl
theorem cpy_same (c : Cond) (a : Graph) (h : ovr a c = 0) : cpy c = c := by
  have key : (∀ x ∈ c.kids, cpy x = x) → cpy c = c := fun hk => by
    rw [cpy_eq, plain_cpy (ovr_shp h)]
    have : c.kids.map cpy = c.kids := by
      have : c.kids.map cpy = c.kids.map id := List.map_congr_left hk
      rw [this, List.map_id]
    rw [this]
    cases c; rfl
  by_cases h5 : (c.kind == 5) = true
  · obtain ⟨⟨y, hy, hoy⟩, _⟩ := ovr_five h h5
    refine key fun x hx => ?_
    have hxy : x = y := by rw [hy, List.mem_singleton] at hx; exact hx
    exact cpy_same x c.pat.graph (by rw [hxy]; exact hoy)
  · have h5 : (c.kind == 5) = false := by simpa using h5
    exact key fun x hx => cpy_same x a (ovr_else h h5 x hx)
  termination_by SizeOf.sizeOf c
  decreasing_by all_goals (exact kid_lt (by assumption))
def gonL (ρ : Rule) : List Int := restL ρ.left.graph.nodes.length ρ.keep.nodes
def pru (t : Types) (ρ : Rule) (c : Cond) : Cond × Int :=
  if tval t ≠ 0 then (.zero, tval t) else if strc ρ ≠ 0 then (.zero, strc ρ) else if cval ρ.left.graph c ≠ 0 then (.zero, cval ρ.left.graph c) else (prn (gonL ρ) (rng 0 ρ.left.graph.edges.length) c, 0)
theorem rng_suc0 (n : Nat) : rng 0 (n + 1) = rng 0 n ++ [(n : Int)] := by rw [rng_succ, Nat.zero_add]
theorem gon_in (ρ : Rule) : ∀ i ∈ gonL ρ, 0 ≤ i ∧ i < ρ.left.graph.nodes.length := by
  intro i hi
  unfold gonL restL at hi
  obtain ⟨j, hj, rfl⟩ := List.mem_map.1 hi
  have := List.mem_range.1 (List.mem_filter.1 hj).1
  omega
theorem c20 (t : Types) (ρ : Rule) (c : Cond) (ht : t.ok) (hf : ρ.fine) (hk : kb c) (hfa : cval ρ.left.graph c = 0 → fineA c) : Con P 20 [] [t.av, ρ.av, c.av] (.tuple [(pru t ρ c).1.av, .int .i64 (pru t ρ c).2]) [] := by
  have e : pru t ρ c = if tval t ≠ 0 then (.zero, tval t) else if strc ρ ≠ 0 then (.zero, strc ρ) else if cval ρ.left.graph c ≠ 0 then (.zero, cval ρ.left.graph c) else (prn (gonL ρ) (rng 0 ρ.left.graph.edges.length) c, 0) := rfl
  have hv := c68 t ht
  unfold tvV at hv
  generalize tval t = tv at hv e
  generalize tnam t = tn at hv
  refine go Tryz.func20 (by rfl) rfl rfl rfl fun hl => ?_
  refine W0 ?_
  refine ⟨_, _, hv, ?_⟩
  refine V0 ?_
  refine ⟨fun h => ?_, fun h => ?_⟩
  · rw [if_pos (bne_t h)] at e
    refine V0 ?_
    refine fin_frz TT ?_ rfl
    rw [e]; rfl
  rw [if_neg (by simp [bne_f h])] at e
  refine V0 ?_
  refine ⟨_, _, c62 ρ hf, ?_⟩
  refine V0 ?_
  refine ⟨fun h => ?_, fun h => ?_⟩
  · rw [if_pos (bne_t h)] at e
    refine V0 ?_
    refine fin_frz TT ?_ rfl
    rw [e]; rfl
  have hstr := bne_f h
  rw [if_neg (by simp [hstr])] at e
  refine V0 ?_
  refine ⟨_, _, c48 ρ.left.graph c, ?_⟩
  refine V0 ?_
  refine ⟨fun h => ?_, fun h => ?_⟩
  · rw [if_pos (bne_t h)] at e
    refine V0 ?_
    refine fin_frz TT ?_ rfl
    rw [e]; rfl
  have hcv := bne_f h
  obtain ⟨hgv, hov⟩ := cval_ok hcv
  have hgl := gval_len hgv
  rw [if_neg (by simp [hcv])] at e
  refine V0 ?_
  rw [nums_len]
  refine loop (fun n : Nat => mkSt [(45, .int .i64 n), (44, .int .i64 ρ.left.graph.nodes.length), (4, .bptr 0 0), (5, .bptr 1 0), (6, .bptr 2 0), (11, .bptr 10 0), (13, .ref 11), (14, .ref 12)] [.box 41 ρ.cs, .box 39 c.cs, .box 39 [.int .i64 0, .ref 3, .ref 4, .ref 5, .ref 6, .ref 7, .ref 8, .int .i64 0, .ref 9], .row 39 9 [], .row 3 1 [], .row 3 1 [], .row 3 1 [], .row 133 3 [], .row 117 4 [], .row 119 5 [], .box 29 ρ.left.graph.cs, .row 3 1 (nums (restL n ρ.keep.nodes)), .row 3 1 []])
      (fun n => n ≤ ρ.left.graph.nodes.length) (fun n => ρ.left.graph.nodes.length - n) 0 (Nat.zero_le _)
    (le_of [1, 2, 3, 4, 5, 6, 7, 8, 9, 10, 13, 17, 18] rfl rfl rfl ⟨rfl, rfl, rfl, rfl, rfl, rfl, rfl, rfl, trivial⟩ ⟨rfl, rfl, rfl, rfl, rfl, rfl, rfl, rfl, rfl, rfl, rfl, rfl, rfl, trivial⟩) ?_
  intro n hn
  refine V0 ?_
  refine ⟨fun hlt => ?_, fun hge => ?_⟩
  · have hlt := of_lt hlt
    have hlen := restL_len n ρ.keep.nodes
    refine V0 ?_
    refine ⟨_, _, c43 ρ.keep.nodes n, ?_⟩
    refine V0 ?_
    refine ⟨fun h1 => ?_, fun h1 => ?_⟩
    · refine V0 ?_
      refine ⟨by rw [nums_len]; show (_ + 1) * 8 ≤ _; omega, ?_⟩
      refine V0 ?_
      exact ⟨n + 1, hlt, by show ρ.left.graph.nodes.length - (n + 1) < ρ.left.graph.nodes.length - n; omega, le_of [0, 1, 2, 3, 4, 5, 6, 7, 8, 9, 10, 15, 12] rfl rfl rfl ⟨step_num hlt (by omega), rfl, rfl, rfl, rfl, rfl, rfl, rfl, trivial⟩ ⟨rfl, rfl, rfl, rfl, rfl, rfl, rfl, rfl, rfl, rfl, rfl, by rw [restL_yes h1, nums_app]; rfl, rfl, trivial⟩⟩
    · have h1 : (!ρ.keep.nodes.contains (n : Int)) = false := h1
      refine V0 ?_
      exact ⟨n + 1, hlt, by show ρ.left.graph.nodes.length - (n + 1) < ρ.left.graph.nodes.length - n; omega, le_of [0, 1, 2, 3, 4, 5, 6, 7, 8, 9, 10, 11, 12] rfl rfl rfl ⟨step_num hlt (by omega), rfl, rfl, rfl, rfl, rfl, rfl, rfl, trivial⟩ ⟨rfl, rfl, rfl, rfl, rfl, rfl, rfl, rfl, rfl, rfl, rfl, by rw [restL_no h1]; rfl, rfl, trivial⟩⟩
  have hge := of_ge hge
  have hn : n = ρ.left.graph.nodes.length := by omega
  subst hn
  refine V0 ?_
  rw [edgs_len]
  refine loop (fun n : Nat => mkSt [(62, .int .i64 n), (61, .int .i64 ρ.left.graph.edges.length), (4, .bptr 0 0), (5, .bptr 1 0), (6, .bptr 2 0), (11, .bptr 10 0), (13, .ref 11), (14, .ref 12)] [.box 41 ρ.cs, .box 39 c.cs, .box 39 [.int .i64 0, .ref 3, .ref 4, .ref 5, .ref 6, .ref 7, .ref 8, .int .i64 0, .ref 9], .row 39 9 [], .row 3 1 [], .row 3 1 [], .row 3 1 [], .row 133 3 [], .row 117 4 [], .row 119 5 [], .box 29 ρ.left.graph.cs, .row 3 1 (nums (gonL ρ)), .row 3 1 (nums (rng 0 n))])
      (fun n => n ≤ ρ.left.graph.edges.length) (fun n => ρ.left.graph.edges.length - n) 0 (Nat.zero_le _)
    (le_of [0, 1, 2, 3, 4, 5, 6, 7, 8, 9, 10, 11, 12] rfl rfl rfl ⟨rfl, rfl, rfl, rfl, rfl, rfl, rfl, rfl, trivial⟩ ⟨rfl, rfl, rfl, rfl, rfl, rfl, rfl, rfl, rfl, rfl, rfl, rfl, rfl, trivial⟩) ?_
  intro n hn
  refine V0 ?_
  refine ⟨fun hlt => ?_, fun hge => ?_⟩
  · have hlt := of_lt hlt
    refine V0 ?_
    refine ⟨by rw [nums_len, rng_len]; show (_ + 1) * 8 ≤ _; omega, ?_⟩
    refine V0 ?_
    exact ⟨n + 1, hlt, by show ρ.left.graph.edges.length - (n + 1) < ρ.left.graph.edges.length - n; omega, le_of [0, 1, 2, 3, 4, 5, 6, 7, 8, 9, 10, 11, 14] rfl rfl rfl ⟨step_num hlt (by omega), rfl, rfl, rfl, rfl, rfl, rfl, rfl, trivial⟩ ⟨rfl, rfl, rfl, rfl, rfl, rfl, rfl, rfl, rfl, rfl, rfl, rfl, by rw [rng_suc0, nums_app]; rfl, trivial⟩⟩
  have hge := of_ge hge
  have hn : n = ρ.left.graph.edges.length := by omega
  subst hn
  have hcp := c70 c (hfa hcv) hk
  rw [cpy_same c ρ.left.graph hov] at hcp
  have hct := c69 c hk ρ.left.graph (gonL ρ) (rng 0 ρ.left.graph.edges.length) hov (gon_in ρ) (fun i hi => by have := rng_mem hi; omega) (by have := restL_len ρ.left.graph.nodes.length ρ.keep.nodes; unfold gonL; omega) (by rw [rng_len]; omega)
  refine V0 ?_
  refine ⟨_, _, hcp, ?_⟩
  refine V0 ?_
  refine ⟨_, _, con_frz rfl rfl rfl hct, ?_⟩
  refine V0 ?_
  refine fin_frz TT ?_ rfl
  rw [e]; rfl
theorem kb_cyes : kb cyes := by rw [kb_iff]; exact ⟨by decide, fun x hx => by cases hx⟩
theorem kb_cno : kb cno := by
  rw [kb_iff]
  refine ⟨by decide, fun x hx => ?_⟩
  have : x = cyes := by simpa [cno, Cond.kids] using hx
  rw [this]; exact kb_cyes
theorem kb_cut (c : Cond) (h : kb c) (gone edges : List Int) : kb (cutR gone edges c) := by
  obtain ⟨h1, h2⟩ := (kb_iff c).1 h
  have key : ∀ g e : List Int, (∀ x ∈ c.kids, kb (cutR g e x)) → kb (wth c (c.kids.map (cutR g e))) := fun g e hx => by
    rw [kb_iff, wth_kids, List.length_map]
    refine ⟨h1, fun y hy => ?_⟩
    rw [List.mem_map] at hy
    obtain ⟨x, hm, rfl⟩ := hy
    exact hx x hm
  rw [cutR_eq]
  split
  · split
    · exact kb_cno
    · exact key _ _ fun x hx => kb_cut x (h2 x hx) _ _
  · exact key _ _ fun x hx => kb_cut x (h2 x hx) _ _
  termination_by SizeOf.sizeOf c
  decreasing_by all_goals (exact kid_lt (by assumption))
theorem c21 (t : Types) (ρ : Rule) (c : Cond) (ht : t.ok) (hf : ρ.fine) (hk : kb c) (hfa : fineA c) : Con P 21 [] [t.av, ρ.av, c.av] (.tuple [(pru t ρ c).1.av, .int .i64 (pru t ρ c).2]) [] := by
  have e : pru t ρ c = if tval t ≠ 0 then (.zero, tval t) else if strc ρ ≠ 0 then (.zero, strc ρ) else if cval ρ.left.graph c ≠ 0 then (.zero, cval ρ.left.graph c) else (prn (gonL ρ) (rng 0 ρ.left.graph.edges.length) c, 0) := rfl
  have hv := c49 t ht
  unfold tvV at hv
  generalize tval t = tv at hv e
  generalize tnam t = tn at hv
  refine go Tryz.func21 (by rfl) rfl rfl rfl fun hl => ?_
  refine W0 ?_
  refine ⟨_, _, hv, ?_⟩
  refine V0 ?_
  refine ⟨fun h => ?_, fun h => ?_⟩
  · rw [if_pos (bne_t h)] at e
    refine V0 ?_
    refine fin_frz TT ?_ rfl
    rw [e]; rfl
  rw [if_neg (by simp [bne_f h])] at e
  refine V0 ?_
  refine ⟨_, _, c13 ρ hf, ?_⟩
  refine V0 ?_
  refine ⟨fun h => ?_, fun h => ?_⟩
  · rw [if_pos (bne_t h)] at e
    refine V0 ?_
    refine fin_frz TT ?_ rfl
    rw [e]; rfl
  have hstr := bne_f h
  rw [if_neg (by simp [hstr])] at e
  refine V0 ?_
  refine ⟨_, _, c61 ρ.left.graph c hfa, ?_⟩
  refine V0 ?_
  refine ⟨fun h => ?_, fun h => ?_⟩
  · rw [if_pos (bne_t h)] at e
    refine V0 ?_
    refine fin_frz TT ?_ rfl
    rw [e]; rfl
  have hcv := bne_f h
  obtain ⟨hgv, hov⟩ := cval_ok hcv
  have hgl := gval_len hgv
  rw [if_neg (by simp [hcv])] at e
  have hi := strc_ok hstr
  have hkl := ext_len ρ.left.graph ρ.keep
  have hgon := gon_in ρ
  have hrn := restL_len ρ.left.graph.nodes.length ρ.keep.nodes
  have hw := wo_cut c ρ.left.graph hov (gonL ρ) (rng 0 ρ.left.graph.edges.length)
  have hcut := c72 c hk ρ.left.graph (gonL ρ) (rng 0 ρ.left.graph.edges.length) hov hgon (fun i hi => by have := rng_mem hi; omega) (by unfold gonL; omega) (by rw [rng_len]; omega)
  have hdel := c52 ρ (pval_nd hi.kp).1 (by omega) (by have := aval_len (pval_ok hi.kp).2.1; omega)
  have hwo := c71 (cutR (gonL ρ) (rng 0 ρ.left.graph.edges.length) c) (kb_cut c hk _ _)
  rw [hw.1] at hwo
  refine V0 ?_
  refine ⟨_, _, hdel, ?_⟩
  refine V0 ?_
  refine ⟨_, _, c54 ρ.left.graph (by omega) (by omega), ?_⟩
  refine V0 ?_
  refine ⟨_, _, hcut, ?_⟩
  refine V0 ?_
  refine ⟨_, _, hwo, ?_⟩
  refine V0 ?_
  refine fin_frz TT ?_ rfl
  rw [e]; rfl
end Go.Av.Z

/- The law of Prune, the example's answer given. -/
set_option maxHeartbeats 4000000
namespace Go.Av.Z
open Go.Proofs

theorem noSl_cyes : noSl cyes := (noSl_iff _).2 ⟨⟨rfl, rfl⟩, fun x hx => by cases hx⟩
theorem noSl_nil4 (k : Int) (ks : List Cond) (h : ∀ x ∈ ks, noSl x) : noSl (nil4 k ks) := (noSl_iff _).2 ⟨⟨rfl, rfl⟩, h⟩
theorem noSl_cno : noSl cno := noSl_nil4 2 [cyes] fun x hx => by
  have : x = cyes := by simpa using hx
  rw [this]; exact noSl_cyes
theorem noSl_wth {c : Cond} (hs : shp c = 0) (ks : List Cond) (h : ∀ x ∈ ks, noSl x) : noSl (wth c ks) := by
  rw [← plain_cpy hs]
  exact (noSl_iff _).2 ⟨⟨rfl, rfl⟩, h⟩
theorem noSl_red {c : Cond} (hs : shp c = 0) (ks : List Cond) (h : ∀ x ∈ ks, noSl x) : noSl (red (wth c ks)) := by
  have hw := noSl_wth hs ks h
  have hl : ∀ (empty whole : Cond) (neu abs : Cond → Bool), noSl empty → noSl whole → noSl (lst (wth c ks) empty whole neu abs) := by
    intro empty whole neu abs h1 h2
    unfold lst
    split
    · exact h2
    · have hs : ∀ k ∈ (wth c ks).kids.filter (fun k => !neu k), noSl k := fun k hk => h k (List.mem_filter.1 hk).1
      generalize (wth c ks).kids.filter (fun k => !neu k) = qs at hs
      match qs, hs with
      | [], _ => exact h1
      | [k], hs => exact hs k (by simp)
      | a :: b :: r, hs => exact noSl_nil4 _ _ hs
  unfold red
  split
  · split
    · exact noSl_cyes
    · exact hw
  · split
    · exact hl _ _ _ _ noSl_cyes noSl_cno
    · split
      · exact hl _ _ _ _ noSl_cno noSl_cyes
      · split
        · split
          · exact noSl_cno
          · exact hw
        · exact hw
theorem noSl_prn (c : Cond) (a : Graph) (h : ovr a c = 0) (gone edges : List Int) : noSl (prn gone edges c) := by
  have hs := ovr_shp h
  have key : ∀ g e : List Int, (∀ x ∈ c.kids, noSl (prn g e x)) → noSl (red (wth c (c.kids.map (prn g e)))) := fun g e hx => noSl_red hs _ fun y hy => by
    rw [List.mem_map] at hy
    obtain ⟨x, hm, rfl⟩ := hy
    exact hx x hm
  rw [prn_eq]
  by_cases h5 : (c.kind == 5) = true
  · obtain ⟨⟨y, hy, hoy⟩, _⟩ := ovr_five h h5
    rw [if_pos h5]
    split
    · exact noSl_cno
    · refine key _ _ fun x hx => ?_
      have hxy : x = y := by rw [hy, List.mem_singleton] at hx; exact hx
      exact noSl_prn x c.pat.graph (by rw [hxy]; exact hoy) _ _
  · have h5 : (c.kind == 5) = false := by simpa using h5
    rw [if_neg (by simp [h5])]
    exact key _ _ fun x hx => noSl_prn x a (ovr_else h h5 x hx) _ _
  termination_by SizeOf.sizeOf c
  decreasing_by all_goals (exact kid_lt (by assumption))
theorem noSl_pru (t : Types) (ρ : Rule) (c : Cond) : noSl (pru t ρ c).1 := by
  unfold pru
  split
  · exact noSl_zero
  · split
    · exact noSl_zero
    · split
      · exact noSl_zero
      · rename_i h
        exact noSl_prn c ρ.left.graph (cval_ok (Classical.not_not.1 h)).2 _ _
theorem tLawPrune (hw : Con P 10 [] [] (.bool true) []) (t : Types) (ρ : Rule) (c : Cond) (ht : t.ok) (hf : ρ.fine) (hk : kb c) : Con P 5 [] [t.av, ρ.av, c.av] (.bool true) [] := by
  refine go Tryz.func5 (by rfl) rfl rfl rfl fun hl => ?_
  refine W0 ?_
  refine ⟨_, _, hw, ?_⟩
  refine V0 ?_
  refine ⟨_, _, c11 t ht, ?_⟩
  refine V0 ?_
  refine ⟨fun h0 => ?_, fun h0 => ?_⟩
  · refine V0 ?_
    refine ⟨_, _, hw, ?_⟩
    refine V0 ?_
    refine fin_frz TT ?_ rfl
    rfl
  refine V0 ?_
  refine ⟨_, _, c12 ρ, ?_⟩
  refine V0 ?_
  refine ⟨fun h1 => ?_, fun h1 => ?_⟩
  · refine V0 ?_
    refine ⟨_, _, hw, ?_⟩
    refine V0 ?_
    refine fin_frz TT ?_ rfl
    rfl
  refine V0 ?_
  refine ⟨_, _, c17 ρ.left.graph c, ?_⟩
  refine V0 ?_
  refine ⟨fun h2 => ?_, fun h2 => ?_⟩
  · refine V0 ?_
    refine ⟨_, _, hw, ?_⟩
    refine V0 ?_
    refine fin_frz TT ?_ rfl
    rfl
  have h2 : lightB ρ.left.graph c = true := by simpa using h2
  have hfa := fit_fine (by omega) (by omega) c (light_ok h2).1
  refine V0 ?_
  refine ⟨_, _, c20 t ρ c ht hf hk (fun _ => hfa), ?_⟩
  refine V0 ?_
  refine ⟨_, _, c21 t ρ c ht hf hk hfa, ?_⟩
  refine V0 ?_
  refine ⟨fun _ => ?_, fun h => absurd h (by simp)⟩
  refine V0 ?_
  refine ⟨_, _, c16 (pru t ρ c).1 (noSl_pru t ρ c), ?_⟩
  refine V0 ?_
  refine fin_frz TT ?_ rfl
  rfl
end Go.Av.Z

/- Type graphs: a type's line, what fits. -/
set_option maxHeartbeats 4000000
namespace Go.Av.Z
open Go.Proofs

open Go.Sort Go.RowKit in
/-- slices.Reverse at []int: the lent row is turned. -/
theorem c249 (l : List Int) (hn : l.length ≤ 9223372036854775807) : Con P 249 [.row 3 1 (nums l)] [.ref 0] (.tuple []) [.row 3 1 (nums l.reverse)] := by
  refine ⟨⟨_, Tryz.func249, rfl, rfl⟩, ?_, Nat.le_refl _⟩
  intro w F σ vs hX hfree hargs
  obtain ⟨sv, rfl, hs, hB⟩ := lent_row hX hargs
  obtain ⟨hm, ⟨rfl, rfl⟩ | ⟨g, cap, cur, rfl, hg, h1, h2, h3, h4⟩⟩ := row_nums hB
  · refine (Tryz.slices_Reverse_int_empty none 0 w).mono ?_
    rintro e w' ⟨rfl, rfl⟩
    exact ⟨_, σ, F, rfl, fun _ _ h => h, hfree, .tuple [] #[] rfl (by simp), by simpa using hX⟩
  · refine (Tryz.slices_Reverse_int g 0 cap l w (holds_of_blockI hg h4) hn).mono ?_
    rintro e w' ⟨rfl, n, rfl⟩
    have eg : putRow (Value.int .i64) (Sort.ahead w n) g 0 l.reverse.toArray = grow (putRow (Value.int .i64) (Sort.ahead w n) g 0 l.reverse.toArray) #[] := by unfold grow; rw [Array.append_empty]
    rw [eg]
    refine ⟨_, σ, F, rfl, fun _ _ h => h, hfree, .tuple [] #[] rfl (by simp), ?_⟩
    have := hX.turned (id := 0) (g := g) (ys := nums l.reverse) rfl hs rfl (grownBy_sortedI (n := n) (os := #[]) l.reverse.toArray) (nums_row (by rw [List.length_reverse]; exact hm) (by
      have := ownsRow_sortedI (n := n) (os := #[]) (base := 0) (ss := l) (ts := l.reverse) (List.length_reverse ..) (Nat.zero_le _) hg h1 h2 h3
      rw [← @List.length_reverse _ l] at this ⊢
      exact this))
    rw [updH_hpOf] at this
    exact this

theorem c157a (cs : List AV) (l : List Int) (f : Nat) (p : Int → Bool) (hp : ∀ x ∈ l, Con P f [] [AV.int .i64 x, .fptr cs] (.bool (p x)) []) : Con P 157 [] [.slice 1 (nums l), .fn f [.fptr cs]] (.int .i64 (idx p l)) [] := by
  refine go Tryz.func157 (by rfl) rfl rfl rfl fun hl => ?_
  have hn : l.length ≤ 9223372036854775807 := by
    have := hl (nums l).length (by simp [lensL, lens])
    rwa [nums_len] at this
  refine W0 ?_
  refine loop (fun i : Nat => mkSt [(8, .int .i64 i), (7, .int .i64 l.length), (0, .slice 1 (nums l)), (1, .fn f [.fptr cs])] []) (fun i => i ≤ l.length ∧ ∀ j y, j < i → l[j]? = some y → p y = false) (fun i => l.length - i) 0 ⟨Nat.zero_le _, fun j y h => by omega⟩
    (le_of [] rfl rfl rfl ⟨rfl, by rw [nums_len]; rfl, rfl, rfl, trivial⟩ trivial) ?_
  rintro i ⟨hi, hno⟩
  refine W0 ?_
  refine ⟨fun hlt => ?_, fun hge => ?_⟩
  · have hlt : i < l.length := by simpa using hlt
    have hx : l[i]? = some l[i] := List.getElem?_eq_getElem hlt
    refine W0 ?_
    refine ⟨by omega, _, nums_at hx, ?_⟩
    refine W0 ?_
    refine ⟨_, _, hp l[i] (List.getElem_mem hlt), ?_⟩
    refine W0 ?_
    refine ⟨fun ht => ?_, fun hf => ?_⟩
    · refine W0 ?_
      refine fin_frz TT ?_ rfl
      rw [idx_some hno hx ht]; rfl
    · refine W0 ?_
      exact ⟨i + 1, ⟨hlt, none_upto hno hx hf⟩, by show l.length - (i + 1) < l.length - i; omega, le_of [] rfl rfl rfl ⟨step_num hlt hn, rfl, rfl, rfl, trivial⟩ trivial⟩
  · have hge : ¬ i < l.length := by simpa using hge
    refine W0 ?_
    refine fin_frz TT ?_ rfl
    rw [idx_none (none_all hno (by omega))]; rfl
theorem c99a (cs : List AV) (l : List Int) (f : Nat) (p : Int → Bool) (hp : ∀ x ∈ l, Con P f [] [AV.int .i64 x, .fptr cs] (.bool (p x)) []) : Con P 99 [] [.slice 1 (nums l), .fn f [.fptr cs]] (.bool (l.any p)) [] := by
  refine go Tryz.func99 (by rfl) rfl rfl rfl fun hl => ?_
  refine W0 ?_
  refine ⟨_, _, c157a cs l f p hp, ?_⟩
  refine W0 ?_
  refine fin_frz TT ?_ rfl
  rw [← idx_any]; rfl



/-- A type with all its supertypes. -/
def ancs (ns : List NodeT) : Nat → Int → List Int
  | 0, _ => []
  | k + 1, a => if a < 0 then [] else a :: ancs ns k (ns.getD a.toNat default).parent
def anc (ns : List NodeT) (a : Int) : List Int := ancs ns (a.toNat + 1) a
theorem anc_neg (ns : List NodeT) {a : Int} (h : a < 0) : anc ns a = [] := by rw [anc, ancs, if_pos h]
theorem ancs_neg (ns : List NodeT) {a : Int} (h : a < 0) (k : Nat) : ancs ns k a = [] := by
  cases k with
  | zero => rfl
  | succ k => rw [ancs, if_pos h]
theorem ancs_more (ns : List NodeT) {i : Nat} (h : pok ns i) (hi : i < ns.length) : ∀ (m n : Nat) (b : Int), b ≤ i → b.toNat + 1 ≤ m → m ≤ n → ancs ns n b = ancs ns m b := by
  intro m
  induction m with
  | zero => intro n b _ h1; omega
  | succ m ihm =>
    intro n b hb h1 h3
    cases n with
    | zero => omega
    | succ n =>
      by_cases hb0 : b < 0
      · rw [ancs_neg ns hb0, ancs_neg ns hb0]
      · have hy : ns[b.toNat]? = some ns[b.toNat] := List.getElem?_eq_getElem (by omega)
        have hpb := h b.toNat _ (by omega) hy
        rw [ancs, ancs, if_neg hb0, if_neg hb0, getD_some hy]
        by_cases hm : ns[b.toNat].parent < 0
        · rw [ancs_neg ns hm, ancs_neg ns hm]
        · rw [ihm n _ (by omega) (by omega) (by omega)]
theorem anc_step (ns : List NodeT) {a : Int} (h0 : 0 ≤ a) (h : pok ns a.toNat) {n : NodeT} (hx : ns[a.toNat]? = some n) : anc ns a = a :: anc ns n.parent := by
  have hi := (List.getElem?_eq_some_iff.1 hx).1
  have hp := h a.toNat n (Nat.le_refl _) hx
  rw [anc, ancs, if_neg (by omega), getD_some hx]
  by_cases hq : n.parent < 0
  · rw [anc_neg ns hq, ancs_neg ns hq]
  · rw [anc, ancs_more ns h hi _ _ n.parent (by omega) (Nat.le_refl _) (by omega)]
/-- A valid type graph's parents lie ahead. -/
def tpo (ns : List NodeT) : Prop := ∀ (j : Nat) (n : NodeT), ns[j]? = some n → n.parent < j
theorem tpo.pok {ns : List NodeT} (h : tpo ns) (i : Nat) : pok ns i := fun j n _ hn => h j n hn
theorem c204 (t : Types) (hs : t.nodes.length ≤ 1000) (a : Int) (ha : a < t.nodes.length) (hp : tpo t.nodes) : Con P 204 [] [t.av, .int .i64 a] (.slice 1 (nums (anc t.nodes a).reverse)) [] := by
  refine go Tryz.func204 (by rfl) rfl rfl rfl fun hl => ?_
  refine W0 ?_
  refine loop (fun x : Int × List Int => mkSt [(1, .int .i64 x.1), (5, .ref 1), (2, .bptr 0 0)] [.box 25 t.cs, .row 3 1 (nums x.2)]) (fun x => x.1 < t.nodes.length ∧ x.2.length + (x.1 + 1).toNat ≤ 1000 ∧ anc t.nodes a = x.2 ++ anc t.nodes x.1) (fun x => (x.1 + 1).toNat) (a, [])
    ⟨ha, by simp; omega, rfl⟩ (le_of [0, 2] rfl rfl rfl ⟨rfl, rfl, rfl, trivial⟩ ⟨rfl, rfl, trivial⟩) ?_
  rintro ⟨b, l⟩ ⟨h1, h2, h3⟩
  simp only at h1 h2 h3
  refine V0 ?_
  refine ⟨fun hlt => ?_, fun hge => ?_⟩
  · have hlt : 0 ≤ b := of_decide_eq_true hlt
    have hx : t.nodes[b.toNat]? = some t.nodes[b.toNat] := List.getElem?_eq_getElem (by omega)
    have hq := hp _ _ hx
    have e := anc_step t.nodes hlt (hp.pok _) hx
    generalize t.nodes[b.toNat] = n at hx hq e
    refine V0 ?_
    refine ⟨by rw [nums_len]; show (l.length + 1) * 8 ≤ _; omega, ?_⟩
    refine V0 ?_
    refine ⟨by omega, _, ndts_at hx, ?_⟩
    refine V0 ?_
    exact ⟨(n.parent, l ++ [b]), ⟨by show n.parent < _; omega, by show (l ++ [b]).length + (n.parent + 1).toNat ≤ 1000; simp; omega, by show _ = (l ++ [b]) ++ anc t.nodes n.parent; rw [h3, e]; simp⟩, by show (n.parent + 1).toNat < (b + 1).toNat; omega,
      le_of [0, 3] rfl rfl rfl ⟨rfl, rfl, rfl, trivial⟩ ⟨rfl, by rw [nums_app]; rfl, trivial⟩⟩
  · have hge : b < 0 := by have := of_decide_eq_false hge; omega
    rw [anc_neg _ hge, List.append_nil] at h3
    refine V0 ?_
    refine ⟨_, _, c249 l (by omega), ?_⟩
    refine V0 ?_
    refine fin_frz TT ?_ rfl
    rw [h3]; rfl
def blwB (t : Types) (a b : Int) : Bool := (anc t.nodes a).contains b
theorem c156 (t : Types) (hs : t.nodes.length ≤ 1000) (a b : Int) (ha : a < t.nodes.length) (hp : tpo t.nodes) : Con P 156 [] [t.av, .int .i64 a, .int .i64 b] (.bool (blwB t a b)) [] := by
  refine go Tryz.func156 (by rfl) rfl rfl rfl fun hl => ?_
  refine W0 ?_
  refine ⟨_, _, c204 t hs a ha hp, ?_⟩
  refine V0 ?_
  refine ⟨_, _, c43 (anc t.nodes a).reverse b, ?_⟩
  refine V0 ?_
  refine fin_frz TT ?_ rfl
  rw [blwB, List.contains_reverse]; rfl
theorem mbelow (t : Types) (hs : t.nodes.length ≤ 1000) (b : Int) (hb : 0 ≤ b) (hp : tpo t.nodes) (a : Int) (ha : a < t.nodes.length)
    (ih : ∀ c : Int, c < a → 0 ≤ a → c < t.nodes.length → Con P 167 [] [t.av, .int .i64 c, .int .i64 b] (.bool (blwB t c b)) []) : Con P 167 [] [t.av, .int .i64 a, .int .i64 b] (.bool (blwB t a b)) [] := by
  refine go Tryz.func167 (by rfl) rfl rfl rfl fun hl => ?_
  refine W0 ?_
  refine ⟨fun h1 => ?_, fun h1 => ?_⟩
  · have h1 : a = b := by have h1 : (a == b) = true := h1; simpa using h1
    subst h1
    have hx : t.nodes[a.toNat]? = some t.nodes[a.toNat] := List.getElem?_eq_getElem (by omega)
    have e : blwB t a a = true := by rw [blwB, anc_step t.nodes hb (hp.pok _) hx]; simp
    refine V0 ?_
    refine fin_frz TT ?_ rfl
    rw [e]; rfl
  · have h1 : (a == b) = false := h1
    refine V0 ?_
    refine ⟨fun h2 => ?_, fun h2 => ?_⟩
    · have h2 : 0 ≤ a := of_decide_eq_true h2
      have hx : t.nodes[a.toNat]? = some t.nodes[a.toNat] := List.getElem?_eq_getElem (by omega)
      have hq := hp _ _ hx
      have e : blwB t a b = blwB t t.nodes[a.toNat].parent b := by rw [blwB, anc_step t.nodes h2 (hp.pok _) hx, List.contains_cons, show (b == a) = false by rw [← h1]; simp [BEq.comm], Bool.false_or]; rfl
      generalize t.nodes[a.toNat] = n at hx hq e
      refine V0 ?_
      refine ⟨by omega, _, ndts_at hx, ?_⟩
      refine V0 ?_
      refine ⟨_, _, ih n.parent (by omega) h2 (by omega), ?_⟩
      refine V0 ?_
      refine fin_frz TT ?_ rfl
      rw [e]; rfl
    · have h2 : a < 0 := by have := of_decide_eq_false h2; omega
      refine V0 ?_
      refine fin_frz TT ?_ rfl
      rw [blwB, anc_neg _ h2]; rfl
theorem c167 (t : Types) (hs : t.nodes.length ≤ 1000) (b : Int) (hb : 0 ≤ b) (hp : tpo t.nodes) (a : Int) (ha : a < t.nodes.length) : Con P 167 [] [t.av, .int .i64 a, .int .i64 b] (.bool (blwB t a b)) [] :=
  mbelow t hs b hb hp a ha fun c h1 h2 h3 => c167 t hs b hb hp c h3
  termination_by (a + 1).toNat
  decreasing_by omega
end Go.Av.Z
