/- Part 2 of 5 of a proof: the logic Av, contracts of functions. -/
import Derived.Test.YtaabmnpedhggoaaGreatAvA
import Derived.Laws.Slices
import Derived.Laws.Strings2
import Derived.Test.YtaabmnpedhggoaaGreatProg
import Derived.KernelRfl
set_option linter.unusedVariables false
set_option maxRecDepth 100000
/- The executor of operations, regions and code. -/
namespace Go.Av

section
variable {P : Program} {TT : TypeId → Option TI} {nt : Nat} {o : Oper} {d : Nat} {S : St}

def xIndex (TT : TypeId → Option TI) (S : St) (d : Nat) (t : TypeId) (x ix : Operand) (K : Log → Prop) : Prop :=
  rdO S x fun v rt rh => rdO S ix fun u rt' rh' => match u with
    | .int _ n => match TT t with
      | some i => match i.k with
        | .str => match v with
          | .str s => 0 ≤ n ∧ ∃ b, s[n.toNat]? = some b ∧ K { rt := rt ++ rt', rh := rh ++ rh', wt := some (d, .int .u8 b.toNat) }
          | _ => False
        | .arr m e => match TT e with
          | some j => match j.k.agg, Nat.beq j.sz 1 with
            | false, true => match v with
              | .agg xs => 0 ≤ n ∧ n < m ∧ ∃ y, xs[n.toNat]? = some y ∧ forceA y fun y => K { rt := rt ++ rt', rh := rh ++ rh', wt := some (d, y) }
              | _ => False
            | _, _ => False
          | none => False
        | _ => False
      | none => False
    | _ => False
theorem xIndex_ok (hT : TOk P TT) {t : TypeId} {x ix : Operand} (hd : o.dst = some d) (hn : d < nt) (ho : o.op = .index t x ix) : XOk P nt o S (xIndex TT S d t x ix) := by
  intro K h
  obtain ⟨v, rt, rh, h1, h2, h⟩ := rdO_ok h
  obtain ⟨u, rt', rh', h1', h2', h⟩ := rdO_ok h
  have hr := h2.append h2'
  split at h <;> try exact h.elim
  rename_i k n
  split at h <;> try exact h.elim
  rename_i i hi
  split at h
  · rename_i hk
    split at h <;> try exact h.elim
    rename_i s _
    obtain ⟨h0, b, hb, h⟩ := h
    exact ⟨_, stepOk_indexStr hT hd hn ho hi hk h1.left h1'.right h0 hb, hr, by simp, by simp, h⟩
  · rename_i m e hk
    split at h <;> try exact h.elim
    rename_i j hj
    split at h <;> try exact h.elim
    rename_i ha hs
    split at h <;> try exact h.elim
    rename_i xs _
    obtain ⟨h0, h3, y, hy, h⟩ := h
    rw [forceA_eq] at h
    exact ⟨_, stepOk_indexArr hT hd hn ho hi hk hj ha (Nat.eq_of_beq_eq_true hs) h1.left h1'.right h0 h3 hy, hr, by simp, by simp, h⟩
  · exact h.elim

def xField (TT : TypeId → Option TI) (S : St) (d : Nat) (t : TypeId) (x : Operand) (f : Nat) (K : Log → Prop) : Prop :=
  rdO S x fun v rt rh => match TT t with
    | some i => match i.k with
      | .struct fs => match fs[f]? with
        | some (off, ft) => match TT ft with
          | some j => match v with
            | .agg xs => match Nat.ble (off + j.sz) xs.length, Nat.ble (off + 1) xs.length with
              | true, true => forceA (bif j.k.agg then .agg ((xs.drop off).take j.sz) else xs.getD off .any) fun y => K { rt := rt, rh := rh, wt := some (d, y) }
              | _, _ => False
            | _ => False
          | none => False
        | none => False
      | _ => False
    | none => False
theorem xField_ok (hT : TOk P TT) {t : TypeId} {x : Operand} {f : Nat} (hd : o.dst = some d) (hn : d < nt) (ho : o.op = .field t x f) : XOk P nt o S (xField TT S d t x f) := by
  intro K h
  obtain ⟨v, rt, rh, h1, h2, h⟩ := rdO_ok h
  split at h <;> try exact h.elim
  rename_i i hi
  split at h <;> try exact h.elim
  rename_i fs hk
  split at h <;> try exact h.elim
  rename_i off ft hf
  split at h <;> try exact h.elim
  rename_i j hj
  split at h <;> try exact h.elim
  rename_i xs
  split at h <;> try exact h.elim
  rename_i g1 g2
  rw [forceA_eq] at h
  exact ⟨_, stepOk_field hT hd hn ho hi hk hf hj h1 (Nat.le_of_ble_eq_true g1) (Nat.le_of_ble_eq_true g2), h2, by simp, by simp, h⟩

theorem Args.at {rt : List (Nat × AV)} {rh : List (Nat × Blk)} : ∀ {xs : List Operand} {ys : List AV}, Args rt rh xs ys → xs.length = ys.length ∧ ∀ (j : Nat) (y : AV), ys[j]? = some y → ∃ c, xs[j]? = some c ∧ Opnd rt rh c y
  | _, _, .nil => ⟨rfl, fun j y h => by simp at h⟩
  | _, _, .cons (x := x) h t => by
    obtain ⟨h1, h2⟩ := t.at
    refine ⟨by simp [h1], fun j y hy => ?_⟩
    cases j with
    | zero => simp at hy; subst hy; exact ⟨x, by simp, h⟩
    | succ j => simpa using h2 j y (by simpa using hy)
def xMakeFunc (S : St) (d : Nat) (f : FuncId) (caps : List Operand) (K : Log → Prop) : Prop :=
  rdAll S caps fun vs rt => K { rt := rt, rh := [], wt := some (d, .fn f vs) }
theorem xMakeFunc_ok {f : FuncId} {caps : Array Operand} (hd : o.dst = some d) (hn : d < nt) (ho : o.op = .makeFunc (.func f) #[] caps) : XOk P nt o S (xMakeFunc S d f caps.toList) := by
  intro K h
  obtain ⟨vs, rt, h1, h2, h⟩ := rdAll_ok h
  obtain ⟨g1, g2⟩ := h1.at
  refine ⟨_, stepOk_makeFunc hd hn ho (by simpa using g1) (fun j x hx => ?_), h2, by simp, by simp, h⟩
  obtain ⟨c, e1, e2⟩ := g2 j x hx
  exact ⟨c, by simpa using e1, e2⟩

def xMakeSlice (TT : TypeId → Option TI) (S : St) (d : Nat) (t : TypeId) (x y : Operand) (K : Log → Prop) : Prop :=
  match TT t with
  | some i => match i.k with
    | .slice e => match TT e with
      | some j => rdO S x fun v rt rh => rdO S y fun u rt' rh' => match v, u with
        | .int _ m, .int _ m' => match allB AV.pure1 j.zero, allB AV.cell j.zero with
          | true, true => (m = m' ∧ 0 ≤ m ∧ j.bytes * m.toNat ≤ 281474976710656 ∧ m.toNat ≤ maxLen) ∧
            forceNat S.nx fun n => K { rt := rt ++ rt', rh := rh ++ rh', wt := some (d, .ref n), wh := [(n, .row e j.sz (chunk j.sz m.toNat (repl m.toNat j.zero)))], nw := [n] }
          | _, _ => False
        | _, _ => False
      | none => False
    | _ => False
  | none => False
theorem xMakeSlice_ok (hT : TOk P TT) {t : TypeId} {x y : Operand} (hd : o.dst = some d) (hn : d < nt) (ho : o.op = .makeSlice t x y) : XOk P nt o S (xMakeSlice TT S d t x y) := by
  intro K h
  unfold xMakeSlice at h
  split at h <;> try exact h.elim
  rename_i i hi
  split at h <;> try exact h.elim
  rename_i e hk
  split at h <;> try exact h.elim
  rename_i j hj
  obtain ⟨v, rt, rh, h1, h2, h⟩ := rdO_ok h
  obtain ⟨u, rt', rh', h1', h2', h⟩ := rdO_ok h
  split at h <;> try exact h.elim
  split at h <;> try exact h.elim
  rename_i g1 g2
  rw [allB_eq] at g1 g2
  obtain ⟨⟨rfl, a2, a3, a4⟩, h⟩ := h
  rw [forceNat_eq] at h
  refine ⟨_, stepOk_rh (stepOk_makeSlice (rt := rt ++ rt') (rh := rh ++ rh') (id := S.nx) hT hd hn ho hi hk hj h1.left h1'.right a2 a3 a4 g1 g2) ?_, h2.append h2', by simp, by simp, h⟩
  exact fun _ h => h
def xMax (S : St) (d : Nat) (x y : Operand) (K : Log → Prop) : Prop :=
  rdO S x fun v rt rh => rdO S y fun u rt' rh' => match v, u with
    | .int k m, .int _ n => K { rt := rt ++ rt', rh := rh ++ rh', wt := some (d, .int k (if n > m then n else m)) }
    | _, _ => False
theorem xMax_ok {x y : Operand} {tys : Array TypeId} (hd : o.dst = some d) (hn : d < nt) (ho : o.op = .call { callee := .builtin .max, args := #[x, y], argTypes := tys }) : XOk P nt o S (xMax S d x y) := by
  intro K h
  obtain ⟨v, rt, rh, h1, h2, h⟩ := rdO_ok h
  obtain ⟨u, rt', rh', h1', h2', h⟩ := rdO_ok h
  split at h <;> try exact h.elim
  exact ⟨_, stepOk_max hd hn ho h1.left h1'.right, h2.append h2', by simp, by simp, h⟩

def xMin (S : St) (d : Nat) (x y : Operand) (K : Log → Prop) : Prop :=
  rdO S x fun v rt rh => rdO S y fun u rt' rh' => match v, u with
    | .int k m, .int _ n => K { rt := rt ++ rt', rh := rh ++ rh', wt := some (d, .int k (if n < m then n else m)) }
    | _, _ => False
theorem xMin_ok {x y : Operand} {tys : Array TypeId} (hd : o.dst = some d) (hn : d < nt) (ho : o.op = .call { callee := .builtin .min, args := #[x, y], argTypes := tys }) : XOk P nt o S (xMin S d x y) := by
  intro K h
  obtain ⟨v, rt, rh, h1, h2, h⟩ := rdO_ok h
  obtain ⟨u, rt', rh', h1', h2', h⟩ := rdO_ok h
  split at h <;> try exact h.elim
  exact ⟨_, stepOk_min hd hn ho h1.left h1'.right, h2.append h2', by simp, by simp, h⟩
/-- A bound of a part. -/
def BIs (rt : List (Nat × AV)) (rh : List (Nat × Blk)) (x : Option Operand) (n m : Nat) : Prop := match x with
  | none => m = n
  | some y => ∃ k, Opnd rt rh y (.int k (m : Nat))
/-- A part of a slice. -/
theorem stepOk_cut (hT : TOk P TT) {t e : TypeId} {i j : TI} {x : Operand} {lo hi : Option Operand} {sz : Nat} {xs : List (List AV)} {l h : Nat} {rt : List (Nat × AV)} {rh : List (Nat × Blk)} (hd : o.dst = some d) (hn : d < nt) (ho : o.op = .slice t x lo hi none) (hi' : TT t = some i) (hk : i.k = .slice e) (hj : TT e = some j) (hs : j.sz = sz)
    (hx : Opnd rt rh x (.slice sz xs)) (hlo : BIs rt rh lo 0 l) (hhi : BIs rt rh hi xs.length h) (h1 : l ≤ h) (h2 : h ≤ xs.length) :
    StepOk P nt o { rt := rt, rh := rh, wt := some (d, .slice sz ((xs.take h).drop l)) } :=
  stepOk_read hd hn fun C tm hp a w σ F hX hrt hrh => by
    obtain ⟨ti, dd, z, g1, g2, g3, _⟩ := hT.ok t i hi'
    obtain ⟨tj, dj, _, f1, f2, f3, f4, _⟩ := hT.ok e j hj
    rw [hk] at g3
    cases dd <;> simp [DescOk] at g3
    rename_i e'
    subst g3
    have hel : P.elem t = e' := by simp [Program.elem, g2]
    have ht : P.underlying t = some (.slice (P.elem t)) := by rw [hel]; exact g2
    have hv := hx.val hX hrt hrh
    obtain ⟨vx, hvx⟩ : ∃ vx, a.eval x = vx := ⟨_, rfl⟩
    rw [hvx] at hv
    cases hv with
    | slice _ _ A c cs hc hm hel' h0 hval =>
      have hsz : (sizeOf (P.elem t)).run P w = .ok sz w := by rw [hel, sizeOf_run f1, f4, hs]
      have hres : (Instr.sliceAt t (.slice A xs.length c) (lo.map a.eval) (hi.map a.eval) none).run P w = .ok (sliced A l h c sz) w := by
        rw [run_sliceAt_slice w t _ _ _ _ ht]
        cases lo with
        | none =>
          have hl0 : l = 0 := hlo
          subst hl0
          cases hi with
          | none =>
            have hh : h = xs.length := hhi
            subst hh
            simp [run_slice_all w t A xs.length c ht, hsz]
          | some y =>
            obtain ⟨k, hy⟩ := hhi
            have e := (hy.val hX hrt hrh).unint
            simp only [Option.map_none, Option.map_some, e]
            rw [run_slice_h w t A xs.length c ht k h (by omega) (by omega), hsz]
            simp
        | some u =>
          obtain ⟨ku, hu⟩ := hlo
          have e1 := (hu.val hX hrt hrh).unint
          cases hi with
          | none =>
            have hh : h = xs.length := hhi
            subst hh
            simp only [Option.map_none, Option.map_some, e1]
            rw [run_slice_l w t A xs.length c ht ku l (by omega) (by omega), hsz]
            simp
          | some y =>
            obtain ⟨k, hy⟩ := hhi
            have e := (hy.val hX hrt hrh).unint
            simp only [Option.map_some, e, e1]
            rw [run_slice_lh w t A xs.length c ht ku k l h (by omega) (by omega) (by omega), hsz]
            simp
      have hlen : ((xs.take h).drop l).length = h - l := by rw [List.length_drop, List.length_take]; omega
      have hget : ∀ j, ((xs.take h).drop l).getD j [] = if l + j < h then xs.getD (l + j) [] else [] := by
        intro j
        rw [List.getD_eq_getElem?_getD, List.getElem?_drop, List.getElem?_take]
        split
        · rw [List.getD_eq_getElem?_getD]
        · rfl
      have hg : ∀ (j q : Nat) y, (((xs.take h).drop l).getD j [])[q]? = some y → l + j < h ∧ (xs.getD (l + j) [])[q]? = some y := by
        intro j q y hy
        rw [hget] at hy
        split at hy
        · exact ⟨by assumption, hy⟩
        · simp at hy
      refine ⟨_, by simp [execOp, ho, hvx, hres]; rfl, ?_⟩
      unfold sliced
      rw [← hlen]
      refine .slice sz _ _ (c - l) (fun j q => cs (l + j) q) (by rw [hlen]; omega) (by rw [hlen]; omega) (fun el hel => hel' el (List.mem_of_mem_take (List.mem_of_mem_drop hel))) (fun hne => ?_) (fun j q y hy => ?_)
      · have hpos : 0 < h - l := by rw [← hlen]; exact List.length_pos_iff.2 hne
        obtain ⟨ad, rfl, hcs⟩ := h0 (fun e => by rw [e] at h2; simp at h2; omega)
        rw [if_neg (by omega)]
        refine ⟨_, rfl, fun j q y hy => ?_⟩
        obtain ⟨_, k2⟩ := hg j q y hy
        obtain ⟨m1, m2⟩ := hcs (l + j) q y k2
        rw [add_add, show l * sz + (j * sz + q) = (l + j) * sz + q by rw [Nat.add_mul]; omega]
        exact ⟨by have : (ad.add (l * sz)).block = ad.block := by { unfold Addr.add; split <;> rfl }
                  rw [this]; exact m1, m2⟩
      · exact hval (l + j) q y (hg j q y hy).2

/-- A part of a string. -/
theorem stepOk_cutStr (hT : TOk P TT) {t : TypeId} {i : TI} {x : Operand} {lo hi : Option Operand} {s : ByteArray} {l h : Nat} {rt : List (Nat × AV)} {rh : List (Nat × Blk)} (hd : o.dst = some d) (hn : d < nt) (ho : o.op = .slice t x lo hi none) (hi' : TT t = some i) (hk : i.k = .str)
    (hx : Opnd rt rh x (.str s)) (hlo : BIs rt rh lo 0 l) (hhi : BIs rt rh hi s.size h) (h1 : l ≤ h) (h2 : h ≤ s.size) :
    StepOk P nt o { rt := rt, rh := rh, wt := some (d, .str (s.extract l h)) } :=
  stepOk_read hd hn fun C tm hp a w σ F hX hrt hrh => by
    obtain ⟨ti, dd, z, g1, g2, g3, _⟩ := hT.ok t i hi'
    rw [hk] at g3
    cases dd <;> simp [DescOk] at g3
    have hv := (hx.val hX hrt hrh).unstr
    refine ⟨.string (s.extract l h), ?_, .str _⟩
    have hres : (Instr.sliceAt t (.string s) (lo.map a.eval) (hi.map a.eval) none).run P w = .ok (.string (s.extract l h)) w := by
      rw [run_sliceAt_string w t _ _ _ _ g2]
      cases lo with
      | none =>
        have hl0 : l = 0 := hlo
        subst hl0
        cases hi with
        | none =>
          have hh : h = s.size := hhi
          subst hh
          simp [run_slice_string_all w t s g2]
        | some y =>
          obtain ⟨k, hy⟩ := hhi
          have e := (hy.val hX hrt hrh).unint
          simp only [Option.map_none, Option.map_some, e]
          rw [run_slice_string_h w t s g2 k h (by omega) (by omega)]
          simp
      | some u =>
        obtain ⟨ku, hu⟩ := hlo
        have e1 := (hu.val hX hrt hrh).unint
        cases hi with
        | none =>
          have hh : h = s.size := hhi
          subst hh
          simp only [Option.map_none, Option.map_some, e1]
          rw [run_slice_string_l w t s g2 ku l (by omega) (by omega)]
          simp
        | some y =>
          obtain ⟨k, hy⟩ := hhi
          have e := (hy.val hX hrt hrh).unint
          simp only [Option.map_some, e, e1]
          rw [run_slice_string w t s ku k l h g2 (by omega) (by omega) (by omega)]
          simp
    simp [execOp, ho, hv, hres]

/-- A bound of a part: a number. -/
def rdB (S : St) (x : Option Operand) (n : Nat) (K : Nat → List (Nat × AV) → List (Nat × Blk) → Prop) : Prop :=
  match x with
  | none => K n [] []
  | some y => rdO S y fun v rt rh => match v with
    | .int _ m => 0 ≤ m ∧ K m.toNat rt rh
    | _ => False
theorem rdB_ok {x : Option Operand} {n : Nat} {K : Nat → List (Nat × AV) → List (Nat × Blk) → Prop} (h : rdB S x n K) : ∃ m rt rh, BIs rt rh x n m ∧ Rd S rt rh ∧ K m rt rh := by
  unfold rdB at h
  split at h
  · exact ⟨n, [], [], rfl, .nil S, h⟩
  · obtain ⟨v, rt, rh, h1, h2, h⟩ := rdO_ok h
    split at h <;> try exact h.elim
    rename_i k m
    obtain ⟨h0, h⟩ := h
    exact ⟨m.toNat, rt, rh, ⟨k, by rw [Int.toNat_of_nonneg h0]; exact h1⟩, h2, h⟩
def xCut (TT : TypeId → Option TI) (S : St) (d : Nat) (t : TypeId) (x : Operand) (lo hi : Option Operand) (K : Log → Prop) : Prop :=
  match TT t with
  | some i => match i.k with
    | .slice e => match TT e with
      | some j => rdO S x fun v rt rh => match v with
        | .slice sz xs => match Nat.beq j.sz sz with
          | true => rdB S lo 0 fun l rt1 rh1 => rdB S hi xs.length fun h rt2 rh2 => (l ≤ h ∧ h ≤ xs.length) ∧ K { rt := (rt ++ rt1) ++ rt2, rh := (rh ++ rh1) ++ rh2, wt := some (d, .slice sz ((xs.take h).drop l)) }
          | false => False
        | _ => False
      | none => False
    | .str => rdO S x fun v rt rh => match v with
      | .str s => rdB S lo 0 fun l rt1 rh1 => rdB S hi s.size fun h rt2 rh2 => (l ≤ h ∧ h ≤ s.size) ∧ K { rt := (rt ++ rt1) ++ rt2, rh := (rh ++ rh1) ++ rh2, wt := some (d, .str (s.extract l h)) }
      | _ => False
    | _ => False
  | none => False
theorem xCut_ok (hT : TOk P TT) {t : TypeId} {x : Operand} {lo hi : Option Operand} (hd : o.dst = some d) (hn : d < nt) (ho : o.op = .slice t x lo hi none) : XOk P nt o S (xCut TT S d t x lo hi) := by
  intro K h
  unfold xCut at h
  split at h <;> try exact h.elim
  rename_i i hi'
  split at h
  · rename_i e hk
    split at h <;> try exact h.elim
    rename_i j hj
    obtain ⟨v, rt, rh, h1, h2, h⟩ := rdO_ok h
    split at h <;> try exact h.elim
    rename_i sz xs
    split at h <;> try exact h.elim
    rename_i hs
    obtain ⟨l, rt1, rh1, k1, k2, h⟩ := rdB_ok h
    obtain ⟨m, rt2, rh2, k3, k4, h⟩ := rdB_ok h
    obtain ⟨⟨a1, a2⟩, h⟩ := h
    refine ⟨_, stepOk_cut (l := l) (h := m) hT hd hn ho hi' hk hj (Nat.eq_of_beq_eq_true hs) h1.left.left ?_ ?_ a1 a2, (h2.append k2).append k4, by simp, by simp, h⟩
    · cases lo with
      | none => exact k1
      | some y => obtain ⟨k, hy⟩ := k1; exact ⟨k, hy.right.left⟩
    · cases hi with
      | none => exact k3
      | some y => obtain ⟨k, hy⟩ := k3; exact ⟨k, hy.right⟩
  · rename_i hk
    obtain ⟨v, rt, rh, h1, h2, h⟩ := rdO_ok h
    split at h <;> try exact h.elim
    rename_i s _
    obtain ⟨l, rt1, rh1, k1, k2, h⟩ := rdB_ok h
    obtain ⟨m, rt2, rh2, k3, k4, h⟩ := rdB_ok h
    obtain ⟨⟨a1, a2⟩, h⟩ := h
    refine ⟨_, stepOk_cutStr (l := l) (h := m) hT hd hn ho hi' hk h1.left.left ?_ ?_ a1 a2, (h2.append k2).append k4, by simp, by simp, h⟩
    · cases lo with
      | none => exact k1
      | some y => obtain ⟨k, hy⟩ := k1; exact ⟨k, hy.right.left⟩
    · cases hi with
      | none => exact k3
      | some y => obtain ⟨k, hy⟩ := k3; exact ⟨k, hy.right⟩
  · exact h.elim
end

/-- An operation. -/
def opX (P : Program) (TT : TypeId → Option TI) (o : Oper) (S : St) (K : Log → Prop) : Prop :=
  match o.op with
  | .move x => match o.dst with
    | some d => xMove TT S d o.type x K
    | none => False
  | .assign x => match o.dst with
    | some d => xMove TT S d o.type x K
    | none => False
  | .binOp op t x y _ => match o.dst with
    | some d => xBin P TT S d op t x y K
    | none => False
  | .load t p => match o.dst with
    | some d => xLoad TT S d t p K
    | none => False
  | .fieldAddr t p f => match o.dst with
    | some d => xFieldAddr TT S d t p f K
    | none => False
  | .indexAddr t x ix => match o.dst with
    | some d => xIndexAddr TT S d t x ix K
    | none => False
  | .call c => match o.dst with
    | some d => match c with
      | ⟨.value fo, args, _⟩ => xCall P TT S d fo args.toList K
      | ⟨.builtin .len, ⟨[x]⟩, ⟨[t]⟩⟩ => xLen TT S d t x K
      | ⟨.builtin .append, ⟨[s, x]⟩, ⟨[t, t']⟩⟩ => match Nat.beq t t' with
        | true => xAppend TT S d t s x K
        | false => False
      | ⟨.builtin .max, ⟨[x, y]⟩, _⟩ => xMax S d x y K
      | ⟨.builtin .min, ⟨[x, y]⟩, _⟩ => xMin S d x y K
      | _ => False
    | none => False
  | .store t p x => match o.dst with
    | none => xStore TT S t p x K
    | some _ => False
  | .alloc e => match o.dst with
    | some d => xAlloc TT S d e K
    | none => False
  | .box e x => match o.dst with
    | some d => xBox TT S d e x K
    | none => False
  | .extract x m => match o.dst with
    | some d => xExtract S d x m K
    | none => False
  | .build t parts => match o.dst with
    | some d => xBuild TT S d t parts.toList K
    | none => False
  | .buildSlice t len parts => match o.dst with
    | some d => xBuildSlice TT S d t len parts.toList K
    | none => False
  | .unOp .not _ x => match o.dst with
    | some d => xNot S d x K
    | none => False
  | .nilCheck x => match o.dst with
    | some d => xNilCheck S d x K
    | none => False
  | .convert s t x => match o.dst with
    | some d => xConvert TT S d s t x K
    | none => False
  | .index t x ix => match o.dst with
    | some d => xIndex TT S d t x ix K
    | none => False
  | .field t x f => match o.dst with
    | some d => xField TT S d t x f K
    | none => False
  | .makeFunc (.func f) ⟨[]⟩ caps => match o.dst with
    | some d => xMakeFunc S d f caps.toList K
    | none => False
  | .makeSlice t x y => match o.dst with
    | some d => xMakeSlice TT S d t x y K
    | none => False
  | .slice t x lo hi none => match o.dst with
    | some d => xCut TT S d t x lo hi K
    | none => False
  | _ => False

/-- The destination lies within the slots. -/
def dstOk (nt : Nat) (o : Oper) : Prop := ∀ d, o.dst = some d → d < nt

theorem opX_ok {P : Program} {TT : TypeId → Option TI} {nt : Nat} {o : Oper} {S : St} (hT : TOk P TT) (hn : dstOk nt o) : XOk P nt o S (opX P TT o S) := by
  intro K h
  unfold opX at h
  split at h
  · rename_i ho
    split at h <;> try exact h.elim
    rename_i d hd
    exact xMove_ok hd (hn d hd) (.inl ho) K h
  · rename_i ho
    split at h <;> try exact h.elim
    rename_i d hd
    exact xMove_ok hd (hn d hd) (.inr ho) K h
  · rename_i ho
    split at h <;> try exact h.elim
    rename_i d hd
    exact xBin_ok hT hd (hn d hd) ho K h
  · rename_i ho
    split at h <;> try exact h.elim
    rename_i d hd
    exact xLoad_ok hT hd (hn d hd) ho K h
  · rename_i ho
    split at h <;> try exact h.elim
    rename_i d hd
    exact xFieldAddr_ok hT hd (hn d hd) ho K h
  · rename_i ho
    split at h <;> try exact h.elim
    rename_i d hd
    exact xIndexAddr_ok hT hd (hn d hd) ho K h
  · rename_i ho
    split at h <;> try exact h.elim
    rename_i d hd
    split at h
    · exact xCall_ok hd (hn d hd) ho K h
    · exact xLen_ok hT hd (hn d hd) ho K h
    · split at h <;> try exact h.elim
      rename_i ht
      obtain rfl := Nat.eq_of_beq_eq_true ht
      exact xAppend_ok hT hd (hn d hd) ho K h
    · exact xMax_ok hd (hn d hd) ho K h
    · exact xMin_ok hd (hn d hd) ho K h
    · exact h.elim
  · rename_i ho
    split at h <;> try exact h.elim
    rename_i hd
    exact xStore_ok hT hd ho K h
  · rename_i ho
    split at h <;> try exact h.elim
    rename_i d hd
    exact xAlloc_ok hT hd (hn d hd) ho K h
  · rename_i ho
    split at h <;> try exact h.elim
    rename_i d hd
    exact xBox_ok hd (hn d hd) ho K h
  · rename_i ho
    split at h <;> try exact h.elim
    rename_i d hd
    exact xExtract_ok hd (hn d hd) ho K h
  · rename_i ho
    split at h <;> try exact h.elim
    rename_i d hd
    exact xBuild_ok hT hd (hn d hd) ho K h
  · rename_i ho
    split at h <;> try exact h.elim
    rename_i d hd
    exact xBuildSlice_ok hT hd (hn d hd) ho K h
  · rename_i ho
    split at h <;> try exact h.elim
    rename_i d hd
    exact xNot_ok hd (hn d hd) ho K h
  · rename_i ho
    split at h <;> try exact h.elim
    rename_i d hd
    exact xNilCheck_ok hd (hn d hd) ho K h
  · rename_i ho
    split at h <;> try exact h.elim
    rename_i d hd
    exact xConvert_ok hT hd (hn d hd) ho K h
  · rename_i ho
    split at h <;> try exact h.elim
    rename_i d hd
    exact xIndex_ok hT hd (hn d hd) ho K h
  · rename_i ho
    split at h <;> try exact h.elim
    rename_i d hd
    exact xField_ok hT hd (hn d hd) ho K h
  · rename_i ho
    split at h <;> try exact h.elim
    rename_i d hd
    exact xMakeFunc_ok hd (hn d hd) ho K h
  · rename_i ho
    split at h <;> try exact h.elim
    rename_i d hd
    exact xMakeSlice_ok hT hd (hn d hd) ho K h
  · rename_i ho
    split at h <;> try exact h.elim
    rename_i d hd
    exact xCut_ok hT hd (hn d hd) ho K h
  · exact h.elim
end Go.Av

/- Guards, regions and code: what is left to show ('cX'), and that it is enough ('AWP'). -/
namespace Go.Av

abbrev Kn := List (Nat × Bool)
def KnOk (kn : Kn) (S : St) : Prop := ∀ t g, look kn t = some g → look S.tm t = some (.bool g)
def SameSt (S S' : St) : Prop := look S'.tm = look S.tm ∧ S'.hp = S.hp ∧ S'.nx = S.nx
theorem SameSt.refl (S : St) : SameSt S S := ⟨rfl, rfl, rfl⟩

def St.know (S : St) (t : Nat) (g : Bool) : St := match S with
  | ⟨tm, hp, nx⟩ => ⟨(t, .bool g) :: tm, hp, nx⟩
theorem know_same {S : St} {t : Nat} {g : Bool} (h : look S.tm t = some (.bool g)) : SameSt S (S.know t g) := by
  refine ⟨?_, rfl, rfl⟩
  simp only [St.know, look_consT]
  funext t'
  unfold updT
  split
  · rename_i e; rw [e, h]
  · rfl
/-- What a slot with a bool says; where it isn't known, both are gone into. -/
def knX (S : St) (kn : Kn) (t : Nat) (K : Bool → St → Kn → Prop) : Prop :=
  match look kn t with
  | some true => K true S kn
  | some false => K false S kn
  | none => match look S.tm t with
    | some (.bool b) => match S with
      | ⟨tm, hp, nx⟩ => (b = true → K true ⟨(t, .bool true) :: tm, hp, nx⟩ ((t, true) :: kn)) ∧ (b = false → K false ⟨(t, .bool false) :: tm, hp, nx⟩ ((t, false) :: kn))
    | _ => False
theorem KnOk.same {kn : Kn} {S S' : St} (h : KnOk kn S) (hs : SameSt S S') : KnOk kn S' := fun t g hg => by rw [hs.1]; exact h t g hg
theorem KnOk.cons {kn : Kn} {S : St} {t : Nat} {g : Bool} (h : KnOk kn S) (ht : look S.tm t = some (.bool g)) : KnOk ((t, g) :: kn) S := by
  intro t' g' hg
  unfold look at hg
  cases hb : Nat.beq t t' with
  | true =>
    have := Nat.eq_of_beq_eq_true hb
    rw [hb] at hg
    obtain rfl := Option.some.inj hg
    rw [← this]; exact ht
  | false => rw [hb] at hg; exact h t' g' hg
theorem knX_ok {S : St} {kn : Kn} {t : Nat} {K : Bool → St → Kn → Prop} (hk : KnOk kn S) (h : knX S kn t K) : ∃ g S' kn', SameSt S S' ∧ KnOk kn' S' ∧ look S'.tm t = some (.bool g) ∧ K g S' kn' := by
  unfold knX at h
  split at h
  · rename_i hg; exact ⟨true, S, kn, .refl S, hk, hk t true hg, h⟩
  · rename_i hg; exact ⟨false, S, kn, .refl S, hk, hk t false hg, h⟩
  · split at h
    · rename_i b hb
      obtain ⟨tm, hp, nx⟩ := S
      cases b with
      | true => exact ⟨true, _, _, know_same hb, (hk.same (know_same hb)).cons (by rw [(know_same hb).1]; exact hb), by rw [(know_same hb).1]; exact hb, h.1 rfl⟩
      | false => exact ⟨false, _, _, know_same hb, (hk.same (know_same hb)).cons (by rw [(know_same hb).1]; exact hb), by rw [(know_same hb).1]; exact hb, h.2 rfl⟩
    · exact h.elim

def knDrop (kn : Kn) : Option Nat → Kn
  | none => kn
  | some d => drop kn d
  where drop : Kn → Nat → Kn
  | [], _ => []
  | p :: r, d => match Nat.beq p.1 d with
    | true => drop r d
    | false => p :: drop r d
theorem knDrop_look : ∀ (kn : Kn) (d t : Nat) (g : Bool), look (knDrop.drop kn d) t = some g → t ≠ d ∧ look kn t = some g
  | [], d, t, g, h => by simp [knDrop.drop, look] at h
  | p :: r, d, t, g, h => by
    unfold knDrop.drop at h
    cases hb : Nat.beq p.1 d with
    | true =>
      rw [hb] at h
      obtain ⟨h1, h2⟩ := knDrop_look r d t g h
      refine ⟨h1, ?_⟩
      unfold look
      have : Nat.beq p.1 t = false := by
        cases hc : Nat.beq p.1 t with
        | false => rfl
        | true => exact absurd ((Nat.eq_of_beq_eq_true hc).symm.trans (Nat.eq_of_beq_eq_true hb)) h1
      rw [this]; exact h2
    | false =>
      rw [hb] at h
      unfold look at h ⊢
      cases hc : Nat.beq p.1 t with
      | true =>
        rw [hc] at h
        refine ⟨fun e => ?_, h⟩
        have := Nat.eq_of_beq_eq_true hc
        rw [this, e, Nat.beq_refl] at hb; cases hb
      | false => rw [hc] at h; exact knDrop_look r d t g h

section
variable {P : Program} {TT : TypeId → Option TI} {nt : Nat}

def xPickK (S : St) (d : Nat) (g : Bool) (c : Nat) (x y : Operand) (K : Log → Prop) : Prop :=
  rdO S (bif g then x else y) fun z rt rh => K { rt := (c, .bool g) :: rt, rh := rh, wt := some (d, z) }
theorem xPickK_ok {S : St} {o : Oper} {d : Nat} {g : Bool} {c : Nat} {x y : Operand} (hd : o.dst = some d) (hn : d < nt) (ho : o.op = .pick (.tmp c) x y) (hc : look S.tm c = some (.bool g)) : XOk P nt o S (xPickK S d g c x y) := by
  intro K h
  obtain ⟨z, rt, rh, h1, h2, h⟩ := rdO_ok h
  refine ⟨_, stepOk_pick hd hn ho (.tmp c (.bool g) (List.mem_cons_self ..)) (h1.mono (fun _ h => List.mem_cons_of_mem _ h) (fun _ h => h)), ⟨fun p hp => ?_, h2.2⟩, by simp, by simp, h⟩
  rcases List.mem_cons.1 hp with rfl | hp
  · exact hc
  · exact h2.1 p hp

/-- An operation that is carried out. -/
def doX (P : Program) (TT : TypeId → Option TI) (o : Oper) (S : St) (kn : Kn) (K : Log → St → Kn → Prop) : Prop :=
  match o.op with
  | .pick (.tmp c) x y => match o.dst with
    | some d => knX S kn c fun g S' kn' => xPickK S' d g c x y fun L => K L S' kn'
    | none => False
  | _ => opX P TT o S fun L => K L S kn
theorem doX_ok (hT : TOk P TT) {o : Oper} (hn : dstOk nt o) {S : St} {kn : Kn} (hk : KnOk kn S) {K : Log → St → Kn → Prop} (h : doX P TT o S kn K) :
    ∃ L S' kn', StepOk P nt o L ∧ SameSt S S' ∧ KnOk kn' S' ∧ Rd S' L.rt L.rh ∧ L.nw.Nodup ∧ (∀ id ∈ L.nw, S'.nx ≤ id) ∧ K L S' kn' := by
  unfold doX at h
  split at h
  · rename_i c x y ho
    split at h <;> try exact h.elim
    rename_i d hd
    obtain ⟨g, S', kn', h1, h2, h3, h⟩ := knX_ok hk h
    obtain ⟨L, g1, g2, g3, g4, g5⟩ := xPickK_ok (P := P) hd (hn d hd) ho h3 _ h
    exact ⟨L, S', kn', g1, h1, h2, g2, g3, g4, g5⟩
  · obtain ⟨L, g1, g2, g3, g4, g5⟩ := opX_ok hT hn _ h
    exact ⟨L, S, kn, g1, .refl S, hk, g2, g3, g4, g5⟩

theorem opSem_true {ops : Array Oper} {o oj : Oper} {j t : Nat} {want : Bool} {L : Log} (hg : o.guard = some (j, want)) (hj : ops[j]? = some oj) (ht : oj.dst = some t) (h : StepOk P nt o L) : OpSem P nt ops o { L with rt := (t, .bool want) :: L.rt } := by
  intro C tm hp a w σ F hs hX h1 h2 h3 K Q hK
  obtain ⟨v, hv, hV⟩ := hX.tmp t _ (h1 (t, .bool want) (List.mem_cons_self ..))
  have hw : Region.wanted o (yielded ops a.tmps) = true := by
    have : yielded ops a.tmps j = some want := by
      simp only [yielded, hj, Option.bind_some, ht, hv]
      rw [hV.unbool]
    simp [Region.wanted, hg, this]
  rw [if_pos hw]
  exact h C tm hp a w σ F hs hX (fun p hp => h1 p (List.mem_cons_of_mem _ hp)) h2 h3 K Q hK

theorem opSem_skip {ops : Array Oper} {o oj : Oper} {j d t : Nat} {want : Bool} {y : AV} (hg : o.guard = some (j, want)) (hj : ops[j]? = some oj) (ht : oj.dst = some t) (hG : guardIs want y = some false) (hd : o.dst = some d) (hn : d < nt) :
    OpSem P nt ops o { rt := [(t, y)], wt := some (d, .opt false (.bool false)) } :=
  opSem_guard (x := .bool false) (W := []) hg hj ht (List.mem_singleton.2 rfl) hG hd hn (ghost_nil _) (fun h => by cases h)

def pushX : List (Nat × Blk) → List (Nat × Blk) → (List (Nat × Blk) → Prop) → Prop
  | [], l, K => K l
  | (id, b) :: r, l, K => forceB b fun b => pushX r ((id, b) :: l) K
theorem pushX_eq : ∀ (ws l : List (Nat × Blk)) (K : List (Nat × Blk) → Prop), pushX ws l K = K (pushAll ws l)
  | [], _, _ => rfl
  | (id, b) :: r, l, K => by rw [pushX, forceB_eq, pushX_eq r]; rfl
/-- The state behind an operation, told. -/
def afterX (S : St) (L : Log) (K : St → Prop) : Prop :=
  match S, L with
  | ⟨tm, hp, nx⟩, ⟨_, _, wt, wh, nw⟩ => forceNat (topNo nx nw) fun nx' => pushX wh hp fun hp' => match wt with
    | some (d, y) => K ⟨(d, y) :: tm, hp', nx'⟩
    | none => K ⟨tm, hp', nx'⟩
theorem afterX_eq (S : St) (L : Log) (K : St → Prop) : afterX S L K = K (S.after L) := by
  obtain ⟨tm, hp, nx⟩ := S
  obtain ⟨rt, rh, wt, wh, nw⟩ := L
  unfold afterX
  simp only [forceNat_eq, pushX_eq]
  cases wt <;> rfl
def wtKey (L : Log) : Option Nat := match L.wt with
  | some p => some p.1
  | none => none

def dropX : Kn → Nat → (Kn → Prop) → Prop
  | [], _, K => K []
  | (t, g) :: r, d, K => match Nat.beq t d with
    | true => dropX r d K
    | false => dropX r d fun s => K ((t, g) :: s)
theorem dropX_eq : ∀ (kn : Kn) (d : Nat) (K : Kn → Prop), dropX kn d K = K (knDrop.drop kn d)
  | [], _, _ => rfl
  | (t, g) :: r, d, K => by
    unfold dropX knDrop.drop
    cases hb : Nat.beq t d with
    | true => simp only [dropX_eq r]
    | false => simp only [dropX_eq r]
def knX' (kn : Kn) (d : Option Nat) (K : Kn → Prop) : Prop := match d with
  | none => K kn
  | some d => dropX kn d K
theorem knX'_eq (kn : Kn) (d : Option Nat) (K : Kn → Prop) : knX' kn d K = K (knDrop kn d) := by
  cases d with
  | none => rfl
  | some d => exact dropX_eq kn d K

/-- One operation of a region, its guard gone into. Ls: the logs so far, the last one first. -/
def opStep (P : Program) (TT : TypeId → Option TI) (all : List Oper) (o : Oper) (kn : Kn) (S : St) (Ls : List Log) (K : Kn → St → List Log → Prop) : Prop :=
  match o.guard with
  | none => doX P TT o S kn fun L S' kn' => afterX S' L fun S9 => knX' kn' (wtKey L) fun kn9 => K kn9 S9 (L :: Ls)
  | some (j, want) => match nthA all j with
    | some oj => match oj.dst with
      | some t => match look S.tm t with
        | some (.opt false y) => match y with
          | .bool _ => match o.dst with
            | some d => afterX S { rt := [(t, .opt false y)], wt := some (d, .opt false (.bool false)) } fun S9 => knX' kn (some d) fun kn9 => K kn9 S9 ({ rt := [(t, .opt false y)], wt := some (d, .opt false (.bool false)) } :: Ls)
            | none => False
          | _ => False
        | _ => knX S kn t fun g S' kn' => match g, want with
          | true, true => doX P TT o S' kn' fun L S2 kn2 => afterX S2 { L with rt := (t, .bool true) :: L.rt } fun S9 => knX' kn2 (wtKey L) fun kn9 => K kn9 S9 ({ L with rt := (t, .bool true) :: L.rt } :: Ls)
          | false, false => doX P TT o S' kn' fun L S2 kn2 => afterX S2 { L with rt := (t, .bool false) :: L.rt } fun S9 => knX' kn2 (wtKey L) fun kn9 => K kn9 S9 ({ L with rt := (t, .bool false) :: L.rt } :: Ls)
          | true, false => match o.dst with
            | some d => afterX S' { rt := [(t, .bool true)], wt := some (d, .opt false (.bool false)) } fun S9 => knX' kn' (some d) fun kn9 => K kn9 S9 ({ rt := [(t, .bool true)], wt := some (d, .opt false (.bool false)) } :: Ls)
            | none => False
          | false, true => match o.dst with
            | some d => afterX S' { rt := [(t, .bool false)], wt := some (d, .opt false (.bool false)) } fun S9 => knX' kn' (some d) fun kn9 => K kn9 S9 ({ rt := [(t, .bool false)], wt := some (d, .opt false (.bool false)) } :: Ls)
            | none => False
      | none => False
    | none => False

theorem KnOk.after {kn : Kn} {S : St} (hk : KnOk kn S) {L : Log} {d : Option Nat} (hd : ∀ t x, L.wt = some (t, x) → d = some t) : KnOk (knDrop kn d) (S.after L) := by
  intro t g hg
  rw [St.after_tm]
  have key : (∀ t' x, L.wt = some (t', x) → t ≠ t') ∧ look kn t = some g := by
    cases d with
    | none =>
      refine ⟨fun t' x h => ?_, hg⟩
      have := hd t' x h; cases this
    | some d =>
      obtain ⟨h1, h2⟩ := knDrop_look kn d t g hg
      refine ⟨fun t' x h => ?_, h2⟩
      have := hd t' x h
      cases this; exact h1
  cases hw : L.wt with
  | none => exact hk t g key.2
  | some p =>
    simp only [updO, updT]
    rw [if_neg (key.1 p.1 p.2 hw)]
    exact hk t g key.2

/-- What is known of a run through operations. -/
structure Ran (P : Program) (nt : Nat) (ops : Array Oper) (r : List Oper) (S : St) (Ls : List Log) (S' : St) : Prop where
  chain : Chain P nt ops r Ls (look S.tm) (look S.hp) (look S'.tm) (look S'.hp)
  nd : (Ls.flatMap (·.nw)).Nodup
  new : ∀ id ∈ Ls.flatMap (·.nw), S.nx ≤ id ∧ id < S'.nx
  le : S.nx ≤ S'.nx

theorem Ran.cons {ops : Array Oper} {o : Oper} {r : List Oper} {S S1 S' : St} {L : Log} {Ls : List Log} (hs : SameSt S S1) (h : OpSem P nt ops o L) (hr : Rd S1 L.rt L.rh) (hn : L.nw.Nodup) (hnx : ∀ id ∈ L.nw, S1.nx ≤ id) (t : Ran P nt ops r (S1.after L) Ls S') : Ran P nt ops (o :: r) S (L :: Ls) S' := by
  have ht : (S1.after L).nx = topNo S1.nx L.nw := rfl
  obtain ⟨k1, k2⟩ := topNo_le L.nw S1.nx
  have hle := t.le
  rw [ht] at hle
  refine ⟨.cons h (fun p hp => by rw [← hs.1]; exact hr.1 p hp) (fun p hp => by rw [← hs.2.1]; exact hr.2 p hp) ?_, ?_, ?_, ?_⟩
  · have := t.chain
    rw [St.after_tm, St.after_hp, hs.1, hs.2.1] at this
    exact this
  · rw [List.flatMap_cons, List.nodup_append]
    refine ⟨hn, t.nd, fun a ha b hb e => ?_⟩
    have h1 := k2 a ha
    have h2 := (t.new b hb).1
    rw [ht] at h2
    omega
  · intro id hid
    rw [List.flatMap_cons, List.mem_append] at hid
    rw [← hs.2.2]
    rcases hid with hid | hid
    · exact ⟨hnx id hid, Nat.lt_of_lt_of_le (k2 id hid) hle⟩
    · have := t.new id hid
      rw [ht] at this
      exact ⟨Nat.le_trans k1 this.1, this.2⟩
  · rw [← hs.2.2]; exact Nat.le_trans k1 hle

theorem knAfter {kn : Kn} {S : St} (hk : KnOk kn S) (L : Log) : KnOk (knDrop kn (wtKey L)) (S.after L) :=
  hk.after fun t x h => by simp [wtKey, h]
theorem knAfter2 {kn : Kn} {S : St} (hk : KnOk kn S) (L : Log) (rt : List (Nat × AV)) : KnOk (knDrop kn (wtKey L)) (S.after { L with rt := rt }) :=
  hk.after fun t x h => by simp only [wtKey]; rw [show L.wt = some (t, x) from h]

/-- The operations that are left of a region lead to what is told. -/
structure OpsOk (P : Program) (nt : Nat) (ops : Array Oper) (r : List Oper) (kn : Kn) (S : St) (Ls : List Log) (K : List Log → St → Prop) : Prop where
  run : (∀ o ∈ r, dstOk nt o) → KnOk kn S → ∃ Ls' S', Ran P nt ops r S Ls' S' ∧ K (Ls'.reverse ++ Ls) S'
theorem ops_nil {ops : Array Oper} {kn : Kn} {S : St} {Ls : List Log} {K : List Log → St → Prop} (h : K Ls S) : OpsOk P nt ops [] kn S Ls K :=
  ⟨fun _ _ => ⟨[], S, ⟨.nil, by simp, by simp, Nat.le_refl _⟩, h⟩⟩
theorem ops_cons (hT : TOk P TT) {ops : Array Oper} {o : Oper} {r : List Oper} {kn : Kn} {S : St} {Ls : List Log} {K : List Log → St → Prop} (h : opStep P TT ops.toList o kn S Ls fun kn' S' Ls' => OpsOk P nt ops r kn' S' Ls' K) : OpsOk P nt ops (o :: r) kn S Ls K := by
  refine ⟨fun hn hk => ?_⟩
  have hno := hn o (by simp)
  have hnr : ∀ o ∈ r, dstOk nt o := fun o ho => hn o (by simp [ho])
  unfold opStep at h
  split at h
  · rename_i hg
    obtain ⟨L, S', kn', h1, h2, h3, h4, h5, h6, h⟩ := doX_ok hT hno hk h
    rw [afterX_eq, knX'_eq] at h
    obtain ⟨Ls', S2, h7, h⟩ := h.run hnr (knAfter h3 L)
    exact ⟨L :: Ls', S2, h7.cons h2 (opSem_plain hg h1) h4 h5 h6, by simpa using h⟩
  · rename_i j want hg
    split at h <;> try exact h.elim
    rename_i oj hj
    rw [nthA_eq] at hj
    have hj : ops[j]? = some oj := by simpa using hj
    split at h <;> try exact h.elim
    rename_i t ht
    split at h
    · rename_i y hy
      split at h <;> try exact h.elim
      rename_i b
      split at h <;> try exact h.elim
      rename_i d hd
      rw [afterX_eq, knX'_eq] at h
      obtain ⟨Ls', S2, h7, h⟩ := h.run hnr (hk.after fun t' x h => by simp at h; simp [h])
      exact ⟨_ :: Ls', S2, h7.cons (.refl S) (opSem_skip hg hj ht (by simp [guardIs]) hd (hno d hd)) ⟨by simpa using hy, by simp⟩ (by simp) (by simp), by simpa using h⟩
    · obtain ⟨g, S', kn', h1, h2, h3, h⟩ := knX_ok hk h
      split at h
      · obtain ⟨L, S2, kn2, g1, g2, g3, g4, g5, g6, h⟩ := doX_ok hT hno h2 h
        rw [afterX_eq, knX'_eq] at h
        obtain ⟨Ls', S3, h7, h⟩ := h.run hnr (knAfter2 g3 L _)
        refine ⟨_ :: Ls', S3, h7.cons ⟨g2.1.trans h1.1, g2.2.1.trans h1.2.1, g2.2.2.trans h1.2.2⟩ (opSem_true hg hj ht g1) ⟨fun p hp => ?_, g4.2⟩ g5 g6, by simpa using h⟩
        rcases List.mem_cons.1 hp with rfl | hp
        · rw [g2.1]; exact h3
        · exact g4.1 p hp
      · obtain ⟨L, S2, kn2, g1, g2, g3, g4, g5, g6, h⟩ := doX_ok hT hno h2 h
        rw [afterX_eq, knX'_eq] at h
        obtain ⟨Ls', S3, h7, h⟩ := h.run hnr (knAfter2 g3 L _)
        refine ⟨_ :: Ls', S3, h7.cons ⟨g2.1.trans h1.1, g2.2.1.trans h1.2.1, g2.2.2.trans h1.2.2⟩ (opSem_true hg hj ht g1) ⟨fun p hp => ?_, g4.2⟩ g5 g6, by simpa using h⟩
        rcases List.mem_cons.1 hp with rfl | hp
        · rw [g2.1]; exact h3
        · exact g4.1 p hp
      · split at h <;> try exact h.elim
        rename_i d hd
        rw [afterX_eq, knX'_eq] at h
        obtain ⟨Ls', S2, h7, h⟩ := h.run hnr (h2.after fun t' x h => by simp at h; simp [h])
        exact ⟨_ :: Ls', S2, h7.cons h1 (opSem_skip hg hj ht (by simp [guardIs]) hd (hno d hd)) ⟨by simpa using h3, by simp⟩ (by simp) (by simp), by simpa using h⟩
      · split at h <;> try exact h.elim
        rename_i d hd
        rw [afterX_eq, knX'_eq] at h
        obtain ⟨Ls', S2, h7, h⟩ := h.run hnr (h2.after fun t' x h => by simp at h; simp [h])
        exact ⟨_ :: Ls', S2, h7.cons h1 (opSem_skip hg hj ht (by simp [guardIs]) hd (hno d hd)) ⟨by simpa using h3, by simp⟩ (by simp) (by simp), by simpa using h⟩

/-- A piece of code leads from what is told to what is told; the first k blocks keep their places. -/
structure AWP (P : Program) (nt k : Nat) (c : Code) (S : St) (Q : Exit → St → Prop) : Prop where
  run : ∀ (C : Ctx) (a : Act) (w : World) (σ : Sig) (F : Nat → Prop), k ≤ S.nx → a.tmps.size = nt → Sim C S a w σ F → c.wp P (fun e a' w' => ∃ S' σ' F', Q e S' ∧ k ≤ S'.nx ∧ a'.tmps.size = nt ∧ Sim C S' a' w' σ' F' ∧ ∀ id, id < k → σ' id = σ id) a w

def dstsB (nt : Nat) : List Oper → Bool
  | [] => true
  | o :: r => match o.dst with
    | some d => match Nat.ble (d + 1) nt with
      | true => dstsB nt r
      | false => false
    | none => dstsB nt r
theorem dstsB_ok : ∀ {l : List Oper}, dstsB nt l = true → ∀ o ∈ l, dstOk nt o
  | [], _, o, h => by cases h
  | x :: r, h, o, ho => by
    unfold dstsB at h
    split at h
    · rename_i d hd
      split at h
      · rename_i hb
        rcases List.mem_cons.1 ho with rfl | ho
        · intro d' hd'
          rw [hd] at hd'
          obtain rfl := Option.some.inj hd'
          exact Nat.le_of_ble_eq_true hb
        · exact dstsB_ok h o ho
      · cases h
    · rename_i hd
      rcases List.mem_cons.1 ho with rfl | ho
      · intro d' hd'; rw [hd] at hd'; cases hd'
      · exact dstsB_ok h o ho

theorem awp_region (hm : P.follows .mixedOrders = true) {k id : Nat} {ops : Array Oper} {d : Bool} {S : St} {Q : Exit → St → Prop} (hn : dstsB nt ops.toList = true)
    (h : OpsOk P nt ops ops.toList [] S [] fun Ls S' => (d = false ∨ ordOk ops.toList Ls.reverse = true) ∧ Q .normal S') : AWP P nt k (.region id ops d) S Q := by
  refine ⟨fun C a w σ F hk hs hX => ?_⟩
  obtain ⟨Ls, S', hR, ho, hq⟩ := h.run (dstsB_ok hn) (fun t g h => by simp [look] at h)
  refine region_ok hm hR.chain (by simpa using ho) hR.nd hs hX.1 (fun id hid => hX.2 id (hR.new id hid).1) fun a' w' σ' F' h1 h2 h3 => ?_
  refine ⟨S', σ', F', hq, Nat.le_trans hk hR.le, h1, ⟨h2, fun id hid => ?_⟩, fun id hid => h3 id fun hm => ?_⟩
  · rw [h3 id (fun hm => by have := (hR.new id hm).2; omega)]
    exact hX.2 id (Nat.le_trans hR.le hid)
  · have := (hR.new id hm).1; omega
end
end Go.Av

/- Code: sequences, tests, blocks, loops; a function by its body. -/
namespace Go.Av

section
variable {P : Program} {TT : TypeId → Option TI} {nt k : Nat}

theorem AWP.mono {c : Code} {S : St} {Q Q' : Exit → St → Prop} (h : AWP P nt k c S Q) (hq : ∀ e S, Q e S → Q' e S) : AWP P nt k c S Q' := by
  refine ⟨fun C a w σ F hk hs hX => ?_⟩
  refine wp_mono (h.run C a w σ F hk hs hX) ?_
  rintro e a' w' ⟨S', σ', F', h1, h2⟩
  exact ⟨S', σ', F', hq _ _ h1, h2⟩

/-- The next piece follows where the last one ends as it should. -/
def seqQ (P : Program) (nt k : Nat) (y : Code) (Q : Exit → St → Prop) : Exit → St → Prop
  | .normal, S => AWP P nt k y S Q
  | e, S => Q e S
theorem awp_seq {x y : Code} {S : St} {Q : Exit → St → Prop} (h : AWP P nt k x S (seqQ P nt k y Q)) : AWP P nt k (.seq x y) S Q := by
  refine ⟨fun C a w σ F hk hs hX => ?_⟩
  refine wp_seq (wp_mono (h.run C a w σ F hk hs hX) ?_)
  rintro e a' w' ⟨S', σ', F', h1, h2, h3, h4, h5⟩
  cases e with
  | normal =>
    refine wp_mono (h1.run C a' w' σ' F' h2 h3 h4) ?_
    rintro e a2 w2 ⟨S2, σ2, F2, g1, g2, g3, g4, g5⟩
    exact ⟨S2, σ2, F2, g1, g2, g3, g4, fun id hid => (g5 id hid).trans (h5 id hid)⟩
  | _ => exact ⟨S', σ', F', h1, h2, h3, h4, h5⟩

theorem awp_cond {t : Nat} {b : Bool} {x y : Code} {S : St} {Q : Exit → St → Prop} (hc : look S.tm t = some (.bool b)) (h1 : b = true → AWP P nt k x S Q) (h2 : b = false → AWP P nt k y S Q) : AWP P nt k (.cond (.tmp t) x y) S Q := by
  refine ⟨fun C a w σ F hk hs hX => ?_⟩
  obtain ⟨v, hv, hV⟩ := hX.1.tmp t _ hc
  refine wp_cond (t := b) (by simp [Act.eval, hv, hV.unbool]) ?_
  cases b with
  | true => exact (h1 rfl).run C a w σ F hk hs hX
  | false => exact (h2 rfl).run C a w σ F hk hs hX

def blockQ (id : Nat) (Q : Exit → St → Prop) : Exit → St → Prop
  | .exit j, S => match Nat.beq j id with
    | true => Q .normal S
    | false => Q (.exit j) S
  | e, S => Q e S
theorem awp_block {id : Nat} {c : Code} {S : St} {Q : Exit → St → Prop} (h : AWP P nt k c S (blockQ id Q)) : AWP P nt k (.block id c) S Q := by
  refine ⟨fun C a w σ F hk hs hX => ?_⟩
  refine wp_block (wp_mono (h.run C a w σ F hk hs hX) ?_)
  rintro e a' w' ⟨S', σ', F', h1, h2⟩
  cases e with
  | exit j =>
    simp only [blockQ] at h1
    simp only [Exit.inBlock]
    split at h1
    · rename_i hb
      rw [if_pos (Nat.eq_of_beq_eq_true hb)]
      exact ⟨S', σ', F', h1, h2⟩
    · rename_i hb
      rw [if_neg (fun e => by rw [e, Nat.beq_refl] at hb; cases hb)]
      exact ⟨S', σ', F', h1, h2⟩
  | _ => exact ⟨S', σ', F', h1, h2⟩

theorem awp_skip {S : St} {Q : Exit → St → Prop} (h : Q .normal S) : AWP P nt k .skip S Q := ⟨fun C a w σ F hk hs hX => wp_skip ⟨S, σ, F, h, hk, hs, hX, fun _ _ => rfl⟩⟩
theorem awp_label {l : Nat} {S : St} {Q : Exit → St → Prop} (h : Q .normal S) : AWP P nt k (.label l) S Q := ⟨fun C a w σ F hk hs hX => wp_label ⟨S, σ, F, h, hk, hs, hX, fun _ _ => rfl⟩⟩
theorem awp_exit {id : Nat} {S : St} {Q : Exit → St → Prop} (h : Q (.exit id) S) : AWP P nt k (.exit id) S Q := ⟨fun C a w σ F hk hs hX => wp_exit ⟨S, σ, F, h, hk, hs, hX, fun _ _ => rfl⟩⟩
theorem awp_ret {S : St} {Q : Exit → St → Prop} (h : Q .ret S) : AWP P nt k .ret S Q := ⟨fun C a w σ F hk hs hX => wp_ret ⟨S, σ, F, h, hk, hs, hX, fun _ _ => rfl⟩⟩

/-- The less is told by the more; the first k blocks keep their places. -/
structure Le (k : Nat) (S1 S2 : St) : Prop where
  run : ∀ (C : Ctx) (a : Act) (w : World) (σ : Sig) (F : Nat → Prop), k ≤ S2.nx → Sim C S2 a w σ F → k ≤ S1.nx ∧ ∃ σ' F', Sim C S1 a w σ' F' ∧ ∀ id, id < k → σ' id = σ id
theorem Le.trans {S1 S2 S3 : St} (h : Le k S1 S2) (h' : Le k S2 S3) : Le k S1 S3 := by
  refine ⟨fun C a w σ F hk hX => ?_⟩
  obtain ⟨h1, σ1, F1, h2, h3⟩ := h'.run C a w σ F hk hX
  obtain ⟨g1, σ2, F2, g2, g3⟩ := h.run C a w σ1 F1 h1 h2
  exact ⟨g1, σ2, F2, g2, fun id hid => (g3 id hid).trans (h3 id hid)⟩
theorem awp_le {c : Code} {S1 S2 : St} {Q : Exit → St → Prop} (hl : Le k S1 S2) (h : AWP P nt k c S1 Q) : AWP P nt k c S2 Q := by
  refine ⟨fun C a w σ F hk hs hX => ?_⟩
  obtain ⟨h1, σ', F', h2, h3⟩ := hl.run C a w σ F hk hX
  refine wp_mono (h.run C a w σ' F' h1 hs h2) ?_
  rintro e a2 w2 ⟨S2, σ2, F2, g1, g2, g3, g4, g5⟩
  exact ⟨S2, σ2, F2, g1, g2, g3, g4, fun id hid => (g5 id hid).trans (h3 id hid)⟩

theorem least_ex {p : Nat → Prop} (h : ∃ n, p n) : ∃ m, p m ∧ ∀ j, p j → m ≤ j := by
  obtain ⟨n, hn⟩ := h
  induction n using Nat.strongRecOn with
  | _ n ih =>
    by_cases hl : ∃ j, j < n ∧ p j
    · obtain ⟨j, h1, h2⟩ := hl
      exact ih j h1 h2
    · exact ⟨n, hn, fun j hj => Nat.le_of_not_lt fun h => hl ⟨j, h, hj⟩⟩
open Classical in
noncomputable def leastN (p : Nat → Prop) : Nat := if h : ∃ n, p n then (least_ex h).choose else 0
theorem leastN_mem {p : Nat → Prop} (h : ∃ n, p n) : p (leastN p) := by
  unfold leastN; rw [dif_pos h]; exact (least_ex h).choose_spec.1
theorem leastN_le {p : Nat → Prop} {j : Nat} (h : p j) : leastN p ≤ j := by
  unfold leastN; rw [dif_pos ⟨j, h⟩]; exact (least_ex ⟨j, h⟩).choose_spec.2 j h

/-- A round of a loop. -/
def roundQ {α : Type} (k : Nat) (st : α → St) (I : α → Prop) (μ : α → Nat) (x : α) (Q : Exit → St → Prop) : Exit → St → Prop
  | .normal, S => ∃ y, I y ∧ μ y < μ x ∧ Le k (st y) S
  | e, S => Q e S
theorem awp_loop {α : Type} (st : α → St) (I : α → Prop) (μ : α → Nat) (x0 : α) (h0 : I x0) {c : Code} {S : St} {Q : Exit → St → Prop} (hl : Le k (st x0) S) (round : ∀ x, I x → AWP P nt k c (st x) (roundQ k st I μ x Q)) : AWP P nt k (.loop c) S Q := by
  refine awp_le hl ?_
  refine ⟨fun C a w σ F hk hs hX => ?_⟩
  let Inv : α → Act → World → Prop := fun x a w => I x ∧ k ≤ (st x).nx ∧ a.tmps.size = nt ∧ ∃ σ' F', Sim C (st x) a w σ' F' ∧ ∀ id, id < k → σ' id = σ id
  refine wp_loop (fun a w => ∃ m x, μ x = m ∧ Inv x a w) (fun a w => leastN fun m => ∃ x, μ x = m ∧ Inv x a w) ⟨_, x0, rfl, h0, hk, hs, σ, F, hX, fun _ _ => rfl⟩ ?_
  intro a w hex
  obtain ⟨x, hm, hI1, hI2, hI3, σ1, F1, hI4, hI5⟩ := leastN_mem hex
  refine wp_mono ((round x hI1).run C a w σ1 F1 hI2 hI3 hI4) ?_
  rintro e a' w' ⟨S', σ', F', h1, h2, h3, h4, h5⟩
  cases e with
  | normal =>
    obtain ⟨y, hy1, hy2, hy3⟩ := h1
    obtain ⟨g1, σ2, F2, g2, g3⟩ := hy3.run C a' w' σ' F' h2 h4
    have hInv : Inv y a' w' := ⟨hy1, g1, h3, σ2, F2, g2, fun id hid => (g3 id hid).trans ((h5 id hid).trans (hI5 id hid))⟩
    refine ⟨⟨_, y, rfl, hInv⟩, ?_⟩
    rw [← hm]
    exact Nat.lt_of_le_of_lt (leastN_le ⟨y, rfl, hInv⟩) hy2
  | _ => exact ⟨S', σ', F', h1, h2, h3, h4, fun id hid => (h5 id hid).trans (hI5 id hid)⟩
end
end Go.Av

/- Code, carried out as told ('cX'); states by fewer words ('Le'); a function's contract by its body. -/
namespace Go.Av

def thenQ (K : St → Prop) (Q : Exit → St → Prop) : Exit → St → Prop
  | .normal, S => K S
  | .exit id, S => Q (.exit id) S
  | .goto l, S => Q (.goto l) S
  | .ret, S => Q .ret S
  | .panic ch, S => Q (.panic ch) S
  | .outgrown, S => Q .outgrown S
def endOps (all : List Oper) (d : Bool) (Q : Exit → St → Prop) (Ls : List Log) (S : St) : Prop :=
  match d with
  | true => ordOk all Ls.reverse = true ∧ Q .normal S
  | false => Q .normal S
/-- What is to be shown: of a piece of code, of the operations that are left of a region. -/
inductive G where
  | code (nt k : Nat) (c : Code) (S : St) (Q : Exit → St → Prop)
  | ops (nt : Nat) (ops : Array Oper) (r : List Oper) (kn : Kn) (S : St) (Ls : List Log) (K : List Log → St → Prop)
def G.holds (P : Program) : G → Prop
  | .code nt k c S Q => AWP P nt k c S Q
  | .ops nt os r kn S Ls K => OpsOk P nt os r kn S Ls K
structure Den (P : Program) (g : G) : Prop where
  run : g.holds P
/-- One step further. -/
def step1 (P : Program) (TT : TypeId → Option TI) (g : G) : Prop :=
  match g with
  | .code nt k c S Q => match c with
    | .skip => Q .normal S
    | .label _ => Q .normal S
    | .exit id => Q (.exit id) S
    | .ret => Q .ret S
    | .seq x y => Den P (.code nt k x S (thenQ (fun S' => Den P (.code nt k y S' Q)) Q))
    | .cond c x y => match c with
      | .tmp t => match look S.tm t with
        | some (.bool b) => (b = true → Den P (.code nt k x S Q)) ∧ (b = false → Den P (.code nt k y S Q))
        | _ => False
      | _ => False
    | .block id c => Den P (.code nt k c S (blockQ id Q))
    | .region _ ops d => match dstsB nt ops.toList with
      | true => Den P (.ops nt ops ops.toList [] S [] (endOps ops.toList d Q))
      | false => False
    | c => AWP P nt k c S Q
  | .ops nt ops r kn S Ls K => match r with
    | [] => K Ls S
    | o :: r => opStep P TT ops.toList o kn S Ls fun kn' S' Ls' => Den P (.ops nt ops r kn' S' Ls' K)

section
variable {P : Program} {TT : TypeId → Option TI} {nt k : Nat}

theorem step1_ok (hT : TOk P TT) (hm : P.follows .mixedOrders = true) {g : G} (h : step1 P TT g) : Den P g := by
  unfold step1 at h
  split at h
  · refine ⟨?_⟩
    simp only [G.holds]
    split at h
    · exact awp_skip h
    · exact awp_label h
    · exact awp_exit h
    · exact awp_ret h
    · refine awp_seq (AWP.mono h.run ?_)
      intro e S' h
      cases e with
      | normal => exact Den.run h
      | _ => exact h
    · split at h <;> try exact h.elim
      split at h <;> try exact h.elim
      rename_i b hb
      exact awp_cond hb (fun e => (h.1 e).run) (fun e => (h.2 e).run)
    · exact awp_block h.run
    · split at h <;> try exact h.elim
      rename_i ops d _ hd
      refine awp_region hm hd ?_
      have h2 : OpsOk P _ ops ops.toList [] _ [] _ := h.run
      cases d with
      | true =>
        refine cast (congrArg _ ?_) h2
        funext Ls S'
        simp [endOps]
      | false =>
        refine cast (congrArg _ ?_) h2
        funext Ls S'
        simp [endOps]
    · exact h
  · refine ⟨?_⟩
    simp only [G.holds]
    split at h
    · exact ops_nil h
    · refine ops_cons hT ?_
      have e : ∀ kn S Ls nt ops r K, Den P (.ops nt ops r kn S Ls K) = OpsOk P nt ops r kn S Ls K := fun kn S Ls nt ops r K => propext ⟨fun h => h.run, fun h => ⟨h⟩⟩
      simp only [e] at h
      exact h

/-- Slots by fewer words: each is told by what stands there. -/
def leT (S2 : St) (ms : List Nat) : List (Nat × AV) → Prop
  | [] => True
  | (t, x) :: r => (match look S2.tm t with
    | some y => thaw (fzIds S2.hp (idsA y)) y = x.ren (fun i => ms.getD i S2.nx)
    | none => False) ∧ leT S2 ms r
/-- Blocks by fewer words. -/
def leH (S2 : St) (ms : List Nat) : Nat → List Blk → Prop
  | _, [] => True
  | i, b :: r => (match ms[i]? with
    | some m => match look S2.hp m with
      | some b' => b' = b.ren (fun i => ms.getD i S2.nx)
      | none => False
    | none => False) ∧ leH S2 ms (i + 1) r

def numB : Nat → List Blk → List (Nat × Blk)
  | _, [] => []
  | i, b :: r => (i, b) :: numB (i + 1) r
theorem look_numB : ∀ (M : List Blk) (n i : Nat), look (numB n M) i = if i < n then none else M[i - n]?
  | [], n, i => by simp [numB, look]
  | b :: r, n, i => by
    unfold numB look
    cases hb : Nat.beq n i with
    | true =>
      have := Nat.eq_of_beq_eq_true hb
      subst this
      simp
    | false =>
      have hne : n ≠ i := fun e => by rw [e, Nat.beq_refl] at hb; cases hb
      rw [cond_false, look_numB r (n + 1) i]
      by_cases h : i < n
      · rw [if_pos (by omega), if_pos h]
      · rw [if_neg (by omega), if_neg h, show i - n = (i - (n + 1)) + 1 by omega, List.getElem?_cons_succ]
/-- A state that is told by a list of slots and a list of blocks. -/
def mkSt (tm : List (Nat × AV)) (M : List Blk) : St := ⟨tm, numB 0 M, M.length⟩

def headOk (k : Nat) : Nat → List Nat → Bool
  | i, [] => Nat.ble k i
  | i, m :: r => match Nat.ble k i with
    | true => true
    | false => match Nat.beq m i with
      | true => headOk k (i + 1) r
      | false => false
theorem headOk_ok : ∀ (ms : List Nat) (i : Nat), headOk k i ms = true → ∀ j, i ≤ j → j < k → ms[j - i]? = some j
  | [], i, h, j, h1, h2 => by have := Nat.le_of_ble_eq_true h; omega
  | m :: r, i, h, j, h1, h2 => by
    unfold headOk at h
    split at h
    · rename_i hb; have := Nat.le_of_ble_eq_true hb; omega
    · split at h
      · rename_i hm
        have := Nat.eq_of_beq_eq_true hm
        subst this
        by_cases hj : j = m
        · subst hj; simp
        · have := headOk_ok r (m + 1) h j (by omega) h2
          rw [show j - m = (j - (m + 1)) + 1 by omega, List.getElem?_cons_succ]
          exact this
      · cases h
def distinct : List Nat → Bool
  | [] => true
  | x :: r => match hasN x r with
    | true => false
    | false => distinct r
theorem distinct_ok : ∀ {l : List Nat}, distinct l = true → l.Nodup
  | [], _ => by simp
  | x :: r, h => by
    unfold distinct at h
    split at h
    · cases h
    · rename_i hx
      exact List.nodup_cons.2 ⟨fun hm => (by rw [(hasN_eq x r).2 hm] at hx; cases hx), distinct_ok h⟩

theorem leT_get {S2 : St} {ms : List Nat} : ∀ {tm : List (Nat × AV)}, leT S2 ms tm → ∀ t x, look tm t = some x → ∃ y, look S2.tm t = some y ∧ thaw (fzIds S2.hp (idsA y)) y = x.ren (fun i => ms.getD i S2.nx)
  | [], _, t, x, h => by simp [look] at h
  | (t', x') :: r, h, t, x, hx => by
    unfold look at hx
    have h : _ ∧ _ := h
    cases hb : Nat.beq t' t with
    | true =>
      rw [hb] at hx
      obtain rfl := Option.some.inj hx
      have := Nat.eq_of_beq_eq_true hb
      subst this
      have h1 := h.1
      split at h1
      · rename_i y hy; exact ⟨y, hy, h1⟩
      · exact h1.elim
    | false => rw [hb] at hx; exact leT_get h.2 t x hx
theorem leH_get {S2 : St} {ms : List Nat} : ∀ {M : List Blk} {n : Nat}, leH S2 ms n M → ∀ (i : Nat) (b : Blk), M[i]? = some b → ∃ m, ms[n + i]? = some m ∧ look S2.hp m = some (b.ren (fun i => ms.getD i S2.nx))
  | [], n, _, i, b, h => by simp at h
  | c :: r, n, h, i, b, hb => by
    have h : _ ∧ _ := h
    cases i with
    | zero =>
      simp at hb
      subst hb
      have h1 := h.1
      split at h1 <;> try exact h1.elim
      rename_i m hm
      split at h1 <;> try exact h1.elim
      rename_i b' hb'
      exact ⟨m, hm, by rw [hb', h1]⟩
    | succ i =>
      obtain ⟨m, h1, h2⟩ := leH_get h.2 i b (by simpa using hb)
      exact ⟨m, by rw [show n + (i + 1) = n + 1 + i by omega]; exact h1, h2⟩

theorem le_of {tm : List (Nat × AV)} {M : List Blk} {S2 : St} (ms : List Nat) (hl : Nat.beq ms.length M.length = true) (hd : distinct ms = true) (hh : headOk k 0 ms = true) (ht : leT S2 ms tm) (hb : leH S2 ms 0 M) : Le k (mkSt tm M) S2 := by
  refine ⟨fun C a w σ F hk hX => ?_⟩
  have hl := Nat.eq_of_beq_eq_true hl
  have hnd := distinct_ok hd
  have hhead : ∀ j, j < k → ms[j]? = some j := fun j hj => by simpa using headOk_ok ms 0 hh j (Nat.zero_le _) hj
  have hkM : k ≤ M.length := by
    rcases Nat.lt_or_ge M.length k with h | h
    · have := hhead M.length h
      rw [List.getElem?_eq_none (by omega)] at this; cases this
    · exact h
  let σ' : Sig := fun i => if i < M.length then σ (ms.getD i S2.nx) else none
  have hin : ∀ id, id < M.length → ms[id]? = some (ms.getD id S2.nx) := fun id hi => by
    rw [List.getD_eq_getElem?_getD, List.getElem?_eq_getElem (by omega)]; rfl
  have hσ : ∀ id u, σ (ms.getD id S2.nx) = some u → σ' id = some u := by
    intro id u h
    by_cases hi : id < M.length
    · simp only [σ', if_pos hi]; exact h
    · have : ms.getD id S2.nx = S2.nx := by rw [List.getD_eq_getElem?_getD, List.getElem?_eq_none (by omega)]; rfl
      rw [this, hX.2 S2.nx (Nat.le_refl _)] at h; cases h
  have hs' : ∀ id u, σ' id = some u → id < M.length ∧ σ (ms.getD id S2.nx) = some u := by
    intro id u h
    simp only [σ'] at h
    split at h
    · exact ⟨‹_›, h⟩
    · cases h
  have hget : ∀ i b, look (numB 0 M) i = some b → i < M.length ∧ look S2.hp (ms.getD i S2.nx) = some (b.ren (fun i => ms.getD i S2.nx)) := by
    intro i b h
    rw [look_numB] at h
    simp only [Nat.not_lt_zero, if_false, Nat.sub_zero] at h
    obtain ⟨m, h1, h2⟩ := leH_get hb i b h
    rw [Nat.zero_add] at h1
    have hi := (List.getElem?_eq_some_iff.1 h).1
    have := hin i hi
    rw [h1] at this
    rw [← Option.some.inj this]
    exact ⟨hi, h2⟩
  have hinj : ∀ i j, i < M.length → j < M.length → ms.getD i S2.nx = ms.getD j S2.nx → i = j := by
    intro i j hi hj he
    exact (List.getElem?_inj (by omega) hnd).1 (by rw [hin i hi, hin j hj, he])
  refine ⟨hkM, σ', F, ⟨⟨hX.1.df, ?_, ?_, ?_, ?_, hX.1.fl, hX.1.f0, hX.1.f1, hX.1.os, hX.1.tape, hX.1.output, hX.1.size, hX.1.bel⟩, fun id hid => ?_⟩, fun id hid => ?_⟩
  · intro t x hx
    obtain ⟨y, h1, h2⟩ := leT_get ht t x hx
    obtain ⟨v, h3, h4⟩ := hX.1.tmp t y h1
    have h5 := h4.thaw hX.1 (fz := fzIds S2.hp (idsA y)) (fzIds_ok S2.hp _)
    rw [h2] at h5
    exact ⟨v, h3, h5.unren hσ x rfl⟩
  · intro i b h
    obtain ⟨h1, h2⟩ := hget i b h
    obtain ⟨sv, h3, h4⟩ := hX.1.blk _ _ h2
    exact ⟨sv, hσ _ _ h3, h4.unren hσ⟩
  · intro i j b b' sv sv' g hb1 hb2 hl1 hl2 hne hs1 hs2 hg
    obtain ⟨i1, i2⟩ := hget i b hb1
    obtain ⟨j1, j2⟩ := hget j b' hb2
    exact hX.1.apart _ _ _ _ sv sv' g i2 j2 (by rw [Blk.ren_live]; exact hl1) (by rw [Blk.ren_live]; exact hl2) (fun e => hne (hinj i j i1 j1 e)) (hs' _ _ hs1).2 (hs' _ _ hs2).2 hg
  · intro i b sv g hb1 hl1 hs1 hg
    obtain ⟨i1, i2⟩ := hget i b hb1
    exact hX.1.own _ _ sv g i2 (by rw [Blk.ren_live]; exact hl1) (hs' _ _ hs1).2 hg
  · have : M.length ≤ id := hid
    simp only [σ']; rw [if_neg (by omega)]
  · have hi : id < M.length := by omega
    have := hin id hi
    rw [hhead id hid] at this
    simp only [σ']
    rw [if_pos hi, ← Option.some.inj this]
end
end Go.Av

/- A function's contract by its body. -/
namespace Go.Av

def argTm : Nat → List AV → List (Nat × AV)
  | _, [] => []
  | i, x :: r => (i, x) :: argTm (i + 1) r
theorem look_argTm : ∀ (xs : List AV) (n t : Nat), look (argTm n xs) t = if t < n then none else xs[t - n]?
  | [], n, t => by simp [argTm, look]
  | x :: r, n, t => by
    unfold argTm look
    cases hb : Nat.beq n t with
    | true =>
      have := Nat.eq_of_beq_eq_true hb
      subst this
      simp
    | false =>
      have hne : n ≠ t := fun e => by rw [e, Nat.beq_refl] at hb; cases hb
      rw [cond_false, look_argTm r (n + 1) t]
      by_cases h : t < n
      · rw [if_pos (by omega), if_pos h]
      · rw [if_neg (by omega), if_neg h, show t - n = (t - (n + 1)) + 1 by omega, List.getElem?_cons_succ]

def packV : List AV → AV
  | [y] => y
  | ys => .tuple ys

/-- What is handed back. -/
def resX (TT : TypeId → Option TI) (S : St) : List ResultVar → (List AV → Prop) → Prop
  | [], K => K []
  | .tmp t :: r, K => match look S.tm t with
    | some y => resX TT S r fun ys => K (y :: ys)
    | none => False
  | .cell t ty :: r, K => match look S.tm t with
    | some q => match TT ty with
      | some i => cellsAt S q fun cells _ => valAt i cells fun y => resX TT S r fun ys => K (y :: ys)
      | none => False
    | none => False

section
variable {P : Program} {TT : TypeId → Option TI} {nt k : Nat}

/-- Results, one after the other. -/
inductive Res (P : Program) (w : World) (tmps : Array Value) : List ResultVar → List Value → Prop
  | nil : Res P w tmps [] []
  | tmp {t r vs} (h : Res P w tmps r vs) : Res P w tmps (.tmp t :: r) (tmps.getD t undef :: vs)
  | cell {t ty r vs v ad} (ha : tmps.getD t undef = .pointer (some ad)) (hv : (loadVar ty ad).run P w = .ok v w) (h : Res P w tmps r vs) : Res P w tmps (.cell t ty :: r) (v :: vs)

def resOne (tmps : Array Value) : ResultVar → Sem Value
  | .tmp t => pure (tmps.getD t undef)
  | .cell a t => do loadVar t (← asAddr (tmps.getD a undef))

theorem res_run {w : World} {tmps : Array Value} : ∀ {rs : List ResultVar} {vs : List Value}, Res P w tmps rs vs → (rs.mapM (resOne tmps)).run P w = .ok vs w
  | _, _, .nil => by simp
  | _, _, .tmp h => by simp [resOne, res_run h]
  | _, _, .cell ha hv h => by
    simp only [List.mapM_cons, resOne, ha]
    simp [asAddr, hv, res_run h]

theorem results_run {fn : Func} {w : World} {tmps : Array Value} {vs : List Value} (h : Res P w tmps fn.results.toList vs) : ∃ v, (results fn tmps).run P w = .ok v w ∧ ((∃ u, vs = [u] ∧ v = u) ∨ (vs.length ≠ 1 ∧ v = .tuple vs.toArray)) := by
  have hm : (fn.results.mapM (resOne tmps)).run P w = .ok vs.toArray w := by
    have e : fn.results = fn.results.toList.toArray := by simp
    rw [e, List.mapM_toArray]
    simp [res_run h]
  have he : results fn tmps = (do
      let vs ← fn.results.mapM (resOne tmps)
      pure (if h : vs.size = 1 then vs[0] else .tuple vs)) := by
    unfold results
    congr 1
  rw [he]
  by_cases hv : vs.length = 1
  · match vs, hv with
    | [u], _ => exact ⟨u, by simp [hm], .inl ⟨u, rfl, rfl⟩⟩
  · exact ⟨.tuple vs.toArray, by simp [hm, hv], .inr ⟨hv, rfl⟩⟩

theorem resX_ok (hT : TOk P TT) {S : St} {C : Ctx} {a : Act} {w : World} {σ : Sig} {F : Nat → Prop} (hX : Sim C S a w σ F) : ∀ {rs : List ResultVar} {K : List AV → Prop}, resX TT S rs K → ∃ ys vs, Res P w a.tmps rs vs ∧ vs.length = ys.length ∧ (∀ (j : Nat) (y : AV), ys[j]? = some y → ∃ v, vs[j]? = some v ∧ Val w F σ y v) ∧ K ys
  | [], K, h => ⟨[], [], .nil, rfl, by simp, h⟩
  | .tmp t :: r, K, h => by
    unfold resX at h
    split at h <;> try exact h.elim
    rename_i y hy
    obtain ⟨ys, vs, h1, h2, h3, h4⟩ := resX_ok hT hX h
    obtain ⟨v, hv, hV⟩ := hX.1.tmp t y hy
    have : a.tmps.getD t undef = v := by rw [Array.getD_eq_getD_getElem?, hv]; rfl
    refine ⟨y :: ys, _, .tmp h1, by simp [h2], fun j z hz => ?_, h4⟩
    cases j with
    | zero => simp at hz; subst hz; exact ⟨a.tmps.getD t undef, rfl, by rw [this]; exact hV⟩
    | succ j => simpa using h3 j z (by simpa using hz)
  | .cell t ty :: r, K, h => by
    unfold resX at h
    split at h <;> try exact h.elim
    rename_i q hq
    split at h <;> try exact h.elim
    rename_i i hi
    obtain ⟨cells, rh, g1, g2, h⟩ := cellsAt_ok h
    obtain ⟨g3, g4, h⟩ := valAt_ok h
    obtain ⟨ys, vs, h1, h2, h3, h4⟩ := resX_ok hT hX h
    obtain ⟨v, hv, hV⟩ := hX.1.tmp t q hq
    obtain ⟨ad, he, hA⟩ := ptr_at hX.1 g2 g1 hV
    obtain ⟨u, hu, hU⟩ := loadVar_run hT hi hA g3 g4
    have : a.tmps.getD t undef = .pointer (some ad) := by rw [Array.getD_eq_getD_getElem?, hv, he]; rfl
    refine ⟨_ :: ys, u :: vs, .cell this hu h1, by simp [h2], fun j z hz => ?_, h4⟩
    cases j with
    | zero => simp only [List.getElem?_cons_zero, Option.some.injEq] at hz; rw [← hz]; exact ⟨u, rfl, hU⟩
    | succ j => simpa using h3 j z (by simpa using hz)

/-- What must be so at a function's end. -/
def endQ (TT : TypeId → Option TI) (fn : Func) (k : Nat) (r : AV) (M' : List Blk) (e : Exit) (S : St) : Prop :=
  match e with
  | .normal => resX TT S fn.results.toList fun ys => Le k (mkSt [(0, r)] M') ⟨[(0, packV ys)], S.hp, S.nx⟩
  | .ret => resX TT S fn.results.toList fun ys => Le k (mkSt [(0, r)] M') ⟨[(0, packV ys)], S.hp, S.nx⟩
  | _ => False

theorem con_of (hT : TOk P TT) {f : FuncId} {fn : Func} {c : Code} {M M' : List Blk} {args : List AV} {r : AV} (hf : P.funcs[f]? = some fn) (hna : (fn.name == "runtime.NumGoroutine") = false) (hb : fn.body = some c) (hla : Nat.ble args.length fn.ntmps = true) (hle : Nat.ble M.length M'.length = true)
    (h : AWP P fn.ntmps M.length c (mkSt (argTm 0 args) M) (endQ TT fn M.length r M')) : Con P f M args r M' := by
  refine ⟨⟨fn, hf, hna, by rw [hb]; rfl⟩, ?_, Nat.le_of_ble_eq_true hle⟩
  intro w F σ vs hX hfree hargs
  have hla := Nat.le_of_ble_eq_true hla
  refine calls_of_wp hf hb ?_
  have hsz : (vs ++ Array.replicate (fn.ntmps - vs.size) undef).size = fn.ntmps := by
    have := hargs.1
    simp; omega
  have hS : Sim ⟨w, F, blocksOf σ M⟩ (mkSt (argTm 0 args) M) { tmps := vs ++ Array.replicate (fn.ntmps - vs.size) undef, defers := [] } w σ F := by
    have hH : look (numB 0 M) = hpOf M := by funext i; rw [look_numB]; simp [hpOf]
    refine ⟨⟨rfl, fun t x hx => ?_, ?_, ?_, ?_, hX.fl, hX.f0, hX.f1, hX.os, hX.tape, hX.output, hX.size, hX.bel⟩, hfree⟩
    · have hx : look (argTm 0 args) t = some x := hx
      rw [look_argTm] at hx
      simp only [Nat.not_lt_zero, if_false, Nat.sub_zero] at hx
      obtain ⟨v, h1, h2⟩ := AllVal.get hargs hx
      refine ⟨v, ?_, h2⟩
      rw [Array.getElem?_append_left (Array.getElem?_eq_some_iff.1 h1).1]; exact h1
    · show ∀ id b, look (numB 0 M) id = some b → _
      rw [hH]; exact hX.blk
    · show ∀ id id' b b' sv sv' g, look (numB 0 M) id = some b → look (numB 0 M) id' = some b' → _
      rw [hH]; exact hX.apart
    · show ∀ id b sv g, look (numB 0 M) id = some b → _
      rw [hH]; exact hX.own
  refine wp_mono (h.run ⟨w, F, blocksOf σ M⟩ _ w σ F (Nat.le_refl _) hsz hS) ?_
  rintro e a' w' ⟨S', σ', F', h1, h2, h3, h4, h5⟩
  have key : resX TT S' fn.results.toList (fun ys => Le M.length (mkSt [(0, r)] M') ⟨[(0, packV ys)], S'.hp, S'.nx⟩) →
      a'.defers = [] ∧ ∃ v, (results fn a'.tmps).run P w' = .ok v w' ∧ ∃ v' σ'' F'', Ending.returned v = .returned v' ∧ (∀ id u, σ id = some u → σ'' id = some u) ∧ (∀ id, M'.length ≤ id → σ'' id = none) ∧ Val w' F'' σ'' r v' ∧ SimX ⟨w, F, blocksOf σ M⟩ noTM (hpOf M') act0 w' σ'' F'' := by
    intro hr
    obtain ⟨ys, us, g1, g2, g3, hle⟩ := resX_ok hT h4 hr
    obtain ⟨v, hv, hvv⟩ := results_run g1
    have hV : Val w' F' σ' (packV ys) v := by
      rcases hvv with ⟨u, rfl, rfl⟩ | ⟨hn, rfl⟩
      · match ys, g2 with
        | [y], _ =>
          obtain ⟨v', e1, e2⟩ := g3 0 y rfl
          simp at e1; subst e1; exact e2
      · have : packV ys = .tuple ys := by
          match ys, g2 with
          | [], _ => rfl
          | [y], g2 => exact absurd g2 hn
          | _ :: _ :: _, _ => rfl
        rw [this]
        have hall : AllVal w' F' σ' ys us.toArray := allVal_of (by simpa using g2) fun j x hx => by simpa using g3 j x hx
        exact .tuple _ _ hall.1 hall.2
    refine ⟨h4.1.df, v, hv, v, ?_⟩
    have hS2 : Sim ⟨w, F, blocksOf σ M⟩ ⟨[(0, packV ys)], S'.hp, S'.nx⟩ ⟨#[v], []⟩ w' σ' F' := by
      refine ⟨{ h4.1 with df := rfl, tmp := fun t x hx => ?_ }, h4.2⟩
      unfold look at hx
      cases hb : Nat.beq 0 t with
      | true =>
        have := Nat.eq_of_beq_eq_true hb
        subst this
        simp at hx
        subst hx
        exact ⟨v, by simp, hV⟩
      | false => rw [hb] at hx; simp [look] at hx
    obtain ⟨q1, σ2, F2, q2, q3⟩ := hle.run ⟨w, F, blocksOf σ M⟩ ⟨#[v], []⟩ w' σ' F' h2 hS2
    obtain ⟨v2, e1, e2⟩ := q2.1.tmp 0 r rfl
    simp at e1
    subst e1
    have hH : look (numB 0 M') = hpOf M' := by funext i; rw [look_numB]; simp [hpOf]
    refine ⟨σ2, F2, rfl, fun id u hu => ?_, q2.2, e2, ?_⟩
    · by_cases hid : id < M.length
      · rw [q3 id hid, h5 id hid]; exact hu
      · rw [hfree id (by omega)] at hu; cases hu
    · have q := q2.1
      refine ⟨rfl, fun t x h => (by cases h), ?_, ?_, ?_, q.fl, q.f0, q.f1, q.os, q.tape, q.output, q.size, q.bel⟩
      · rw [← hH]; exact q.blk
      · rw [← hH]; exact q.apart
      · rw [← hH]; exact q.own
  cases e with
  | normal => exact key h1
  | ret => exact key h1
  | _ => exact h1.elim
end
end Go.Av

/- A table of types, checked against a program's. -/
namespace Go.Av

inductive TR where
  | leaf
  | node (l : TR) (k : Nat) (v : TI) (r : TR)
def TR.find : TR → Nat → Option TI
  | .leaf, _ => none
  | .node l k v r, t => match Nat.beq k t with
    | true => some v
    | false => match Nat.ble t k with
      | true => l.find t
      | false => r.find t
def TR.all (f : Nat → TI → Bool) : TR → Bool
  | .leaf => true
  | .node l k v r => f k v && (l.all f && r.all f)
theorem TR.find_all {f : Nat → TI → Bool} : ∀ {tr : TR} {t : Nat} {i : TI}, tr.all f = true → tr.find t = some i → f t i = true
  | .leaf, t, i, _, h => by cases h
  | .node l k v r, t, i, ha, h => by
    simp only [TR.all, Bool.and_eq_true] at ha
    unfold TR.find at h
    split at h
    · rename_i hb
      have := Nat.eq_of_beq_eq_true hb
      subst this
      obtain rfl := Option.some.inj h
      exact ha.1
    · split at h
      · exact find_all ha.2.1 h
      · exact find_all ha.2.2 h

def kindB : TypeDesc → TK → Bool
  | .int k, .int k' => decide (k = k')
  | .bool, .bool => true
  | .string, .str => true
  | .slice e, .slice e' => Nat.beq e e'
  | .array n e, .arr n' e' => Nat.beq n n' && Nat.beq e e'
  | .struct fs, .struct gs => decide (fs.toList.map (fun f => (f.offset, f.type)) = gs)
  | .pointer _, .ptr => true
  | .func .., .func => true
  | _, _ => false
theorem kindB_ok {d : TypeDesc} {k : TK} (h : kindB d k = true) : DescOk d k := by
  cases d <;> cases k <;> simp [kindB, DescOk] at h ⊢ <;> first | exact h | (exact Nat.eq_of_beq_eq_true h) | (exact ⟨Nat.eq_of_beq_eq_true h.1, Nat.eq_of_beq_eq_true h.2⟩) | skip
def zeroB : AV → Value → Bool
  | .any, _ => true
  | .int k n, .int k' n' => decide (k = k') && decide (n = n')
  | .bool b, .bool c => b == c
  | .str s, .string s' => Nat.beq s.data.size 0 && Nat.beq s'.data.size 0
  | .nils _, .slice none 0 0 => true
  | _, _ => false
theorem zeroB_ok {w : World} {F : Nat → Prop} {σ : Sig} {x : AV} {v : Value} (h : zeroB x v = true) : Val w F σ x v := by
  unfold zeroB at h
  split at h
  · exact .any
  · simp at h; obtain ⟨rfl, rfl⟩ := h; exact .int ..
  · simp at h; subst h; exact .bool _
  · rename_i s s'
    simp only [Bool.and_eq_true] at h
    have h1 := Nat.eq_of_beq_eq_true h.1
    have h2 := Nat.eq_of_beq_eq_true h.2
    have : s = s' := by
      cases s; cases s'
      simp only [ByteArray.mk.injEq]
      exact (Array.eq_empty_of_size_eq_zero h1).trans (Array.eq_empty_of_size_eq_zero h2).symm
    subst this
    exact .str _
  · exact .nils _
  · cases h
def zerosB : List AV → List Value → Bool
  | [], [] => true
  | x :: r, v :: s => zeroB x v && zerosB r s
  | _, _ => false
theorem zerosB_ok {w : World} {F : Nat → Prop} {σ : Sig} : ∀ {xs : List AV} {vs : List Value}, zerosB xs vs = true → xs.length = vs.length ∧ ∀ (j : Nat) (x : AV), xs[j]? = some x → ∃ v, vs[j]? = some v ∧ Val w F σ x v
  | [], [], _ => ⟨rfl, by simp⟩
  | x :: r, v :: s, h => by
    simp only [zerosB, Bool.and_eq_true] at h
    obtain ⟨h1, h2⟩ := zerosB_ok (w := w) (F := F) (σ := σ) h.2
    refine ⟨by simp [h1], fun j y hy => ?_⟩
    cases j with
    | zero => simp at hy; subst hy; exact ⟨v, rfl, zeroB_ok h.1⟩
    | succ j => simpa using h2 j y (by simpa using hy)
  | [], _ :: _, h => by cases h
  | _ :: _, [], h => by cases h

def isAggV : Value → Bool
  | .agg _ => true
  | _ => false
/-- One row of the table is so. -/
def tiB (P : Program) (t : Nat) (i : TI) : Bool :=
  match P.info? t, P.underlying t with
  | some ti, some d => match ti.zero with
    | some z => kindB d i.k && (Nat.beq ti.size i.sz && (Nat.beq ti.bytes i.bytes && (zerosB i.zero z.cells.toList && (Nat.beq i.zero.length i.sz && (!i.k.agg || isAggV z)))))
    | none => false
  | _, _ => false
theorem tOk_of {P : Program} {tr : TR} (h : tr.all (tiB P) = true) : TOk P tr.find := by
  refine ⟨fun t i hi => ?_⟩
  have hb := TR.find_all h hi
  unfold tiB at hb
  split at hb <;> try cases hb
  rename_i ti d h1 h2
  split at hb <;> try cases hb
  rename_i z hz
  simp only [Bool.and_eq_true] at hb
  obtain ⟨g1, g2, g3, g4, g5, g6⟩ := hb
  have e5 := Nat.eq_of_beq_eq_true g5
  have hl : z.cells.size = i.zero.length := by
    obtain ⟨q, _⟩ := zerosB_ok (w := default) (F := fun _ => False) (σ := noSig) g4
    rw [q]; simp
  refine ⟨ti, d, z, h1, h2, kindB_ok g1, Nat.eq_of_beq_eq_true g2, Nat.eq_of_beq_eq_true g3, hz, by rw [hl, e5], e5, fun w F σ j x hx => ?_, fun ha => ?_⟩
  · obtain ⟨_, q⟩ := zerosB_ok (w := w) (F := F) (σ := σ) g4
    obtain ⟨v, q1, q2⟩ := q j x hx
    have : z.cells.getD j undef = v := by
      rw [Array.getD_eq_getD_getElem?]
      rw [Array.getElem?_toList] at q1
      rw [q1]; rfl
    rw [this]; exact q2
  · rw [ha] at g6
    cases z <;> simp [isAggV] at g6
    rfl
end Go.Av

/- The table of the program's types, and that it is so. -/
namespace Go.Av
namespace Z
def t1 : TI := ⟨.func, 1, 8, [.any]⟩
def t2 : TI := ⟨.int .i64, 1, 8, [.int .i64 0]⟩
def t3 : TI := ⟨.int .i64, 1, 8, [.int .i64 0]⟩
def t4 : TI := ⟨.bool, 1, 1, [.bool false]⟩
def t5 : TI := ⟨.int .u8, 1, 1, [.int .u8 0]⟩
def t6 : TI := ⟨.int .u8, 1, 1, [.int .u8 0]⟩
def t7 : TI := ⟨.struct [(0, 2), (1, 3), (2, 4), (3, 6)], 4, 24, [.int .i64 0, .int .i64 0, .bool false, .int .u8 0]⟩
def t8 : TI := ⟨.struct [(0, 2), (1, 3), (2, 4), (3, 6)], 4, 24, [.int .i64 0, .int .i64 0, .bool false, .int .u8 0]⟩
def t9 : TI := ⟨.str, 1, 16, [.str ⟨#[]⟩]⟩
def t10 : TI := ⟨.str, 1, 16, [.str ⟨#[]⟩]⟩
def t11 : TI := ⟨.str, 1, 16, [.str ⟨#[]⟩]⟩
def t12 : TI := ⟨.int .u64, 1, 8, [.int .u64 0]⟩
def t13 : TI := ⟨.struct [(0, 9), (1, 12)], 2, 24, [.str ⟨#[]⟩, .int .u64 0]⟩
def t14 : TI := ⟨.struct [(0, 9), (1, 12)], 2, 24, [.str ⟨#[]⟩, .int .u64 0]⟩
def t15 : TI := ⟨.ptr, 1, 8, [.any]⟩
def t16 : TI := ⟨.ptr, 1, 8, [.any]⟩
def t17 : TI := ⟨.ptr, 1, 8, [.any]⟩
def t18 : TI := ⟨.struct [(0, 17)], 1, 8, [.any]⟩
def t19 : TI := ⟨.struct [(0, 17)], 1, 8, [.any]⟩
def t21 : TI := ⟨.int .i32, 1, 4, [.int .i32 0]⟩
def t22 : TI := ⟨.slice 82, 1, 24, [.nils 82]⟩
def t23 : TI := ⟨.slice 84, 1, 24, [.nils 84]⟩
def t24 : TI := ⟨.struct [(0, 22), (1, 23)], 2, 48, [.nils 82, .nils 84]⟩
def t25 : TI := ⟨.struct [(0, 22), (1, 23)], 2, 48, [.nils 82, .nils 84]⟩
def t26 : TI := ⟨.slice 3, 1, 24, [.nils 3]⟩
def t27 : TI := ⟨.slice 133, 1, 24, [.nils 133]⟩
def t28 : TI := ⟨.struct [(0, 26), (1, 27)], 2, 48, [.nils 3, .nils 133]⟩
def t29 : TI := ⟨.struct [(0, 26), (1, 27)], 2, 48, [.nils 3, .nils 133]⟩
def t30 : TI := ⟨.slice 117, 1, 24, [.nils 117]⟩
def t31 : TI := ⟨.slice 119, 1, 24, [.nils 119]⟩
def t32 : TI := ⟨.struct [(0, 29), (2, 30), (3, 3), (4, 31)], 5, 104, [.nils 3, .nils 133, .nils 117, .int .i64 0, .nils 119]⟩
def t33 : TI := ⟨.struct [(0, 29), (2, 30), (3, 3), (4, 31)], 5, 104, [.nils 3, .nils 133, .nils 117, .int .i64 0, .nils 119]⟩
def t34 : TI := ⟨.struct [(0, 26), (1, 26)], 2, 48, [.nils 3, .nils 3]⟩
def t35 : TI := ⟨.struct [(0, 26), (1, 26)], 2, 48, [.nils 3, .nils 3]⟩
def t36 : TI := ⟨.struct [(0, 26), (1, 26)], 2, 48, [.nils 3, .nils 3]⟩
def t37 : TI := ⟨.slice 39, 1, 24, [.nils 39]⟩
def t38 : TI := ⟨.struct [(0, 3), (1, 37), (2, 36), (4, 33)], 9, 184, [.int .i64 0, .nils 39, .nils 3, .nils 3, .nils 3, .nils 133, .nils 117, .int .i64 0, .nils 119]⟩
def t39 : TI := ⟨.struct [(0, 3), (1, 37), (2, 36), (4, 33)], 9, 184, [.int .i64 0, .nils 39, .nils 3, .nils 3, .nils 3, .nils 133, .nils 117, .int .i64 0, .nils 119]⟩
def t40 : TI := ⟨.struct [(0, 9), (1, 33), (6, 33), (11, 35), (13, 36), (15, 4), (16, 39)], 25, 512, [.str ⟨#[]⟩, .nils 3, .nils 133, .nils 117, .int .i64 0, .nils 119, .nils 3, .nils 133, .nils 117, .int .i64 0, .nils 119, .nils 3, .nils 3, .nils 3, .nils 3, .bool false, .int .i64 0, .nils 39, .nils 3, .nils 3, .nils 3, .nils 133, .nils 117, .int .i64 0, .nils 119]⟩
def t41 : TI := ⟨.struct [(0, 9), (1, 33), (6, 33), (11, 35), (13, 36), (15, 4), (16, 39)], 25, 512, [.str ⟨#[]⟩, .nils 3, .nils 133, .nils 117, .int .i64 0, .nils 119, .nils 3, .nils 133, .nils 117, .int .i64 0, .nils 119, .nils 3, .nils 3, .nils 3, .nils 3, .bool false, .int .i64 0, .nils 39, .nils 3, .nils 3, .nils 3, .nils 133, .nils 117, .int .i64 0, .nils 119]⟩
def t42 : TI := ⟨.func, 1, 8, [.any]⟩
def t43 : TI := ⟨.func, 1, 8, [.any]⟩
def t44 : TI := ⟨.func, 1, 8, [.any]⟩
def t45 : TI := ⟨.int .i64, 1, 8, [.int .i64 0]⟩
def t46 : TI := ⟨.func, 1, 8, [.any]⟩
def t48 : TI := ⟨.func, 1, 8, [.any]⟩
def t49 : TI := ⟨.func, 1, 8, [.any]⟩
def t50 : TI := ⟨.func, 1, 8, [.any]⟩
def t51 : TI := ⟨.func, 1, 8, [.any]⟩
def t52 : TI := ⟨.func, 1, 8, [.any]⟩
def t53 : TI := ⟨.func, 1, 8, [.any]⟩
def t54 : TI := ⟨.func, 1, 8, [.any]⟩
def t55 : TI := ⟨.func, 1, 8, [.any]⟩
def t56 : TI := ⟨.slice 5, 1, 24, [.nils 5]⟩
def t57 : TI := ⟨.slice 209, 1, 24, [.nils 209]⟩
def t58 : TI := ⟨.struct [(0, 56), (1, 57)], 2, 48, [.nils 5, .nils 209]⟩
def t59 : TI := ⟨.struct [(0, 56), (1, 57)], 2, 48, [.nils 5, .nils 209]⟩
def t60 : TI := ⟨.int .u64, 1, 8, [.int .u64 0]⟩
def t61 : TI := ⟨.struct [(0, 59), (2, 60), (3, 56)], 4, 80, [.nils 5, .nils 209, .int .u64 0, .nils 5]⟩
def t62 : TI := ⟨.struct [(0, 59), (2, 60), (3, 56)], 4, 80, [.nils 5, .nils 209, .int .u64 0, .nils 5]⟩
def t63 : TI := ⟨.struct [(0, 62), (4, 56), (5, 56)], 6, 128, [.nils 5, .nils 209, .int .u64 0, .nils 5, .nils 5, .nils 5]⟩
def t64 : TI := ⟨.struct [(0, 62), (4, 56), (5, 56)], 6, 128, [.nils 5, .nils 209, .int .u64 0, .nils 5, .nils 5, .nils 5]⟩
def t66 : TI := ⟨.func, 1, 8, [.any]⟩
def t68 : TI := ⟨.func, 1, 8, [.any]⟩
def t69 : TI := ⟨.func, 1, 8, [.any]⟩
def t71 : TI := ⟨.func, 1, 8, [.any]⟩
def t72 : TI := ⟨.func, 1, 8, [.any]⟩
def t73 : TI := ⟨.func, 1, 8, [.any]⟩
def t74 : TI := ⟨.func, 1, 8, [.any]⟩
def t76 : TI := ⟨.func, 1, 8, [.any]⟩
def t77 : TI := ⟨.func, 1, 8, [.any]⟩
def t78 : TI := ⟨.func, 1, 8, [.any]⟩
def t79 : TI := ⟨.func, 1, 8, [.any]⟩
def t80 : TI := ⟨.slice 87, 1, 24, [.nils 87]⟩
def t81 : TI := ⟨.struct [(0, 9), (1, 3), (2, 4), (3, 80)], 4, 56, [.str ⟨#[]⟩, .int .i64 0, .bool false, .nils 87]⟩
def t82 : TI := ⟨.struct [(0, 9), (1, 3), (2, 4), (3, 80)], 4, 56, [.str ⟨#[]⟩, .int .i64 0, .bool false, .nils 87]⟩
def t83 : TI := ⟨.struct [(0, 9), (1, 3), (2, 3), (3, 3), (4, 3), (5, 3), (6, 3)], 7, 64, [.str ⟨#[]⟩, .int .i64 0, .int .i64 0, .int .i64 0, .int .i64 0, .int .i64 0, .int .i64 0]⟩
def t84 : TI := ⟨.struct [(0, 9), (1, 3), (2, 3), (3, 3), (4, 3), (5, 3), (6, 3)], 7, 64, [.str ⟨#[]⟩, .int .i64 0, .int .i64 0, .int .i64 0, .int .i64 0, .int .i64 0, .int .i64 0]⟩
def t85 : TI := ⟨.slice 9, 1, 24, [.nils 9]⟩
def t86 : TI := ⟨.struct [(0, 9), (1, 3), (2, 3), (3, 85)], 4, 56, [.str ⟨#[]⟩, .int .i64 0, .int .i64 0, .nils 9]⟩
def t87 : TI := ⟨.struct [(0, 9), (1, 3), (2, 3), (3, 85)], 4, 56, [.str ⟨#[]⟩, .int .i64 0, .int .i64 0, .nils 9]⟩
def t88 : TI := ⟨.func, 1, 8, [.any]⟩
def t89 : TI := ⟨.func, 1, 8, [.any]⟩
def t90 : TI := ⟨.func, 1, 8, [.any]⟩
def t91 : TI := ⟨.func, 1, 8, [.any]⟩
def t92 : TI := ⟨.func, 1, 8, [.any]⟩
def t94 : TI := ⟨.func, 1, 8, [.any]⟩
def t95 : TI := ⟨.func, 1, 8, [.any]⟩
def t96 : TI := ⟨.func, 1, 8, [.any]⟩
def t98 : TI := ⟨.func, 1, 8, [.any]⟩
def t99 : TI := ⟨.func, 1, 8, [.any]⟩
def t100 : TI := ⟨.slice 29, 1, 24, [.nils 29]⟩
def t101 : TI := ⟨.func, 1, 8, [.any]⟩
def t102 : TI := ⟨.func, 1, 8, [.any]⟩
def t103 : TI := ⟨.func, 1, 8, [.any]⟩
def t104 : TI := ⟨.func, 1, 8, [.any]⟩
def t106 : TI := ⟨.func, 1, 8, [.any]⟩
def t107 : TI := ⟨.func, 1, 8, [.any]⟩
def t108 : TI := ⟨.func, 1, 8, [.any]⟩
def t109 : TI := ⟨.func, 1, 8, [.any]⟩
def t110 : TI := ⟨.func, 1, 8, [.any]⟩
def t111 : TI := ⟨.func, 1, 8, [.any]⟩
def t112 : TI := ⟨.func, 1, 8, [.any]⟩
def t113 : TI := ⟨.func, 1, 8, [.any]⟩
def t114 : TI := ⟨.struct [(0, 3), (1, 3)], 2, 16, [.int .i64 0, .int .i64 0]⟩
def t115 : TI := ⟨.struct [(0, 3), (1, 3)], 2, 16, [.int .i64 0, .int .i64 0]⟩
def t116 : TI := ⟨.struct [(0, 3), (1, 3), (2, 115)], 4, 32, [.int .i64 0, .int .i64 0, .int .i64 0, .int .i64 0]⟩
def t117 : TI := ⟨.struct [(0, 3), (1, 3), (2, 115)], 4, 32, [.int .i64 0, .int .i64 0, .int .i64 0, .int .i64 0]⟩
def t118 : TI := ⟨.struct [(0, 3), (1, 115), (3, 115)], 5, 40, [.int .i64 0, .int .i64 0, .int .i64 0, .int .i64 0, .int .i64 0]⟩
def t119 : TI := ⟨.struct [(0, 3), (1, 115), (3, 115)], 5, 40, [.int .i64 0, .int .i64 0, .int .i64 0, .int .i64 0, .int .i64 0]⟩
def t121 : TI := ⟨.func, 1, 8, [.any]⟩
def t122 : TI := ⟨.func, 1, 8, [.any]⟩
def t123 : TI := ⟨.func, 1, 8, [.any]⟩
def t124 : TI := ⟨.struct [(0, 29), (2, 29), (4, 35), (6, 36)], 8, 192, [.nils 3, .nils 133, .nils 3, .nils 133, .nils 3, .nils 3, .nils 3, .nils 3]⟩
def t125 : TI := ⟨.struct [(0, 29), (2, 29), (4, 35), (6, 36)], 8, 192, [.nils 3, .nils 133, .nils 3, .nils 133, .nils 3, .nils 3, .nils 3, .nils 3]⟩
def t126 : TI := ⟨.func, 1, 8, [.any]⟩
def t127 : TI := ⟨.func, 1, 8, [.any]⟩
def t128 : TI := ⟨.func, 1, 8, [.any]⟩
def t129 : TI := ⟨.func, 1, 8, [.any]⟩
def t130 : TI := ⟨.func, 1, 8, [.any]⟩
def t131 : TI := ⟨.func, 1, 8, [.any]⟩
def t132 : TI := ⟨.struct [(0, 3), (1, 3), (2, 3)], 3, 24, [.int .i64 0, .int .i64 0, .int .i64 0]⟩
def t133 : TI := ⟨.struct [(0, 3), (1, 3), (2, 3)], 3, 24, [.int .i64 0, .int .i64 0, .int .i64 0]⟩
def t135 : TI := ⟨.func, 1, 8, [.any]⟩
def t136 : TI := ⟨.func, 1, 8, [.any]⟩
def t137 : TI := ⟨.func, 1, 8, [.any]⟩
def t138 : TI := ⟨.func, 1, 8, [.any]⟩
def t140 : TI := ⟨.func, 1, 8, [.any]⟩
def t141 : TI := ⟨.struct [(0, 29), (2, 29), (4, 29), (6, 36), (8, 36)], 10, 240, [.nils 3, .nils 133, .nils 3, .nils 133, .nils 3, .nils 133, .nils 3, .nils 3, .nils 3, .nils 3]⟩
def t142 : TI := ⟨.struct [(0, 29), (2, 29), (4, 29), (6, 36), (8, 36)], 10, 240, [.nils 3, .nils 133, .nils 3, .nils 133, .nils 3, .nils 133, .nils 3, .nils 3, .nils 3, .nils 3]⟩
def t143 : TI := ⟨.ptr, 1, 8, [.any]⟩
def t144 : TI := ⟨.struct [(0, 56), (1, 3), (2, 3)], 3, 40, [.nils 5, .int .i64 0, .int .i64 0]⟩
def t145 : TI := ⟨.struct [(0, 56), (1, 3), (2, 3)], 3, 40, [.nils 5, .int .i64 0, .int .i64 0]⟩
def t146 : TI := ⟨.func, 1, 8, [.any]⟩
def t147 : TI := ⟨.func, 1, 8, [.any]⟩
def t148 : TI := ⟨.struct [(0, 29), (2, 29), (4, 35), (6, 36)], 8, 192, [.nils 3, .nils 133, .nils 3, .nils 133, .nils 3, .nils 3, .nils 3, .nils 3]⟩
def t149 : TI := ⟨.struct [(0, 29), (2, 29), (4, 35), (6, 36)], 8, 192, [.nils 3, .nils 133, .nils 3, .nils 133, .nils 3, .nils 3, .nils 3, .nils 3]⟩
def t150 : TI := ⟨.func, 1, 8, [.any]⟩
def t151 : TI := ⟨.func, 1, 8, [.any]⟩
def t152 : TI := ⟨.func, 1, 8, [.any]⟩
def t153 : TI := ⟨.func, 1, 8, [.any]⟩
def t154 : TI := ⟨.func, 1, 8, [.any]⟩
def t155 : TI := ⟨.func, 1, 8, [.any]⟩
def t156 : TI := ⟨.func, 1, 8, [.any]⟩
def t157 : TI := ⟨.func, 1, 8, [.any]⟩
def t158 : TI := ⟨.func, 1, 8, [.any]⟩
def t159 : TI := ⟨.func, 1, 8, [.any]⟩
def t160 : TI := ⟨.func, 1, 8, [.any]⟩
def t161 : TI := ⟨.func, 1, 8, [.any]⟩
def t162 : TI := ⟨.func, 1, 8, [.any]⟩
def t163 : TI := ⟨.func, 1, 8, [.any]⟩
def t164 : TI := ⟨.func, 1, 8, [.any]⟩
def t165 : TI := ⟨.func, 1, 8, [.any]⟩
def t166 : TI := ⟨.func, 1, 8, [.any]⟩
def t168 : TI := ⟨.func, 1, 8, [.any]⟩
def t169 : TI := ⟨.func, 1, 8, [.any]⟩
def t170 : TI := ⟨.slice 33, 1, 24, [.nils 33]⟩
def t171 : TI := ⟨.func, 1, 8, [.any]⟩
def t172 : TI := ⟨.func, 1, 8, [.any]⟩
def t173 : TI := ⟨.func, 1, 8, [.any]⟩
def t174 : TI := ⟨.func, 1, 8, [.any]⟩
def t175 : TI := ⟨.func, 1, 8, [.any]⟩
def t176 : TI := ⟨.func, 1, 8, [.any]⟩
def t178 : TI := ⟨.func, 1, 8, [.any]⟩
def t179 : TI := ⟨.slice 242, 1, 24, [.nils 242]⟩
def t181 : TI := ⟨.func, 1, 8, [.any]⟩
def t182 : TI := ⟨.func, 1, 8, [.any]⟩
def t183 : TI := ⟨.func, 1, 8, [.any]⟩
def t184 : TI := ⟨.func, 1, 8, [.any]⟩
def t185 : TI := ⟨.func, 1, 8, [.any]⟩
def t186 : TI := ⟨.ptr, 1, 8, [.any]⟩
def t187 : TI := ⟨.func, 1, 8, [.any]⟩
def t188 : TI := ⟨.struct [(0, 29), (2, 29), (4, 26), (5, 26), (6, 187)], 7, 152, [.nils 3, .nils 133, .nils 3, .nils 133, .nils 3, .nils 3, .any]⟩
def t189 : TI := ⟨.struct [(0, 29), (2, 29), (4, 26), (5, 26), (6, 187)], 7, 152, [.nils 3, .nils 133, .nils 3, .nils 133, .nils 3, .nils 3, .any]⟩
def t190 : TI := ⟨.func, 1, 8, [.any]⟩
def t191 : TI := ⟨.func, 1, 8, [.any]⟩
def t192 : TI := ⟨.func, 1, 8, [.any]⟩
def t193 : TI := ⟨.func, 1, 8, [.any]⟩
def t194 : TI := ⟨.func, 1, 8, [.any]⟩
def t195 : TI := ⟨.func, 1, 8, [.any]⟩
def t196 : TI := ⟨.func, 1, 8, [.any]⟩
def t197 : TI := ⟨.func, 1, 8, [.any]⟩
def t198 : TI := ⟨.func, 1, 8, [.any]⟩
def t199 : TI := ⟨.func, 1, 8, [.any]⟩
def t200 : TI := ⟨.func, 1, 8, [.any]⟩
def t201 : TI := ⟨.func, 1, 8, [.any]⟩
def t202 : TI := ⟨.func, 1, 8, [.any]⟩
def t204 : TI := ⟨.func, 1, 8, [.any]⟩
def t205 : TI := ⟨.func, 1, 8, [.any]⟩
def t206 : TI := ⟨.func, 1, 8, [.any]⟩
def t207 : TI := ⟨.func, 1, 8, [.any]⟩
def t208 : TI := ⟨.func, 1, 8, [.any]⟩
def t209 : TI := ⟨.arr 3 5, 3, 3, [.int .u8 0, .int .u8 0, .int .u8 0]⟩
def t210 : TI := ⟨.slice 4, 1, 24, [.nils 4]⟩
def t211 : TI := ⟨.func, 1, 8, [.any]⟩
def t212 : TI := ⟨.func, 1, 8, [.any]⟩
def t213 : TI := ⟨.func, 1, 8, [.any]⟩
def t214 : TI := ⟨.func, 1, 8, [.any]⟩
def t215 : TI := ⟨.func, 1, 8, [.any]⟩
def t216 : TI := ⟨.func, 1, 8, [.any]⟩
def t217 : TI := ⟨.func, 1, 8, [.any]⟩
def t218 : TI := ⟨.func, 1, 8, [.any]⟩
def t219 : TI := ⟨.int .u64, 1, 8, [.int .u64 0]⟩
def t220 : TI := ⟨.func, 1, 8, [.any]⟩
def t221 : TI := ⟨.func, 1, 8, [.any]⟩
def t222 : TI := ⟨.func, 1, 8, [.any]⟩
def t223 : TI := ⟨.func, 1, 8, [.any]⟩
def t224 : TI := ⟨.struct [(0, 3), (1, 9), (2, 3)], 3, 32, [.int .i64 0, .str ⟨#[]⟩, .int .i64 0]⟩
def t225 : TI := ⟨.struct [(0, 3), (1, 9), (2, 3)], 3, 32, [.int .i64 0, .str ⟨#[]⟩, .int .i64 0]⟩
def t226 : TI := ⟨.func, 1, 8, [.any]⟩
def t227 : TI := ⟨.func, 1, 8, [.any]⟩
def t228 : TI := ⟨.func, 1, 8, [.any]⟩
def t229 : TI := ⟨.func, 1, 8, [.any]⟩
def t230 : TI := ⟨.func, 1, 8, [.any]⟩
def t232 : TI := ⟨.func, 1, 8, [.any]⟩
def t233 : TI := ⟨.func, 1, 8, [.any]⟩
def t234 : TI := ⟨.func, 1, 8, [.any]⟩
def t235 : TI := ⟨.func, 1, 8, [.any]⟩
def t236 : TI := ⟨.func, 1, 8, [.any]⟩
def t237 : TI := ⟨.func, 1, 8, [.any]⟩
def t238 : TI := ⟨.func, 1, 8, [.any]⟩
def t240 : TI := ⟨.func, 1, 8, [.any]⟩
def t241 : TI := ⟨.struct [(0, 3), (1, 3)], 2, 16, [.int .i64 0, .int .i64 0]⟩
def t242 : TI := ⟨.struct [(0, 3), (1, 3)], 2, 16, [.int .i64 0, .int .i64 0]⟩
def t243 : TI := ⟨.func, 1, 8, [.any]⟩
def t244 : TI := ⟨.func, 1, 8, [.any]⟩
def t245 : TI := ⟨.func, 1, 8, [.any]⟩
def t247 : TI := ⟨.func, 1, 8, [.any]⟩
def t248 : TI := ⟨.func, 1, 8, [.any]⟩
def t249 : TI := ⟨.int .i64, 1, 8, [.int .i64 0]⟩
def t251 : TI := ⟨.func, 1, 8, [.any]⟩
def t252 : TI := ⟨.func, 1, 8, [.any]⟩
def t253 : TI := ⟨.func, 1, 8, [.any]⟩
def t254 : TI := ⟨.func, 1, 8, [.any]⟩
def t255 : TI := ⟨.func, 1, 8, [.any]⟩
def t256 : TI := ⟨.int .u32, 1, 4, [.int .u32 0]⟩
def t257 : TI := ⟨.func, 1, 8, [.any]⟩
def t258 : TI := ⟨.func, 1, 8, [.any]⟩
def t260 : TI := ⟨.func, 1, 8, [.any]⟩
def t261 : TI := ⟨.func, 1, 8, [.any]⟩
def t262 : TI := ⟨.func, 1, 8, [.any]⟩
def t263 : TI := ⟨.func, 1, 8, [.any]⟩
def t264 : TI := ⟨.func, 1, 8, [.any]⟩
def t265 : TI := ⟨.func, 1, 8, [.any]⟩
def t266 : TI := ⟨.slice 26, 1, 24, [.nils 26]⟩
def t268 : TI := ⟨.func, 1, 8, [.any]⟩
def t270 : TI := ⟨.func, 1, 8, [.any]⟩
def t271 : TI := ⟨.int .u64, 1, 8, [.int .u64 0]⟩
def t272 : TI := ⟨.func, 1, 8, [.any]⟩
def t273 : TI := ⟨.func, 1, 8, [.any]⟩
def t274 : TI := ⟨.func, 1, 8, [.any]⟩
def t275 : TI := ⟨.ptr, 1, 8, [.any]⟩
def t276 : TI := ⟨.func, 1, 8, [.any]⟩
def t277 : TI := ⟨.func, 1, 8, [.any]⟩
def t278 : TI := ⟨.func, 1, 8, [.any]⟩
def t279 : TI := ⟨.func, 1, 8, [.any]⟩
def t280 : TI := ⟨.func, 1, 8, [.any]⟩
def t281 : TI := ⟨.func, 1, 8, [.any]⟩
def t283 : TI := ⟨.func, 1, 8, [.any]⟩
def t284 : TI := ⟨.func, 1, 8, [.any]⟩
def t285 : TI := ⟨.func, 1, 8, [.any]⟩
def t286 : TI := ⟨.ptr, 1, 8, [.any]⟩
def t287 : TI := ⟨.func, 1, 8, [.any]⟩
def t288 : TI := ⟨.func, 1, 8, [.any]⟩
def t289 : TI := ⟨.struct [(0, 17), (1, 17), (2, 17), (3, 9)], 4, 40, [.any, .any, .any, .str ⟨#[]⟩]⟩
def t290 : TI := ⟨.struct [(0, 17), (1, 17), (2, 17), (3, 9)], 4, 40, [.any, .any, .any, .str ⟨#[]⟩]⟩
def t294 : TI := ⟨.int .u8, 1, 1, [.int .u8 0]⟩
def t295 : TI := ⟨.int .u8, 1, 1, [.int .u8 0]⟩
def t296 : TI := ⟨.func, 1, 8, [.any]⟩
def t297 : TI := ⟨.ptr, 1, 8, [.any]⟩
def t298 : TI := ⟨.int .i32, 1, 4, [.int .i32 0]⟩
def t299 : TI := ⟨.int .i32, 1, 4, [.int .i32 0]⟩
def t300 : TI := ⟨.struct [(0, 12), (1, 12), (2, 256), (3, 294), (4, 5), (5, 5), (6, 295), (7, 296), (8, 297), (9, 298), (10, 299)], 11, 48, [.int .u64 0, .int .u64 0, .int .u32 0, .int .u8 0, .int .u8 0, .int .u8 0, .int .u8 0, .any, .any, .int .i32 0, .int .i32 0]⟩
def t301 : TI := ⟨.struct [(0, 12), (1, 12), (2, 256), (3, 294), (4, 5), (5, 5), (6, 295), (7, 296), (8, 297), (9, 298), (10, 299)], 11, 48, [.int .u64 0, .int .u64 0, .int .u32 0, .int .u8 0, .int .u8 0, .int .u8 0, .int .u8 0, .any, .any, .int .i32 0, .int .i32 0]⟩
def tr : TR := (.node (.node (.node (.node (.node (.node (.node (.node (.node .leaf 1 t1 .leaf) 2 t2 .leaf) 3 t3 (.node .leaf 4 t4 .leaf)) 5 t5 (.node (.node .leaf 6 t6 .leaf) 7 t7 (.node .leaf 8 t8 .leaf))) 9 t9 (.node (.node (.node (.node .leaf 10 t10 .leaf) 11 t11 .leaf) 12 t12 (.node .leaf 13 t13 .leaf)) 14 t14 (.node (.node .leaf 15 t15 .leaf) 16 t16 (.node .leaf 17 t17 .leaf)))) 18 t18 (.node (.node (.node (.node (.node .leaf 19 t19 .leaf) 21 t21 .leaf) 22 t22 (.node .leaf 23 t23 .leaf)) 24 t24 (.node (.node .leaf 25 t25 .leaf) 26 t26 (.node .leaf 27 t27 .leaf))) 28 t28 (.node (.node (.node .leaf 29 t29 .leaf) 30 t30 (.node .leaf 31 t31 .leaf)) 32 t32 (.node (.node .leaf 33 t33 .leaf) 34 t34 (.node .leaf 35 t35 .leaf))))) 36 t36 (.node (.node (.node (.node (.node (.node .leaf 37 t37 .leaf) 38 t38 .leaf) 39 t39 (.node .leaf 40 t40 .leaf)) 41 t41 (.node (.node .leaf 42 t42 .leaf) 43 t43 (.node .leaf 44 t44 .leaf))) 45 t45 (.node (.node (.node .leaf 46 t46 .leaf) 48 t48 (.node .leaf 49 t49 .leaf)) 50 t50 (.node (.node .leaf 51 t51 .leaf) 52 t52 (.node .leaf 53 t53 .leaf)))) 54 t54 (.node (.node (.node (.node (.node .leaf 55 t55 .leaf) 56 t56 .leaf) 57 t57 (.node .leaf 58 t58 .leaf)) 59 t59 (.node (.node .leaf 60 t60 .leaf) 61 t61 (.node .leaf 62 t62 .leaf))) 63 t63 (.node (.node (.node .leaf 64 t64 .leaf) 66 t66 (.node .leaf 68 t68 .leaf)) 69 t69 (.node (.node .leaf 71 t71 .leaf) 72 t72 (.node .leaf 73 t73 .leaf)))))) 74 t74 (.node (.node (.node (.node (.node (.node (.node .leaf 76 t76 .leaf) 77 t77 .leaf) 78 t78 (.node .leaf 79 t79 .leaf)) 80 t80 (.node (.node .leaf 81 t81 .leaf) 82 t82 (.node .leaf 83 t83 .leaf))) 84 t84 (.node (.node (.node (.node .leaf 85 t85 .leaf) 86 t86 .leaf) 87 t87 (.node .leaf 88 t88 .leaf)) 89 t89 (.node (.node .leaf 90 t90 .leaf) 91 t91 (.node .leaf 92 t92 .leaf)))) 94 t94 (.node (.node (.node (.node (.node .leaf 95 t95 .leaf) 96 t96 .leaf) 98 t98 (.node .leaf 99 t99 .leaf)) 100 t100 (.node (.node .leaf 101 t101 .leaf) 102 t102 (.node .leaf 103 t103 .leaf))) 104 t104 (.node (.node (.node .leaf 106 t106 .leaf) 107 t107 (.node .leaf 108 t108 .leaf)) 109 t109 (.node (.node .leaf 110 t110 .leaf) 111 t111 (.node .leaf 112 t112 .leaf))))) 113 t113 (.node (.node (.node (.node (.node (.node .leaf 114 t114 .leaf) 115 t115 .leaf) 116 t116 (.node .leaf 117 t117 .leaf)) 118 t118 (.node (.node .leaf 119 t119 .leaf) 121 t121 (.node .leaf 122 t122 .leaf))) 123 t123 (.node (.node (.node .leaf 124 t124 .leaf) 125 t125 (.node .leaf 126 t126 .leaf)) 127 t127 (.node (.node .leaf 128 t128 .leaf) 129 t129 (.node .leaf 130 t130 .leaf)))) 131 t131 (.node (.node (.node (.node (.node .leaf 132 t132 .leaf) 133 t133 .leaf) 135 t135 (.node .leaf 136 t136 .leaf)) 137 t137 (.node (.node .leaf 138 t138 .leaf) 140 t140 (.node .leaf 141 t141 .leaf))) 142 t142 (.node (.node (.node .leaf 143 t143 .leaf) 144 t144 (.node .leaf 145 t145 .leaf)) 146 t146 (.node (.node .leaf 147 t147 .leaf) 148 t148 (.node .leaf 149 t149 .leaf))))))) 150 t150 (.node (.node (.node (.node (.node (.node (.node (.node .leaf 151 t151 .leaf) 152 t152 .leaf) 153 t153 (.node .leaf 154 t154 .leaf)) 155 t155 (.node (.node .leaf 156 t156 .leaf) 157 t157 (.node .leaf 158 t158 .leaf))) 159 t159 (.node (.node (.node (.node .leaf 160 t160 .leaf) 161 t161 .leaf) 162 t162 (.node .leaf 163 t163 .leaf)) 164 t164 (.node (.node .leaf 165 t165 .leaf) 166 t166 (.node .leaf 168 t168 .leaf)))) 169 t169 (.node (.node (.node (.node (.node .leaf 170 t170 .leaf) 171 t171 .leaf) 172 t172 (.node .leaf 173 t173 .leaf)) 174 t174 (.node (.node .leaf 175 t175 .leaf) 176 t176 (.node .leaf 178 t178 .leaf))) 179 t179 (.node (.node (.node .leaf 181 t181 .leaf) 182 t182 (.node .leaf 183 t183 .leaf)) 184 t184 (.node (.node .leaf 185 t185 .leaf) 186 t186 (.node .leaf 187 t187 .leaf))))) 188 t188 (.node (.node (.node (.node (.node (.node .leaf 189 t189 .leaf) 190 t190 .leaf) 191 t191 (.node .leaf 192 t192 .leaf)) 193 t193 (.node (.node .leaf 194 t194 .leaf) 195 t195 (.node .leaf 196 t196 .leaf))) 197 t197 (.node (.node (.node .leaf 198 t198 .leaf) 199 t199 (.node .leaf 200 t200 .leaf)) 201 t201 (.node (.node .leaf 202 t202 .leaf) 204 t204 (.node .leaf 205 t205 .leaf)))) 206 t206 (.node (.node (.node (.node (.node .leaf 207 t207 .leaf) 208 t208 .leaf) 209 t209 (.node .leaf 210 t210 .leaf)) 211 t211 (.node (.node .leaf 212 t212 .leaf) 213 t213 (.node .leaf 214 t214 .leaf))) 215 t215 (.node (.node (.node .leaf 216 t216 .leaf) 217 t217 (.node .leaf 218 t218 .leaf)) 219 t219 (.node (.node .leaf 220 t220 .leaf) 221 t221 (.node .leaf 222 t222 .leaf)))))) 223 t223 (.node (.node (.node (.node (.node (.node (.node .leaf 224 t224 .leaf) 225 t225 .leaf) 226 t226 (.node .leaf 227 t227 .leaf)) 228 t228 (.node (.node .leaf 229 t229 .leaf) 230 t230 (.node .leaf 232 t232 .leaf))) 233 t233 (.node (.node (.node .leaf 234 t234 .leaf) 235 t235 (.node .leaf 236 t236 .leaf)) 237 t237 (.node (.node .leaf 238 t238 .leaf) 240 t240 (.node .leaf 241 t241 .leaf)))) 242 t242 (.node (.node (.node (.node (.node .leaf 243 t243 .leaf) 244 t244 .leaf) 245 t245 (.node .leaf 247 t247 .leaf)) 248 t248 (.node (.node .leaf 249 t249 .leaf) 251 t251 (.node .leaf 252 t252 .leaf))) 253 t253 (.node (.node (.node .leaf 254 t254 .leaf) 255 t255 (.node .leaf 256 t256 .leaf)) 257 t257 (.node (.node .leaf 258 t258 .leaf) 260 t260 (.node .leaf 261 t261 .leaf))))) 262 t262 (.node (.node (.node (.node (.node (.node .leaf 263 t263 .leaf) 264 t264 .leaf) 265 t265 (.node .leaf 266 t266 .leaf)) 268 t268 (.node (.node .leaf 270 t270 .leaf) 271 t271 (.node .leaf 272 t272 .leaf))) 273 t273 (.node (.node (.node .leaf 274 t274 .leaf) 275 t275 (.node .leaf 276 t276 .leaf)) 277 t277 (.node (.node .leaf 278 t278 .leaf) 279 t279 (.node .leaf 280 t280 .leaf)))) 281 t281 (.node (.node (.node (.node (.node .leaf 283 t283 .leaf) 284 t284 .leaf) 285 t285 (.node .leaf 286 t286 .leaf)) 287 t287 (.node (.node .leaf 288 t288 .leaf) 289 t289 (.node .leaf 290 t290 .leaf))) 294 t294 (.node (.node (.node .leaf 295 t295 .leaf) 296 t296 (.node .leaf 297 t297 .leaf)) 298 t298 (.node (.node .leaf 299 t299 .leaf) 300 t300 (.node .leaf 301 t301 .leaf))))))))
abbrev TT : TypeId → Option TI := tr.find
noncomputable abbrev P : Program := Go.Proofs.Tryz.prog
theorem trOk : tr.all (tiB P) = true := by kernel_rfl
theorem hT : TOk P TT := tOk_of trOk
theorem hm : P.follows .mixedOrders = true := by kernel_rfl
end Z
end Go.Av

/- Edges are held one against the other by '=='. -/
namespace Go.Av.Z
open Go.Proofs

theorem eq109 : EqInts P 133 3 := by
  intro a b w ha hb
  match a, b, ha, hb with
  | [a1, a2, a3], [b1, b2, b3], _, _ =>
    have h3 : ∀ (dp : Nat) (x y : Int), (Op.equalIn (dp + 1) 3 (.int .i64 x) (.int .i64 y)).run P w = .ok (x == y) w := fun dp x y => by
      unfold Op.equalIn
      simp only [Sem.run_bind, run_underlying Tryz.underlying3, Result.andThen_ok, Sem.run_pure, if_true]
    have hst : P.stoodInHeld 133 = false := by kernel_rfl
    have hp : ∀ (vs : Array Value) (off : Nat) (v : Value), vs[off]? = some v → (part 3 vs off).run P w = .ok v w := fun vs off v hv => by
      unfold part
      simp [Tryz.isAgg3, hv]
    have hq : ∀ x y z : Int, (part 3 ([x, y, z].map (Value.int .i64)).toArray 0).run P w = .ok (.int .i64 x) w ∧ (part 3 ([x, y, z].map (Value.int .i64)).toArray 1).run P w = .ok (.int .i64 y) w ∧ (part 3 ([x, y, z].map (Value.int .i64)).toArray 2).run P w = .ok (.int .i64 z) w := fun x y z => ⟨hp _ _ _ rfl, hp _ _ _ rfl, hp _ _ _ rfl⟩
    obtain ⟨p1, p2, p3⟩ := hq a1 a2 a3
    obtain ⟨q1, q2, q3⟩ := hq b1 b2 b3
    have hpr : (program : Sem Program).run P w = .ok P w := rfl
    refine ⟨?_, ?_⟩
    · have h1 : ∀ dp : Nat, (Op.equalIn (dp + 2) 133 (.agg ([a1, a2, a3].map (Value.int .i64)).toArray) (.agg ([b1, b2, b3].map (Value.int .i64)).toArray)).run P w = .ok (decide ([a1, a2, a3] = [b1, b2, b3])) w := fun dp => by
        unfold Op.equalIn
        generalize ([a1, a2, a3].map (Value.int .i64)).toArray = A at p1 p2 p3
        generalize ([b1, b2, b3].map (Value.int .i64)).toArray = B at q1 q2 q3
        simp only [Sem.run_bind, run_underlying Tryz.underlying133, Result.andThen_ok, hpr, hst]
        by_cases e1 : a1 = b1
        · by_cases e2 : a2 = b2
          · by_cases e3 : a3 = b3
            · simp [p1, p2, p3, q1, q2, q3, h3, e1, e2, e3]
            · simp [p1, p2, p3, q1, q2, q3, h3, e1, e2, e3]
          · simp [p1, p2, q1, q2, h3, e1, e2]
        · simp [p1, q1, h3, e1]
      exact h1 9998
    · intro op x y
      have hg : P.eqGuardType P.depth 133 = false := by kernel_rfl
      unfold eqGuard
      cases op <;> simp [hpr, hg]
end Go.Av.Z

/- The end of a function; loops that run a known number of rounds; lengths. -/
namespace Go.Av

theorem Val.noIds {w : World} {F : Nat → Prop} {σ σ' : Sig} {x : AV} {v : Value} {n : Nat} (h : Val w F σ x v) (hx : idsA x = []) (hn : σ n = none) : Val w F σ' x v := by
  refine h.unren (ι := fun _ => n) (fun id u h => by rw [hn] at h; cases h) x ?_
  rw [ren_none _ x hx]

section
variable {P : Program} {TT : TypeId → Option TI} {nt k : Nat}

/-- The end of a function that hands back what nobody writes any more. -/
theorem fin_frz {r y : AV} {hp : List (Nat × Blk)} {nx : Nat} (TT : TypeId → Option TI) (h : (thaw (rowsF (rowsOf hp [] (idsA y)) ++ fzIds hp (idsA y)) y).tidy (szOf TT) = r) (hr : idsA r = []) : Le 0 (mkSt [(0, r)] []) ⟨[(0, y)], hp, nx⟩ := by
  refine ⟨fun C a w σ F hk hX => ⟨Nat.zero_le _, ?_⟩⟩
  obtain ⟨g1, g2⟩ := rowsOf_ok hp (idsA y) []
  have g3 := fzIds_ok hp (idsA y)
  obtain ⟨F', hX'⟩ := ghost_rows (rowsOf hp [] (idsA y)) (rowsR (rowsOf hp [] (idsA y))) (fun _ h => h) g2 C _ _ a w σ F hX.1 (fun p hp' => (g1 p hp').1)
  obtain ⟨v, hv, hV⟩ := hX'.tmp 0 y rfl
  have hV2 := (hV.thaw hX' (fz := rowsF (rowsOf hp [] (idsA y)) ++ fzIds hp (idsA y)) fun p hp' => ?_).tidy (szOf TT)
  · rw [h] at hV2
    refine ⟨fun _ => none, F', ⟨⟨hX'.df, fun t x hx => ?_, ?_, ?_, ?_, hX'.fl, hX'.f0, hX'.f1, hX'.os, hX'.tape, hX'.output, hX'.size, hX'.bel⟩, fun _ _ => rfl⟩, fun id hid => by omega⟩
    · have hx : look [(0, r)] t = some x := hx
      unfold look at hx
      cases hb : Nat.beq 0 t with
      | true =>
        have := Nat.eq_of_beq_eq_true hb
        subst this
        simp at hx
        subst hx
        exact ⟨v, hv, hV2.noIds hr (hX.2 nx (Nat.le_refl _))⟩
      | false => rw [hb] at hx; simp [look] at hx
    · intro id b hb; simp [mkSt, numB, look] at hb
    · intro id id' b b' sv sv' g hb; simp [mkSt, numB, look] at hb
    · intro id b sv g hb; simp [mkSt, numB, look] at hb
  · rcases List.mem_append.1 hp' with hp' | hp'
    · have := frozen_rows (rowsOf hp [] (idsA y)) g2 (look hp) (p.1, .frz p.2) (List.mem_map.2 ⟨p, hp', rfl⟩)
      exact this
    · have h1 := g3 p hp'
      rw [updHs_get]
      · exact h1
      · intro q hq he
        obtain ⟨q', hq', rfl⟩ := List.mem_map.1 hq
        have h2 : (q'.1, Blk.frz q'.2) ∈ frzB (rowsF (rowsOf hp [] (idsA y))) := List.mem_map.2 ⟨q', hq', rfl⟩
        obtain ⟨r', hr', rfl⟩ := List.mem_map.1 hq'
        have h3 := (g1 (r'.1, .row r'.2.1 r'.2.2.1 r'.2.2.2) (List.mem_map.2 ⟨r', hr', rfl⟩)).1
        have he : r'.1 = p.1 := he
        rw [he, h1] at h3
        cases h3

/-- A loop that has begun. -/
def loopFrom (P : Program) (c : Code) (Q : Exit → Act → World → Prop) (a : Act) (w : World) : Prop :=
  ∀ (b : Frame) (k : List Item) (cs : List Frame), ∃ e a' w', Q e a' w' ∧ Arrives P (lone (b.at a (.code c :: .inLoop c :: k)) cs w) b k cs e a' w'
theorem wp_begun {c : Code} {Q : Exit → Act → World → Prop} {a : Act} {w : World} (h : loopFrom P c Q a w) : (Code.loop c).wp P Q a w := by
  intro b kk cs
  obtain ⟨e, a₁, w₁, hq, harr⟩ := h b kk cs
  exact ⟨e, a₁, w₁, hq, .of_steps (.one step_loop) harr⟩
theorem loopFrom_round {c : Code} {Q : Exit → Act → World → Prop} {a : Act} {w : World} (h : c.wp P (Exit.then (loopFrom P c Q) Q) a w) : loopFrom P c Q a w := by
  intro b kk cs
  obtain ⟨e, a₁, w₁, hq, harr⟩ := h b (.inLoop c :: kk) cs
  cases e with
  | normal =>
    obtain ⟨e₂, a₂, w₂, hq₂, harr₂⟩ := hq b kk cs
    exact ⟨e₂, a₂, w₂, hq₂, .of_steps (Steps.trans harr (.one step_inLoop)) harr₂⟩
  | exit id => exact ⟨_, a₁, w₁, hq, .pass (x := .inLoop c) rfl (fun _ _ => .inl (by simp)) harr⟩
  | goto l => exact ⟨_, a₁, w₁, hq, .pass (x := .inLoop c) rfl (fun _ _ => .inl (by simp)) harr⟩
  | ret => exact ⟨_, a₁, w₁, hq, .pass (x := .inLoop c) rfl (fun _ _ => .inl (by simp)) harr⟩
  | panic ch => exact ⟨_, a₁, w₁, hq, .pass (x := .inLoop c) rfl (fun _ _ => .inl (by simp)) harr⟩
  | outgrown => exact ⟨_, a₁, w₁, hq, .pass (x := .inLoop c) rfl (fun _ _ => .inl (by simp)) harr⟩
structure LWP (P : Program) (nt k : Nat) (c : Code) (S : St) (Q : Exit → St → Prop) : Prop where
  run : ∀ (C : Ctx) (a : Act) (w : World) (σ : Sig) (F : Nat → Prop), k ≤ S.nx → a.tmps.size = nt → Sim C S a w σ F → loopFrom P c (fun e a' w' => ∃ S' σ' F', Q e S' ∧ k ≤ S'.nx ∧ a'.tmps.size = nt ∧ Sim C S' a' w' σ' F' ∧ ∀ id, id < k → σ' id = σ id) a w
def unrollQ (P : Program) (nt k : Nat) (c : Code) (Q : Exit → St → Prop) : Exit → St → Prop
  | .normal, S => LWP P nt k c S Q
  | .exit id, S => Q (.exit id) S
  | .goto l, S => Q (.goto l) S
  | .ret, S => Q .ret S
  | .panic ch, S => Q (.panic ch) S
  | .outgrown, S => Q .outgrown S
theorem awp_begun {c : Code} {S : St} {Q : Exit → St → Prop} (h : LWP P nt k c S Q) : AWP P nt k (.loop c) S Q :=
  ⟨fun C a w σ F hk hs hX => wp_begun (h.run C a w σ F hk hs hX)⟩
theorem lwp_round {c : Code} {S : St} {Q : Exit → St → Prop} (h : AWP P nt k c S (unrollQ P nt k c Q)) : LWP P nt k c S Q := by
  refine ⟨fun C a w σ F hk hs hX => loopFrom_round (wp_mono (h.run C a w σ F hk hs hX) ?_)⟩
  rintro e a' w' ⟨S', σ', F', h1, h2, h3, h4, h5⟩
  cases e with
  | normal =>
    intro b kk cs
    obtain ⟨e, a2, w2, ⟨S2, σ2, F2, g1, g2, g3, g4, g5⟩, harr⟩ := h1.run C a' w' σ' F' h2 h3 h4 b kk cs
    exact ⟨e, a2, w2, ⟨S2, σ2, F2, g1, g2, g3, g4, fun id hid => (g5 id hid).trans (h5 id hid)⟩, harr⟩
  | _ => exact ⟨S', σ', F', h1, h2, h3, h4, h5⟩
/-- What is told less at the head of a begun loop. -/
theorem lwp_le {c : Code} {S1 S2 : St} {Q : Exit → St → Prop} (hl : Le k S1 S2) (h : LWP P nt k c S1 Q) : LWP P nt k c S2 Q := by
  refine ⟨fun C a w σ F hk hs hX b kk cs => ?_⟩
  obtain ⟨h1, σ', F', h2, h3⟩ := hl.run C a w σ F hk hX
  obtain ⟨e, a2, w2, ⟨S2, σ2, F2, g1, g2, g3, g4, g5⟩, harr⟩ := h.run C a w σ' F' h1 hs h2 b kk cs
  exact ⟨e, a2, w2, ⟨S2, σ2, F2, g1, g2, g3, g4, fun id hid => (g5 id hid).trans (h3 id hid)⟩, harr⟩

mutual
theorem thaw_none (fz : List (Nat × AV)) : ∀ x : AV, idsA x = [] → thaw fz x = x
  | .agg xs, h => by simp only [thaw, AV.agg.injEq]; exact thaw_noneL fz xs (by simpa [idsA] using h)
  | .tuple xs, h => by simp only [thaw, AV.tuple.injEq]; exact thaw_noneL fz xs (by simpa [idsA] using h)
  | .fn f xs, h => by simp only [thaw, AV.fn.injEq, true_and]; exact thaw_noneL fz xs (by simpa [idsA] using h)
  | .opt g x, h => by simp only [thaw, AV.opt.injEq, true_and]; exact thaw_none fz x (by simpa [idsA] using h)
  | .ref id, h => by simp [idsA] at h
  | .bptr id off, h => by simp [idsA] at h
  | .eptr id sz i fo, h => by simp [idsA] at h
  | .any, _ => by simp only [thaw]
  | .int k n, _ => by simp only [thaw]
  | .bool b, _ => by simp only [thaw]
  | .str s, _ => by simp only [thaw]
  | .nils e, _ => by simp only [thaw]
  | .slice sz xs, _ => by simp only [thaw]
  | .fptr xs, _ => by simp only [thaw]
theorem thaw_noneL (fz : List (Nat × AV)) : ∀ xs : List AV, idsL xs = [] → thawL fz xs = xs
  | [], _ => by simp only [thawL]
  | x :: r, h => by
    simp only [idsL, List.append_eq_nil_iff] at h
    simp only [thawL, List.cons.injEq]
    exact ⟨thaw_none fz x h.1, thaw_noneL fz r h.2⟩
end

/-- What a block becomes that is frozen. -/
def Blk.ice : Blk → Option AV
  | .row _ sz xs => some (.slice sz xs)
  | .box _ xs => match allB AV.pure1 xs, idsL xs with
    | true, [] => some (.fptr xs)
    | _, _ => none
  | .frz x => some x
  | .dead => none
def iceAll : Nat → List Blk → Option (List (Nat × AV))
  | _, [] => some []
  | i, b :: r => match b.ice with
    | some x => match iceAll (i + 1) r with
      | some l => some ((i, x) :: l)
      | none => none
    | none => none
theorem iceAll_ok : ∀ {M : List Blk} {n : Nat} {l : List (Nat × AV)}, iceAll n M = some l → l.map (·.1) = List.range' n M.length ∧ ∀ i b, M[i]? = some b → ∃ x, b.ice = some x ∧ l[i]? = some (n + i, x)
  | [], n, l, h => by simp [iceAll] at h; subst h; simp
  | b :: r, n, l, h => by
    unfold iceAll at h
    split at h <;> try cases h
    rename_i x hx
    split at h <;> cases h
    rename_i l hl
    obtain ⟨h1, h2⟩ := iceAll_ok hl
    refine ⟨by simp [h1, List.range'_succ], fun i b' hb => ?_⟩
    cases i with
    | zero => simp at hb; subst hb; exact ⟨x, hx, by simp⟩
    | succ i =>
      obtain ⟨x', e1, e2⟩ := h2 i b' (by simpa using hb)
      exact ⟨x', e1, by rw [List.getElem?_cons_succ, e2, show n + 1 + i = n + (i + 1) by omega]⟩

theorem ghost_ice : ∀ (l : List (Nat × AV)) (rh : List (Nat × Blk)), (∀ p ∈ l, ∃ b, (p.1, b) ∈ rh ∧ b.ice = some p.2) → (l.map (·.1)).Nodup → Ghost rh (frzB l)
  | [], rh, _, _ => ghost_nil rh
  | (id, x) :: r, rh, h, hn => by
    rw [List.map_cons, List.nodup_cons] at hn
    have hr : ∀ p ∈ r, ∃ b, (p.1, b) ∈ (rh.filter fun q => !(Nat.beq q.1 id)) ∧ b.ice = some p.2 := by
      intro p hp
      obtain ⟨b, h1, h2⟩ := h p (by simp [hp])
      refine ⟨b, List.mem_filter.2 ⟨h1, ?_⟩, h2⟩
      have : p.1 ≠ id := fun e => hn.1 (by have hm := List.mem_map_of_mem (f := fun q : Nat × AV => q.1) hp; rw [e] at hm; exact hm)
      cases hb : Nat.beq p.1 id with
      | true => exact absurd (Nat.eq_of_beq_eq_true hb) this
      | false => simp
    have hrest := ghost_ice r _ hr hn.2
    have hoff : ∀ p ∈ (rh.filter fun q => !(Nat.beq q.1 id)), p ∈ rh ∧ p.1 ≠ id := by
      intro p hp
      obtain ⟨h1, h2⟩ := List.mem_filter.1 hp
      exact ⟨h1, fun e => by rw [e, Nat.beq_refl] at h2; cases h2⟩
    obtain ⟨b, hb, hx⟩ := h (id, x) (by simp)
    simp only at hb hx
    cases b with
    | row e sz xs =>
      simp only [Blk.ice, Option.some.injEq] at hx
      subst hx
      exact ghost_row hb hrest fun p hp => .inr (hoff p hp)
    | box ty xs =>
      simp only [Blk.ice] at hx
      split at hx <;> cases hx
      rename_i hp hi
      rw [allB_eq] at hp
      have hid : thawL [] xs = xs := thaw_noneL [] xs hi
      have := ghost_box (rh := rh) (fz := []) hb (by simp) (by rw [hid]; exact hp) hrest fun p hp' => .inr (hoff p hp')
      rw [hid] at this
      exact this
    | frz y =>
      simp only [Blk.ice, Option.some.injEq] at hx
      subst hx
      intro C tm hp a w σ F hX hrh
      have hsame : updH hp id (.frz y) = hp := by
        funext j
        unfold updH
        split
        · rename_i e; subst e; exact (hrh _ hb).symm
        · rfl
      have := hrest C tm hp a w σ F hX (fun p hp' => hrh p (hoff p hp').1)
      simp only [frzB, List.map_cons, updHs]
      rw [hsame]
      exact this
    | dead => simp [Blk.ice] at hx

/-- A contract with nothing lent is one with things lent that are frozen. -/
theorem con_frz {f : FuncId} {M : List Blk} {args : List AV} {r : AV} {l : List (Nat × AV)} (hl : iceAll 0 M = some l) (hr : idsA r = []) (ha : idsL (args.map (thaw l)) = []) (h : Con P f [] (args.map (thaw l)) r []) : Con P f M args r (l.map fun p => .frz p.2) := by
  obtain ⟨i1, i2⟩ := iceAll_ok hl
  have hlen : l.length = M.length := by have := congrArg List.length i1; simpa using this
  refine ⟨h.fn, ?_, by simp [hlen]⟩
  intro w F σ vs hX hfree hargs
  have hnd : (l.map (·.1)).Nodup := by rw [i1]; exact List.nodup_range'
  have hat : ∀ p ∈ l, ∃ b, M[p.1]? = some b ∧ b.ice = some p.2 := by
    intro p hp
    obtain ⟨i, hi⟩ := List.mem_iff_getElem?.1 hp
    have hiM : i < M.length := by rw [← hlen]; exact (List.getElem?_eq_some_iff.1 hi).1
    obtain ⟨x, e1, e2⟩ := i2 i M[i] (List.getElem?_eq_getElem hiM)
    rw [hi] at e2
    obtain rfl := Option.some.inj e2
    exact ⟨M[i], by simp, e1⟩
  obtain ⟨F', hX'⟩ := ghost_ice l (l.map fun p => (p.1, M.getD p.1 .dead)) (fun p hp => by
    obtain ⟨b, e1, e2⟩ := hat p hp
    refine ⟨b, List.mem_map.2 ⟨p, hp, ?_⟩, e2⟩
    rw [List.getD_eq_getElem?_getD, e1]; rfl) hnd _ _ _ _ w σ F hX (fun p hp => by
    obtain ⟨q, hq, rfl⟩ := List.mem_map.1 hp
    obtain ⟨b, e1, e2⟩ := hat q hq
    simp only [hpOf, List.getD_eq_getElem?_getD, e1]; rfl)
  have hfz : ∀ p ∈ l, updHs (hpOf M) (frzB l) p.1 = some (.frz p.2) := fun p hp => updHs_mem (frzB l) (hpOf M) (p.1, .frz p.2) (by
    have : (frzB l).map (·.1) = l.map (·.1) := by simp [frzB, Function.comp_def]
    rw [this]; exact hnd) (List.mem_map.2 ⟨p, hp, rfl⟩)
  have hargs' : AllVal w F' (fun _ => none) (args.map (thaw l)) vs := by
    refine allVal_of (by simpa using hargs.1) fun j x hx => ?_
    rw [List.getElem?_map] at hx
    cases hy : args[j]? with
    | none => rw [hy] at hx; cases hx
    | some y =>
      rw [hy] at hx
      obtain rfl := Option.some.inj hx
      obtain ⟨v, e1, e2⟩ := AllVal.get hargs hy
      have e3 : Val w F' σ y v := e2.mono (fun _ _ => rfl) (fun g hg => hX'.f0 g hg) (fun _ _ h => h)
      have hids : idsA (thaw l y) = [] := by
        have : ∀ (xs : List AV), idsL xs = [] → ∀ x ∈ xs, idsA x = [] := by
          intro xs
          induction xs with
          | nil => intro _ x hx; cases hx
          | cons y r ih =>
            intro hl x hx
            simp only [idsL, List.append_eq_nil_iff] at hl
            rcases List.mem_cons.1 hx with rfl | hx
            · exact hl.1
            · exact ih hl.2 x hx
        exact this _ ha _ (List.mem_map.2 ⟨y, List.mem_of_getElem? hy, rfl⟩)
      exact ⟨v, e1, (e3.thaw hX' hfz).noIds hids (hfree M.length (Nat.le_refl _))⟩
  have hX0 : SimX ⟨w, F', blocksOf (fun _ => none) []⟩ noTM (hpOf []) act0 w (fun _ => none) F' :=
    ⟨rfl, fun t x h => (by cases h), fun id b h => by simp [hpOf] at h, fun id id' b b' sv sv' g h => by simp [hpOf] at h, fun id b sv g h => by simp [hpOf] at h, hX'.fl, fun _ h => h, fun g h _ => .inl h, rfl, rfl, rfl, Nat.le_refl _, fun _ _ _ => rfl⟩
  refine (h.spec w F' _ vs hX0 (fun _ _ => rfl) hargs').mono ?_
  rintro e w' ⟨v, σ', F2, rfl, _, hnone, hval, hS⟩
  have hsame : ∀ g, F' g → w'.heap[g]? = w.heap[g]? := fun g hg => hS.bel g (hX'.fl g hg) (fun ⟨i, b, sv, h1, _⟩ => by simp at h1)
  refine ⟨v, σ, F2, rfl, fun _ _ h => h, fun id hid => hfree id (by simp [hlen] at hid; exact hid), hval.noIds hr (hnone 0 (Nat.zero_le _)), ?_⟩
  refine ⟨rfl, fun t x h => (by cases h), ?_, ?_, ?_, hS.fl, fun g hg => hS.f0 g (hX'.f0 g hg), fun g hg hl => ?_, hS.os, hS.tape, hS.output, hS.size, fun g hg hM => ?_⟩
  · intro i b hb
    simp only [hpOf, List.getElem?_map] at hb
    cases hp : l[i]? with
    | none => rw [hp] at hb; cases hb
    | some p =>
      rw [hp] at hb
      obtain rfl := Option.some.inj hb
      have hiM : i < M.length := by rw [← hlen]; exact (List.getElem?_eq_some_iff.1 hp).1
      obtain ⟨x, e1, e2⟩ := i2 i M[i] (List.getElem?_eq_getElem hiM)
      rw [hp] at e2
      obtain rfl := Option.some.inj e2
      have := hfz _ (List.mem_of_getElem? hp)
      obtain ⟨sv, s1, s2⟩ := hX'.blk _ _ this
      simp only [Nat.zero_add] at s1
      exact ⟨sv, s1, s2.mono hsame (fun g hg => hS.f0 g hg) (fun _ _ h => h) (fun h => by cases h)⟩
  · intro i j b b' sv sv' g hb hb' hl
    simp only [hpOf, List.getElem?_map] at hb
    cases hp : l[i]? with
    | none => rw [hp] at hb; cases hb
    | some p => rw [hp] at hb; obtain rfl := Option.some.inj hb; cases hl
  · intro i b sv g hb hl
    simp only [hpOf, List.getElem?_map] at hb
    cases hp : l[i]? with
    | none => rw [hp] at hb; cases hb
    | some p => rw [hp] at hb; obtain rfl := Option.some.inj hb; cases hl
  · rcases hS.f1 g hg hl with h1 | ⟨i, b, sv, h1, _⟩
    · exact hX'.f1 g h1 hl
    · simp at h1
  · exact hS.bel g hg (fun ⟨i, b, sv, h1, _⟩ => by simp at h1)
end
end Go.Av

/- Short words over the program. -/
namespace Go.Av

mutual
/-- The lengths of the slices in a value. -/
def lens : AV → List Nat
  | .agg xs => lensL xs
  | .tuple xs => lensL xs
  | .fn _ xs => lensL xs
  | .fptr xs => lensL xs
  | .slice _ xs => [xs.length]
  | .opt _ _ => []
  | .ref _ => []
  | .bptr _ _ => []
  | .eptr _ _ _ _ => []
  | .any => []
  | .int _ _ => []
  | .bool _ => []
  | .str _ => []
  | .nils _ => []
def lensL : List AV → List Nat
  | [] => []
  | x :: r => lens x ++ lensL r
end
theorem lensL_mem : ∀ {xs : List AV} {n : Nat}, n ∈ lensL xs → ∃ (j : Nat) (x : AV), xs[j]? = some x ∧ n ∈ lens x
  | [], n, h => by simp [lensL] at h
  | x :: r, n, h => by
    simp only [lensL, List.mem_append] at h
    rcases h with h | h
    · exact ⟨0, x, rfl, h⟩
    · obtain ⟨j, y, h1, h2⟩ := lensL_mem h
      exact ⟨j + 1, y, by simpa using h1, h2⟩
theorem Val.lens {w : World} {F : Nat → Prop} {σ : Sig} {x : AV} {v : Value} (h : Val w F σ x v) : ∀ n ∈ Av.lens x, n ≤ maxLen := by
  induction h with
  | agg xs vs hl _ ih => intro n hn; simp only [Av.lens] at hn; obtain ⟨j, y, h1, h2⟩ := lensL_mem hn; exact ih j y h1 n h2
  | tuple xs vs hl _ ih => intro n hn; simp only [Av.lens] at hn; obtain ⟨j, y, h1, h2⟩ := lensL_mem hn; exact ih j y h1 n h2
  | fn f xs vs hl _ ih => intro n hn; simp only [Av.lens] at hn; obtain ⟨j, y, h1, h2⟩ := lensL_mem hn; exact ih j y h1 n h2
  | fptr xs ad cs h0 _ ih => intro n hn; simp only [Av.lens] at hn; obtain ⟨j, y, h1, h2⟩ := lensL_mem hn; exact ih j y h1 n h2
  | slice sz xs A c cs hc hm => intro n hn; simp [Av.lens] at hn; rw [hn]; exact hm
  | _ => intro n hn; simp [Av.lens] at hn

namespace Z
open Go.Proofs

theorem go {f : FuncId} {fn : Func} {c : Code} {M M' : List Blk} {args : List AV} {r : AV} (hf : P.funcs[f]? = some fn) (hna : (fn.name == "runtime.NumGoroutine") = false) (hb : fn.body = some c) (hla : Nat.ble args.length fn.ntmps = true) (hle : Nat.ble M.length M'.length = true)
    (h : (∀ n ∈ lensL args, n ≤ 9223372036854775807) → Den P (.code fn.ntmps M.length c (mkSt (argTm 0 args) M) (endQ TT fn M.length r M'))) : Con P f M args r M' := by
  by_cases hl : ∀ n ∈ lensL args, n ≤ 9223372036854775807
  · exact con_of hT hf hna hb hla hle (h hl).run
  · refine ⟨⟨fn, hf, hna, by rw [hb]; rfl⟩, fun w F σ vs hX hfree hargs => absurd (fun n hn => ?_) hl, Nat.le_of_ble_eq_true hle⟩
    obtain ⟨j, x, h1, h2⟩ := lensL_mem hn
    exact (hargs.2 j x h1).lens n h2

theorem loop {α : Type} {nt k : Nat} (st : α → St) (I : α → Prop) (μ : α → Nat) (x0 : α) (h0 : I x0) {c : Code} {S : St} {Q : Exit → St → Prop} (hl : Le k (st x0) S) (round : ∀ x, I x → Den P (.code nt k c (st x) (roundQ k st I μ x Q))) : AWP P nt k (.loop c) S Q :=
  awp_loop st I μ x0 h0 hl fun x hx => (round x hx).run
theorem w {g : G} (h : step1 P TT g) : Den P g := step1_ok hT hm h
/-- A loop's first round; its next. -/
theorem loop1 {nt k : Nat} {c : Code} {S : St} {Q : Exit → St → Prop} (h : Den P (.code nt k c S (unrollQ P nt k c Q))) : AWP P nt k (.loop c) S Q := awp_begun (lwp_round h.run)
theorem loop2 {nt k : Nat} {c : Code} {S : St} {Q : Exit → St → Prop} (h : Den P (.code nt k c S (unrollQ P nt k c Q))) : LWP P nt k c S Q := lwp_round h.run
/-- Steps as far as nothing is left open; the same, loops and told values as well. -/
theorem W0 {p q : Prop} (h : q) (f : q → p := by intro hq; (conv => whnf); (repeat (first | (refine w ?_; conv => whnf) | (refine ⟨fun h => absurd h Bool.false_ne_true, fun _ => ?_⟩; conv => whnf) | (refine ⟨fun _ => ?_, fun h => absurd h.symm Bool.false_ne_true⟩; conv => whnf))); exact hq) : p := f h
/-- An open order that is right. -/
theorem oO {all : List Oper} {Ls : List Log} {q : Prop} (h : q) (o : ordOk all Ls = true := by kernel_rfl) : ordOk all Ls = true ∧ q := ⟨o, h⟩
theorem V0 {p q : Prop} (h : q) (f : q → p := by intro hq; (conv => whnf); (repeat (first | (refine w ?_; conv => whnf) | (refine oO ?_; conv => whnf) | (refine ⟨fun h => absurd h Bool.false_ne_true, fun _ => ?_⟩; conv => whnf) | (refine ⟨fun _ => ?_, fun h => absurd h.symm Bool.false_ne_true⟩; conv => whnf))); exact hq) : p := f h
theorem R0 {p q : Prop} (h : q) (f : q → p := by intro hq; (conv => whnf); (repeat (first | (refine w ?_; conv => whnf) | (refine ⟨fun h => absurd h Bool.false_ne_true, fun _ => ?_⟩; conv => whnf) | (refine ⟨fun _ => ?_, fun h => absurd h.symm Bool.false_ne_true⟩; conv => whnf) | (refine ⟨by decide, _, rfl, ?_⟩; conv => whnf) | (refine ⟨_, rfl, ?_⟩; conv => whnf) | (refine ⟨by decide, ?_⟩; conv => whnf) | (refine loop1 ?_; conv => whnf) | (refine loop2 ?_; conv => whnf))); exact hq) : p := f h

/-- Whole numbers. -/
def nums (l : List Int) : List (List AV) := l.map fun n => [.int .i64 n]
theorem nums_at {l : List Int} {i : Nat} {n : Int} (h : l[i]? = some n) : (nums l)[i]? = some [.int .i64 n] := by simp [nums, h]
theorem nums_len (l : List Int) : (nums l).length = l.length := by simp [nums]
theorem nums_take (l : List Int) (i : Nat) {n : Int} (h : l[i]? = some n) : nums (l.take (i + 1)) = nums (l.take i) ++ [[.int .i64 n]] := by
  rw [List.take_add_one, h]; simp [nums]
theorem wrap_small {n : Int} (h1 : -9223372036854775808 ≤ n) (h2 : n < 9223372036854775808) : IntKind.i64.wrap n = n := by
  simp [IntKind.wrap, IntKind.bits, IntKind.signed]; omega
end Z
end Go.Av

/- A slice is compared with nil: what comes of it is not told, but where it has elements. -/
namespace Go.Av
variable {P : Program} {TT : TypeId → Option TI} {nt k : Nat}

theorem nilcmp_run {w : World} {ty e : TypeId} (hu : P.underlying ty = some (.slice e)) {A : Option Addr} {n c : Nat} : (binOp .eql ty (.slice A n c) (.slice none 0 0)).run P w = .ok (.bool A.isNone) w := by
  have h1 : ∀ m, (Op.equalIn (m + 1) ty (.slice A n c) (.slice none 0 0)).run P w = .ok A.isNone w := by
    intro m
    unfold Op.equalIn
    cases A <;> simp [run_underlying hu]
  have h2 : (Op.equalIn Op.maxDepth ty (.slice A n c) (.slice none 0 0)).run P w = .ok A.isNone w := h1 (Op.maxDepth - 1)
  simp [binOp, Op.equal, h2]

/-- A slice is moved and compared with nil. -/
theorem awp_nilcmp (hT : TOk P TT) {id : Nat} {ops : Array Oper} {o1 o2 : Oper} {t0 t3 t4 : Nat} {ty ty' e : TypeId} {i : TI} {sz : Nat} {xs : List (List AV)} {S : St} {Q : Exit → St → Prop} (hops : ops = #[o1, o2]) (g1 : o1.guard = none) (g2 : o2.guard = none) (h1 : o1.op = .move (.tmp t0)) (d1 : o1.dst = some t3)
    (h2 : o2.op = .binOp .eql ty (.tmp t3) (.const (.slice none 0 0)) ty') (d2 : o2.dst = some t4) (n1 : Nat.ble (t3 + 1) nt = true) (n2 : Nat.ble (t4 + 1) nt = true) (hi : TT ty = some i) (hk : i.k = .slice e)
    (hx : look S.tm t0 = some (.slice sz xs)) (h : ∀ b : Bool, (b = true → xs = []) → Q .normal ⟨(t4, .bool b) :: (t3, .slice sz xs) :: S.tm, S.hp, S.nx⟩) : AWP P nt k (.region id ops false) S Q := by
  subst hops
  have n1 := Nat.le_of_ble_eq_true n1
  have n2 := Nat.le_of_ble_eq_true n2
  obtain ⟨ti, dd, z, u1, u2, u3, _⟩ := hT.ok ty i hi
  rw [hk] at u3
  cases dd <;> simp [DescOk] at u3
  refine ⟨fun C a w σ F hk hs hX => wp_region ?_⟩
  show wpOps P #[o1, o2] _ [0, 1] a w
  rw [wpOps_cons]
  unfold wpOp
  simp only [List.getElem?_toArray, List.getElem?_cons_zero]
  rw [if_pos (by simp [Region.wanted, g1])]
  refine .inl (stepOk_move (P := P) (nt := nt) (rt := [(t0, .slice sz xs)]) (rh := []) d1 n1 (.inl h1) (.tmp t0 (.slice sz xs) (by simp)) C _ _ a w σ F hs hX.1 (by simpa using hx) (by simp) (by simp) _ _ fun a' w' σ' F' k1 k2 k3 => ?_)
  rw [wpOps_cons]
  unfold wpOp
  simp only [List.getElem?_toArray, List.getElem?_cons_succ, List.getElem?_cons_zero]
  rw [if_pos (by simp [Region.wanted, g2])]
  obtain ⟨v, hv, hV⟩ := k2.tmp t3 (.slice sz xs) (by simp [updO, updT])
  have hev : a'.eval (.tmp t3) = v := by simp [Act.eval, hv]
  cases hV with
  | slice sz xs A c cs hc hm hs2 h0 hval =>
    have hr : (execOp a'.eval o2).run P w' = .ok (.value (.bool A.isNone)) w' := by
      have hg : (eqGuard .eql ty (.tmp t3) (.const (.slice none 0 0)) (.slice A xs.length c) (.slice none 0 0)).run P w' = .ok () w' := by simp [eqGuard]
      have he2 : a'.eval (.const (.slice none 0 0)) = .slice none 0 0 := rfl
      simp [execOp, h2, hev, he2, hg, nilcmp_run u2]
    refine .inl (wp_value hr ?_)
    refine ⟨_, σ', F', h A.isNone (fun hb => ?_), hk, by rw [put_size]; exact k1, ⟨?_, fun id hid => ?_⟩, fun id hid => k3 id (by simp)⟩
    · cases hxs : xs with
      | nil => rfl
      | cons y r =>
        obtain ⟨ad, hA, _⟩ := h0 (by rw [hxs]; simp)
        rw [hA] at hb; cases hb
    · show SimX C (look ((t4, AV.bool A.isNone) :: (t3, .slice sz xs) :: S.tm)) _ _ _ _ _
      rw [look_consT, look_consT, d2]
      exact k2.put t4 _ _ (by rw [k1]; omega) (.bool _)
    · rw [k3 id (by simp)]; exact hX.2 id hid
end Go.Av

/- The program's values in plain Lean, and how they are told. -/
namespace Go.Av.Z

def I (n : Int) : AV := .int .i64 n
def B (b : Bool) : AV := .bool b
structure Edge where
  type : Int
  src : Int
  dst : Int
  deriving DecidableEq, Inhabited
def Edge.el (e : Edge) : List AV := [.int .i64 e.type, .int .i64 e.src, .int .i64 e.dst]
def Edge.av (e : Edge) : AV := .agg e.el
structure Graph where
  nodes : List Int
  edges : List Edge
  deriving DecidableEq, Inhabited
def edgs (l : List Edge) : List (List AV) := l.map Edge.el
def Graph.cs (g : Graph) : List AV := [.slice 1 (nums g.nodes), .slice 3 (edgs g.edges)]
def Graph.av (g : Graph) : AV := .agg g.cs
/-- A part, or a morphism: numbers of nodes and of edges. -/
structure Mor where
  nodes : List Int
  edges : List Int
  deriving DecidableEq, Inhabited
def Mor.cs (m : Mor) : List AV := [.slice 1 (nums m.nodes), .slice 1 (nums m.edges)]
def Mor.av (m : Mor) : AV := .agg m.cs
structure Term where
  var : Int
  add : Int
  deriving DecidableEq, Inhabited
structure Slot where
  node : Int
  attr : Int
  term : Term
  deriving DecidableEq, Inhabited
def Slot.el (s : Slot) : List AV := [.int .i64 s.node, .int .i64 s.attr, .int .i64 s.term.var, .int .i64 s.term.add]
structure Tst where
  kind : Int
  left : Term
  right : Term
  deriving DecidableEq, Inhabited
def Tst.el (s : Tst) : List AV := [.int .i64 s.kind, .int .i64 s.left.var, .int .i64 s.left.add, .int .i64 s.right.var, .int .i64 s.right.add]
def slts (l : List Slot) : List (List AV) := l.map Slot.el
def tsts (l : List Tst) : List (List AV) := l.map Tst.el
structure Pat where
  graph : Graph
  slots : List Slot
  vars : Int
  tests : List Tst
  deriving DecidableEq, Inhabited
def Pat.cs (p : Pat) : List AV := [.slice 1 (nums p.graph.nodes), .slice 3 (edgs p.graph.edges), .slice 4 (slts p.slots), .int .i64 p.vars, .slice 5 (tsts p.tests)]
def Pat.av (p : Pat) : AV := .agg p.cs
inductive Cond where
  | mk (kind : Int) (kids : List Cond) (map : Mor) (pat : Pat)
  deriving Inhabited
def Cond.kind : Cond → Int | .mk k _ _ _ => k
def Cond.kids : Cond → List Cond | .mk _ k _ _ => k
def Cond.map : Cond → Mor | .mk _ _ m _ => m
def Cond.pat : Cond → Pat | .mk _ _ _ p => p
mutual
def Cond.el : Cond → List AV
  | .mk kind kids map pat => [.int .i64 kind, .slice 9 (cnds kids), .slice 1 (nums map.nodes), .slice 1 (nums map.edges), .slice 1 (nums pat.graph.nodes), .slice 3 (edgs pat.graph.edges), .slice 4 (slts pat.slots), .int .i64 pat.vars, .slice 5 (tsts pat.tests)]
def cnds : List Cond → List (List AV)
  | [] => []
  | c :: r => c.el :: cnds r
end
theorem cnds_map : ∀ l : List Cond, cnds l = l.map Cond.el
  | [] => by simp [cnds]
  | c :: r => by simp [cnds, cnds_map r]
/-- A condition's cells, told by its parts. -/
def Cond.cs (c : Cond) : List AV := [.int .i64 c.kind, .slice 9 (cnds c.kids), .slice 1 (nums c.map.nodes), .slice 1 (nums c.map.edges), .slice 1 (nums c.pat.graph.nodes), .slice 3 (edgs c.pat.graph.edges), .slice 4 (slts c.pat.slots), .int .i64 c.pat.vars, .slice 5 (tsts c.pat.tests)]
theorem Cond.el_cs (c : Cond) : c.el = c.cs := by cases c; simp [Cond.el, Cond.cs, Cond.kind, Cond.kids, Cond.map, Cond.pat]
def Cond.av (c : Cond) : AV := .agg c.cs
structure Rule where
  name : ByteArray
  left : Pat
  right : Pat
  keep : Mor
  into : Mor
  inj : Bool
  cond : Cond
def Rule.cs (r : Rule) : List AV := [.str r.name,
  .slice 1 (nums r.left.graph.nodes), .slice 3 (edgs r.left.graph.edges), .slice 4 (slts r.left.slots), .int .i64 r.left.vars, .slice 5 (tsts r.left.tests),
  .slice 1 (nums r.right.graph.nodes), .slice 3 (edgs r.right.graph.edges), .slice 4 (slts r.right.slots), .int .i64 r.right.vars, .slice 5 (tsts r.right.tests),
  .slice 1 (nums r.keep.nodes), .slice 1 (nums r.keep.edges), .slice 1 (nums r.into.nodes), .slice 1 (nums r.into.edges), .bool r.inj,
  .int .i64 r.cond.kind, .slice 9 (cnds r.cond.kids), .slice 1 (nums r.cond.map.nodes), .slice 1 (nums r.cond.map.edges), .slice 1 (nums r.cond.pat.graph.nodes), .slice 3 (edgs r.cond.pat.graph.edges), .slice 4 (slts r.cond.pat.slots), .int .i64 r.cond.pat.vars, .slice 5 (tsts r.cond.pat.tests)]
def Rule.av (r : Rule) : AV := .agg r.cs
def strs (l : List ByteArray) : List (List AV) := l.map fun s => [.str s]
structure Attr where
  name : ByteArray
  low : Int
  high : Int
  names : List ByteArray
  deriving Inhabited
def Attr.el (a : Attr) : List AV := [.str a.name, .int .i64 a.low, .int .i64 a.high, .slice 1 (strs a.names)]
def atts (l : List Attr) : List (List AV) := l.map Attr.el
structure NodeT where
  name : ByteArray
  parent : Int
  abs : Bool
  attrs : List Attr
  deriving Inhabited
def NodeT.el (n : NodeT) : List AV := [.str n.name, .int .i64 n.parent, .bool n.abs, .slice 4 (atts n.attrs)]
def ndts (l : List NodeT) : List (List AV) := l.map NodeT.el
structure EdgeT where
  name : ByteArray
  src : Int
  dst : Int
  outLow : Int
  outHigh : Int
  inLow : Int
  inHigh : Int
  deriving Inhabited
def EdgeT.el (e : EdgeT) : List AV := [.str e.name, .int .i64 e.src, .int .i64 e.dst, .int .i64 e.outLow, .int .i64 e.outHigh, .int .i64 e.inLow, .int .i64 e.inHigh]
def edts (l : List EdgeT) : List (List AV) := l.map EdgeT.el
structure Types where
  nodes : List NodeT
  edges : List EdgeT
def Types.cs (t : Types) : List AV := [.slice 4 (ndts t.nodes), .slice 7 (edts t.edges)]

section
variable {i : Nat}
theorem edgs_at {l : List Edge} {x : Edge} (h : l[i]? = some x) : (edgs l)[i]? = some x.el := by simp [edgs, h]
theorem slts_at {l : List Slot} {x : Slot} (h : l[i]? = some x) : (slts l)[i]? = some x.el := by simp [slts, h]
theorem tsts_at {l : List Tst} {x : Tst} (h : l[i]? = some x) : (tsts l)[i]? = some x.el := by simp [tsts, h]
theorem cnds_at {l : List Cond} {x : Cond} (h : l[i]? = some x) : (cnds l)[i]? = some x.cs := by simp [cnds_map, h, Cond.el_cs]
theorem ndts_at {l : List NodeT} {x : NodeT} (h : l[i]? = some x) : (ndts l)[i]? = some x.el := by simp [ndts, h]
theorem edts_at {l : List EdgeT} {x : EdgeT} (h : l[i]? = some x) : (edts l)[i]? = some x.el := by simp [edts, h]
theorem atts_at {l : List Attr} {x : Attr} (h : l[i]? = some x) : (atts l)[i]? = some x.el := by simp [atts, h]
theorem strs_at {l : List ByteArray} {x : ByteArray} (h : l[i]? = some x) : (strs l)[i]? = some [.str x] := by simp [strs, h]
end
theorem edgs_len (l : List Edge) : (edgs l).length = l.length := by simp [edgs]
theorem slts_len (l : List Slot) : (slts l).length = l.length := by simp [slts]
theorem tsts_len (l : List Tst) : (tsts l).length = l.length := by simp [tsts]
theorem cnds_len (l : List Cond) : (cnds l).length = l.length := by simp [cnds_map]
theorem ndts_len (l : List NodeT) : (ndts l).length = l.length := by simp [ndts]
theorem edts_len (l : List EdgeT) : (edts l).length = l.length := by simp [edts]
theorem atts_len (l : List Attr) : (atts l).length = l.length := by simp [atts]
theorem strs_len (l : List ByteArray) : (strs l).length = l.length := by simp [strs]

/-- The first place at which p holds, or -1. -/
def idx {α : Type} (p : α → Bool) (l : List α) : Int := match l.findIdx? p with
  | some i => i
  | none => -1
theorem idx_none {α : Type} {p : α → Bool} {l : List α} (h : ∀ x ∈ l, p x = false) : idx p l = -1 := by
  have : l.findIdx? p = none := by rw [List.findIdx?_eq_none_iff]; exact h
  simp [idx, this]
theorem idx_some {α : Type} {p : α → Bool} {l : List α} {i : Nat} {x : α} (h : ∀ j y, j < i → l[j]? = some y → p y = false) (hx : l[i]? = some x) (hp : p x = true) : idx p l = i := by
  have : l.findIdx? p = some i := by
    rw [List.findIdx?_eq_some_iff_getElem]
    obtain ⟨h1, h2⟩ := List.getElem?_eq_some_iff.1 hx
    exact ⟨h1, by rw [h2]; exact hp, fun j hj => by simpa using h j l[j] hj (List.getElem?_eq_getElem _)⟩
  simp [idx, this]
theorem idx_any {α : Type} (p : α → Bool) (l : List α) : decide (0 ≤ idx p l) = l.any p := by
  unfold idx
  cases h : l.findIdx? p with
  | none =>
    rw [List.findIdx?_eq_none_iff] at h
    have : l.any p = false := by rw [List.any_eq_false]; intro x hx; simp [h x hx]
    rw [this]; rfl
  | some i =>
    rw [List.findIdx?_eq_some_iff_getElem] at h
    obtain ⟨h1, h2, _⟩ := h
    have : l.any p = true := List.any_eq_true.2 ⟨l[i], List.getElem_mem h1, h2⟩
    rw [this]; simp
/-- Nothing so far, and nothing here: nothing up to here. -/
theorem none_upto {α : Type} {p : α → Bool} {l : List α} {i : Nat} {x : α} (h : ∀ j y, j < i → l[j]? = some y → p y = false) (hx : l[i]? = some x) (hp : p x = false) : ∀ j y, j < i + 1 → l[j]? = some y → p y = false := by
  intro j y hj hy
  rcases Nat.lt_or_ge j i with h' | h'
  · exact h j y h' hy
  · have : j = i := by omega
    subst this; rw [hx] at hy; cases hy; exact hp
theorem none_all {α : Type} {p : α → Bool} {l : List α} {i : Nat} (h : ∀ j y, j < i → l[j]? = some y → p y = false) (hi : l.length ≤ i) : ∀ x ∈ l, p x = false := by
  intro x hx
  obtain ⟨j, hj⟩ := List.mem_iff_getElem?.1 hx
  exact h j x (by have := (List.getElem?_eq_some_iff.1 hj).1; omega) hj
theorem step_num {i n : Nat} (h : i < n) (hn : n ≤ 9223372036854775807) : AV.int .i64 (IntKind.i64.wrap ((i : Int) + 1)) = AV.int .i64 ((i + 1 : Nat) : Int) := by
  rw [wrap_small (by omega) (by omega)]; simp
end Go.Av.Z

/- The searches of Go's library in lists. -/
namespace Go.Av.Z
open Go.Proofs

theorem c157 (l : List Int) (f : Nat) (p : Int → Bool) (hp : ∀ x ∈ l, Con P f [] [AV.int .i64 x] (.bool (p x)) []) : Con P 157 [] [.slice 1 (nums l), .fn f []] (.int .i64 (idx p l)) [] := by
  refine go Tryz.func157 (by rfl) rfl rfl rfl fun hl => ?_
  have hn : l.length ≤ 9223372036854775807 := by
    have := hl (nums l).length (by simp [lensL, lens])
    rwa [nums_len] at this
  refine W0 ?_
  refine loop (fun i : Nat => mkSt [(8, .int .i64 i), (7, .int .i64 l.length), (0, .slice 1 (nums l)), (1, .fn f [])] []) (fun i => i ≤ l.length ∧ ∀ j y, j < i → l[j]? = some y → p y = false) (fun i => l.length - i) 0 ⟨Nat.zero_le _, fun j y h => by omega⟩
    (le_of [] rfl rfl rfl ⟨rfl, by rw [nums_len]; rfl, rfl, rfl, trivial⟩ trivial) ?_
  rintro i ⟨hi, hno⟩
  refine W0 ?_
  refine ⟨fun hlt => ?_, fun hge => ?_⟩
  · have hlt : i < l.length := by simpa using hlt
    have hx : l[i]? = some l[i] := List.getElem?_eq_getElem hlt
    refine W0 ?_
    refine ⟨by omega, _, nums_at hx, ?_⟩
    refine W0 ?_
    refine ⟨_, _, hp l[i] (List.getElem_mem hlt), ?_⟩
    refine W0 ?_
    refine ⟨fun ht => ?_, fun hf => ?_⟩
    · refine W0 ?_
      refine fin_frz TT ?_ rfl
      rw [idx_some hno hx ht]; rfl
    · refine W0 ?_
      exact ⟨i + 1, ⟨hlt, none_upto hno hx hf⟩, by show l.length - (i + 1) < l.length - i; omega, le_of [] rfl rfl rfl ⟨step_num hlt hn, rfl, rfl, rfl, trivial⟩ trivial⟩
  · have hge : ¬ i < l.length := by simpa using hge
    refine W0 ?_
    refine fin_frz TT ?_ rfl
    rw [idx_none (none_all hno (by omega))]; rfl
theorem c99 (l : List Int) (f : Nat) (p : Int → Bool) (hp : ∀ x ∈ l, Con P f [] [AV.int .i64 x] (.bool (p x)) []) : Con P 99 [] [.slice 1 (nums l), .fn f []] (.bool (l.any p)) [] := by
  refine go Tryz.func99 (by rfl) rfl rfl rfl fun hl => ?_
  refine W0 ?_
  refine ⟨_, _, c157 l f p hp, ?_⟩
  refine W0 ?_
  refine fin_frz TT ?_ rfl
  rw [← idx_any]; rfl

theorem c158 (l : List Edge) (f : Nat) (p : Edge → Bool) (hp : ∀ x ∈ l, Con P f [] [AV.agg x.el] (.bool (p x)) []) : Con P 158 [] [.slice 3 (edgs l), .fn f []] (.int .i64 (idx p l)) [] := by
  refine go Tryz.func158 (by rfl) rfl rfl rfl fun hl => ?_
  have hn : l.length ≤ 9223372036854775807 := by
    have := hl (edgs l).length (by simp [lensL, lens])
    rwa [edgs_len] at this
  refine W0 ?_
  refine loop (fun i : Nat => mkSt [(8, .int .i64 i), (7, .int .i64 l.length), (0, .slice 3 (edgs l)), (1, .fn f [])] []) (fun i => i ≤ l.length ∧ ∀ j y, j < i → l[j]? = some y → p y = false) (fun i => l.length - i) 0 ⟨Nat.zero_le _, fun j y h => by omega⟩
    (le_of [] rfl rfl rfl ⟨rfl, by rw [edgs_len]; rfl, rfl, rfl, trivial⟩ trivial) ?_
  rintro i ⟨hi, hno⟩
  refine W0 ?_
  refine ⟨fun hlt => ?_, fun hge => ?_⟩
  · have hlt : i < l.length := by simpa using hlt
    have hx : l[i]? = some l[i] := List.getElem?_eq_getElem hlt
    refine W0 ?_
    refine ⟨by omega, _, edgs_at hx, ?_⟩
    refine W0 ?_
    refine ⟨_, _, hp l[i] (List.getElem_mem hlt), ?_⟩
    refine W0 ?_
    refine ⟨fun ht => ?_, fun hf => ?_⟩
    · refine W0 ?_
      refine fin_frz TT ?_ rfl
      rw [idx_some hno hx ht]; rfl
    · refine W0 ?_
      exact ⟨i + 1, ⟨hlt, none_upto hno hx hf⟩, by show l.length - (i + 1) < l.length - i; omega, le_of [] rfl rfl rfl ⟨step_num hlt hn, rfl, rfl, rfl, trivial⟩ trivial⟩
  · have hge : ¬ i < l.length := by simpa using hge
    refine W0 ?_
    refine fin_frz TT ?_ rfl
    rw [idx_none (none_all hno (by omega))]; rfl
theorem c102 (l : List Edge) (f : Nat) (p : Edge → Bool) (hp : ∀ x ∈ l, Con P f [] [AV.agg x.el] (.bool (p x)) []) : Con P 102 [] [.slice 3 (edgs l), .fn f []] (.bool (l.any p)) [] := by
  refine go Tryz.func102 (by rfl) rfl rfl rfl fun hl => ?_
  refine W0 ?_
  refine ⟨_, _, c158 l f p hp, ?_⟩
  refine W0 ?_
  refine fin_frz TT ?_ rfl
  rw [← idx_any]; rfl

theorem c158a (cs : List AV) (l : List Edge) (f : Nat) (p : Edge → Bool) (hp : ∀ x ∈ l, Con P f [] (AV.agg x.el :: [.fptr cs]) (.bool (p x)) []) : Con P 158 [] [.slice 3 (edgs l), .fn f [.fptr cs]] (.int .i64 (idx p l)) [] := by
  refine go Tryz.func158 (by rfl) rfl rfl rfl fun hl => ?_
  have hn : l.length ≤ 9223372036854775807 := by
    have := hl (edgs l).length (by simp [lensL, lens])
    rwa [edgs_len] at this
  refine W0 ?_
  refine loop (fun i : Nat => mkSt [(8, .int .i64 i), (7, .int .i64 l.length), (0, .slice 3 (edgs l)), (1, .fn f [.fptr cs])] []) (fun i => i ≤ l.length ∧ ∀ j y, j < i → l[j]? = some y → p y = false) (fun i => l.length - i) 0 ⟨Nat.zero_le _, fun j y h => by omega⟩
    (le_of [] rfl rfl rfl ⟨rfl, by rw [edgs_len]; rfl, rfl, rfl, trivial⟩ trivial) ?_
  rintro i ⟨hi, hno⟩
  refine W0 ?_
  refine ⟨fun hlt => ?_, fun hge => ?_⟩
  · have hlt : i < l.length := by simpa using hlt
    have hx : l[i]? = some l[i] := List.getElem?_eq_getElem hlt
    refine W0 ?_
    refine ⟨by omega, _, edgs_at hx, ?_⟩
    refine W0 ?_
    refine ⟨_, _, hp l[i] (List.getElem_mem hlt), ?_⟩
    refine W0 ?_
    refine ⟨fun ht => ?_, fun hf => ?_⟩
    · refine W0 ?_
      refine fin_frz TT ?_ rfl
      rw [idx_some hno hx ht]; rfl
    · refine W0 ?_
      exact ⟨i + 1, ⟨hlt, none_upto hno hx hf⟩, by show l.length - (i + 1) < l.length - i; omega, le_of [] rfl rfl rfl ⟨step_num hlt hn, rfl, rfl, rfl, trivial⟩ trivial⟩
  · have hge : ¬ i < l.length := by simpa using hge
    refine W0 ?_
    refine fin_frz TT ?_ rfl
    rw [idx_none (none_all hno (by omega))]; rfl
theorem c102a (cs : List AV) (l : List Edge) (f : Nat) (p : Edge → Bool) (hp : ∀ x ∈ l, Con P f [] (AV.agg x.el :: [.fptr cs]) (.bool (p x)) []) : Con P 102 [] [.slice 3 (edgs l), .fn f [.fptr cs]] (.bool (l.any p)) [] := by
  refine go Tryz.func102 (by rfl) rfl rfl rfl fun hl => ?_
  refine W0 ?_
  refine ⟨_, _, c158a cs l f p hp, ?_⟩
  refine W0 ?_
  refine fin_frz TT ?_ rfl
  rw [← idx_any]; rfl

theorem c158b (cs ds : List AV) (l : List Edge) (f : Nat) (p : Edge → Bool) (hp : ∀ x ∈ l, Con P f [] (AV.agg x.el :: [.fptr cs, .fptr ds]) (.bool (p x)) []) : Con P 158 [] [.slice 3 (edgs l), .fn f [.fptr cs, .fptr ds]] (.int .i64 (idx p l)) [] := by
  refine go Tryz.func158 (by rfl) rfl rfl rfl fun hl => ?_
  have hn : l.length ≤ 9223372036854775807 := by
    have := hl (edgs l).length (by simp [lensL, lens])
    rwa [edgs_len] at this
  refine W0 ?_
  refine loop (fun i : Nat => mkSt [(8, .int .i64 i), (7, .int .i64 l.length), (0, .slice 3 (edgs l)), (1, .fn f [.fptr cs, .fptr ds])] []) (fun i => i ≤ l.length ∧ ∀ j y, j < i → l[j]? = some y → p y = false) (fun i => l.length - i) 0 ⟨Nat.zero_le _, fun j y h => by omega⟩
    (le_of [] rfl rfl rfl ⟨rfl, by rw [edgs_len]; rfl, rfl, rfl, trivial⟩ trivial) ?_
  rintro i ⟨hi, hno⟩
  refine W0 ?_
  refine ⟨fun hlt => ?_, fun hge => ?_⟩
  · have hlt : i < l.length := by simpa using hlt
    have hx : l[i]? = some l[i] := List.getElem?_eq_getElem hlt
    refine W0 ?_
    refine ⟨by omega, _, edgs_at hx, ?_⟩
    refine W0 ?_
    refine ⟨_, _, hp l[i] (List.getElem_mem hlt), ?_⟩
    refine W0 ?_
    refine ⟨fun ht => ?_, fun hf => ?_⟩
    · refine W0 ?_
      refine fin_frz TT ?_ rfl
      rw [idx_some hno hx ht]; rfl
    · refine W0 ?_
      exact ⟨i + 1, ⟨hlt, none_upto hno hx hf⟩, by show l.length - (i + 1) < l.length - i; omega, le_of [] rfl rfl rfl ⟨step_num hlt hn, rfl, rfl, rfl, trivial⟩ trivial⟩
  · have hge : ¬ i < l.length := by simpa using hge
    refine W0 ?_
    refine fin_frz TT ?_ rfl
    rw [idx_none (none_all hno (by omega))]; rfl
theorem c102b (cs ds : List AV) (l : List Edge) (f : Nat) (p : Edge → Bool) (hp : ∀ x ∈ l, Con P f [] (AV.agg x.el :: [.fptr cs, .fptr ds]) (.bool (p x)) []) : Con P 102 [] [.slice 3 (edgs l), .fn f [.fptr cs, .fptr ds]] (.bool (l.any p)) [] := by
  refine go Tryz.func102 (by rfl) rfl rfl rfl fun hl => ?_
  refine W0 ?_
  refine ⟨_, _, c158b cs ds l f p hp, ?_⟩
  refine W0 ?_
  refine fin_frz TT ?_ rfl
  rw [← idx_any]; rfl

theorem c202 (l : List NodeT) (f : Nat) (p : NodeT → Bool) (hp : ∀ x ∈ l, Con P f [] [AV.agg x.el] (.bool (p x)) []) : Con P 202 [] [.slice 4 (ndts l), .fn f []] (.int .i64 (idx p l)) [] := by
  refine go Tryz.func202 (by rfl) rfl rfl rfl fun hl => ?_
  have hn : l.length ≤ 9223372036854775807 := by
    have := hl (ndts l).length (by simp [lensL, lens])
    rwa [ndts_len] at this
  refine W0 ?_
  refine loop (fun i : Nat => mkSt [(8, .int .i64 i), (7, .int .i64 l.length), (0, .slice 4 (ndts l)), (1, .fn f [])] []) (fun i => i ≤ l.length ∧ ∀ j y, j < i → l[j]? = some y → p y = false) (fun i => l.length - i) 0 ⟨Nat.zero_le _, fun j y h => by omega⟩
    (le_of [] rfl rfl rfl ⟨rfl, by rw [ndts_len]; rfl, rfl, rfl, trivial⟩ trivial) ?_
  rintro i ⟨hi, hno⟩
  refine W0 ?_
  refine ⟨fun hlt => ?_, fun hge => ?_⟩
  · have hlt : i < l.length := by simpa using hlt
    have hx : l[i]? = some l[i] := List.getElem?_eq_getElem hlt
    refine W0 ?_
    refine ⟨by omega, _, ndts_at hx, ?_⟩
    refine W0 ?_
    refine ⟨_, _, hp l[i] (List.getElem_mem hlt), ?_⟩
    refine W0 ?_
    refine ⟨fun ht => ?_, fun hf => ?_⟩
    · refine W0 ?_
      refine fin_frz TT ?_ rfl
      rw [idx_some hno hx ht]; rfl
    · refine W0 ?_
      exact ⟨i + 1, ⟨hlt, none_upto hno hx hf⟩, by show l.length - (i + 1) < l.length - i; omega, le_of [] rfl rfl rfl ⟨step_num hlt hn, rfl, rfl, rfl, trivial⟩ trivial⟩
  · have hge : ¬ i < l.length := by simpa using hge
    refine W0 ?_
    refine fin_frz TT ?_ rfl
    rw [idx_none (none_all hno (by omega))]; rfl
theorem c152 (l : List NodeT) (f : Nat) (p : NodeT → Bool) (hp : ∀ x ∈ l, Con P f [] [AV.agg x.el] (.bool (p x)) []) : Con P 152 [] [.slice 4 (ndts l), .fn f []] (.bool (l.any p)) [] := by
  refine go Tryz.func152 (by rfl) rfl rfl rfl fun hl => ?_
  refine W0 ?_
  refine ⟨_, _, c202 l f p hp, ?_⟩
  refine W0 ?_
  refine fin_frz TT ?_ rfl
  rw [← idx_any]; rfl

theorem c202a (cs : List AV) (l : List NodeT) (f : Nat) (p : NodeT → Bool) (hp : ∀ x ∈ l, Con P f [] (AV.agg x.el :: [.fptr cs]) (.bool (p x)) []) : Con P 202 [] [.slice 4 (ndts l), .fn f [.fptr cs]] (.int .i64 (idx p l)) [] := by
  refine go Tryz.func202 (by rfl) rfl rfl rfl fun hl => ?_
  have hn : l.length ≤ 9223372036854775807 := by
    have := hl (ndts l).length (by simp [lensL, lens])
    rwa [ndts_len] at this
  refine W0 ?_
  refine loop (fun i : Nat => mkSt [(8, .int .i64 i), (7, .int .i64 l.length), (0, .slice 4 (ndts l)), (1, .fn f [.fptr cs])] []) (fun i => i ≤ l.length ∧ ∀ j y, j < i → l[j]? = some y → p y = false) (fun i => l.length - i) 0 ⟨Nat.zero_le _, fun j y h => by omega⟩
    (le_of [] rfl rfl rfl ⟨rfl, by rw [ndts_len]; rfl, rfl, rfl, trivial⟩ trivial) ?_
  rintro i ⟨hi, hno⟩
  refine W0 ?_
  refine ⟨fun hlt => ?_, fun hge => ?_⟩
  · have hlt : i < l.length := by simpa using hlt
    have hx : l[i]? = some l[i] := List.getElem?_eq_getElem hlt
    refine W0 ?_
    refine ⟨by omega, _, ndts_at hx, ?_⟩
    refine W0 ?_
    refine ⟨_, _, hp l[i] (List.getElem_mem hlt), ?_⟩
    refine W0 ?_
    refine ⟨fun ht => ?_, fun hf => ?_⟩
    · refine W0 ?_
      refine fin_frz TT ?_ rfl
      rw [idx_some hno hx ht]; rfl
    · refine W0 ?_
      exact ⟨i + 1, ⟨hlt, none_upto hno hx hf⟩, by show l.length - (i + 1) < l.length - i; omega, le_of [] rfl rfl rfl ⟨step_num hlt hn, rfl, rfl, rfl, trivial⟩ trivial⟩
  · have hge : ¬ i < l.length := by simpa using hge
    refine W0 ?_
    refine fin_frz TT ?_ rfl
    rw [idx_none (none_all hno (by omega))]; rfl
theorem c152a (cs : List AV) (l : List NodeT) (f : Nat) (p : NodeT → Bool) (hp : ∀ x ∈ l, Con P f [] (AV.agg x.el :: [.fptr cs]) (.bool (p x)) []) : Con P 152 [] [.slice 4 (ndts l), .fn f [.fptr cs]] (.bool (l.any p)) [] := by
  refine go Tryz.func152 (by rfl) rfl rfl rfl fun hl => ?_
  refine W0 ?_
  refine ⟨_, _, c202a cs l f p hp, ?_⟩
  refine W0 ?_
  refine fin_frz TT ?_ rfl
  rw [← idx_any]; rfl

theorem c202b (cs ds : List AV) (l : List NodeT) (f : Nat) (p : NodeT → Bool) (hp : ∀ x ∈ l, Con P f [] (AV.agg x.el :: [.fptr cs, .fptr ds]) (.bool (p x)) []) : Con P 202 [] [.slice 4 (ndts l), .fn f [.fptr cs, .fptr ds]] (.int .i64 (idx p l)) [] := by
  refine go Tryz.func202 (by rfl) rfl rfl rfl fun hl => ?_
  have hn : l.length ≤ 9223372036854775807 := by
    have := hl (ndts l).length (by simp [lensL, lens])
    rwa [ndts_len] at this
  refine W0 ?_
  refine loop (fun i : Nat => mkSt [(8, .int .i64 i), (7, .int .i64 l.length), (0, .slice 4 (ndts l)), (1, .fn f [.fptr cs, .fptr ds])] []) (fun i => i ≤ l.length ∧ ∀ j y, j < i → l[j]? = some y → p y = false) (fun i => l.length - i) 0 ⟨Nat.zero_le _, fun j y h => by omega⟩
    (le_of [] rfl rfl rfl ⟨rfl, by rw [ndts_len]; rfl, rfl, rfl, trivial⟩ trivial) ?_
  rintro i ⟨hi, hno⟩
  refine W0 ?_
  refine ⟨fun hlt => ?_, fun hge => ?_⟩
  · have hlt : i < l.length := by simpa using hlt
    have hx : l[i]? = some l[i] := List.getElem?_eq_getElem hlt
    refine W0 ?_
    refine ⟨by omega, _, ndts_at hx, ?_⟩
    refine W0 ?_
    refine ⟨_, _, hp l[i] (List.getElem_mem hlt), ?_⟩
    refine W0 ?_
    refine ⟨fun ht => ?_, fun hf => ?_⟩
    · refine W0 ?_
      refine fin_frz TT ?_ rfl
      rw [idx_some hno hx ht]; rfl
    · refine W0 ?_
      exact ⟨i + 1, ⟨hlt, none_upto hno hx hf⟩, by show l.length - (i + 1) < l.length - i; omega, le_of [] rfl rfl rfl ⟨step_num hlt hn, rfl, rfl, rfl, trivial⟩ trivial⟩
  · have hge : ¬ i < l.length := by simpa using hge
    refine W0 ?_
    refine fin_frz TT ?_ rfl
    rw [idx_none (none_all hno (by omega))]; rfl
theorem c152b (cs ds : List AV) (l : List NodeT) (f : Nat) (p : NodeT → Bool) (hp : ∀ x ∈ l, Con P f [] (AV.agg x.el :: [.fptr cs, .fptr ds]) (.bool (p x)) []) : Con P 152 [] [.slice 4 (ndts l), .fn f [.fptr cs, .fptr ds]] (.bool (l.any p)) [] := by
  refine go Tryz.func152 (by rfl) rfl rfl rfl fun hl => ?_
  refine W0 ?_
  refine ⟨_, _, c202b cs ds l f p hp, ?_⟩
  refine W0 ?_
  refine fin_frz TT ?_ rfl
  rw [← idx_any]; rfl

theorem c259 (l : List Attr) (f : Nat) (p : Attr → Bool) (hp : ∀ x ∈ l, Con P f [] [AV.agg x.el] (.bool (p x)) []) : Con P 259 [] [.slice 4 (atts l), .fn f []] (.int .i64 (idx p l)) [] := by
  refine go Tryz.func259 (by rfl) rfl rfl rfl fun hl => ?_
  have hn : l.length ≤ 9223372036854775807 := by
    have := hl (atts l).length (by simp [lensL, lens])
    rwa [atts_len] at this
  refine W0 ?_
  refine loop (fun i : Nat => mkSt [(8, .int .i64 i), (7, .int .i64 l.length), (0, .slice 4 (atts l)), (1, .fn f [])] []) (fun i => i ≤ l.length ∧ ∀ j y, j < i → l[j]? = some y → p y = false) (fun i => l.length - i) 0 ⟨Nat.zero_le _, fun j y h => by omega⟩
    (le_of [] rfl rfl rfl ⟨rfl, by rw [atts_len]; rfl, rfl, rfl, trivial⟩ trivial) ?_
  rintro i ⟨hi, hno⟩
  refine W0 ?_
  refine ⟨fun hlt => ?_, fun hge => ?_⟩
  · have hlt : i < l.length := by simpa using hlt
    have hx : l[i]? = some l[i] := List.getElem?_eq_getElem hlt
    refine W0 ?_
    refine ⟨by omega, _, atts_at hx, ?_⟩
    refine W0 ?_
    refine ⟨_, _, hp l[i] (List.getElem_mem hlt), ?_⟩
    refine W0 ?_
    refine ⟨fun ht => ?_, fun hf => ?_⟩
    · refine W0 ?_
      refine fin_frz TT ?_ rfl
      rw [idx_some hno hx ht]; rfl
    · refine W0 ?_
      exact ⟨i + 1, ⟨hlt, none_upto hno hx hf⟩, by show l.length - (i + 1) < l.length - i; omega, le_of [] rfl rfl rfl ⟨step_num hlt hn, rfl, rfl, rfl, trivial⟩ trivial⟩
  · have hge : ¬ i < l.length := by simpa using hge
    refine W0 ?_
    refine fin_frz TT ?_ rfl
    rw [idx_none (none_all hno (by omega))]; rfl
theorem c225 (l : List Attr) (f : Nat) (p : Attr → Bool) (hp : ∀ x ∈ l, Con P f [] [AV.agg x.el] (.bool (p x)) []) : Con P 225 [] [.slice 4 (atts l), .fn f []] (.bool (l.any p)) [] := by
  refine go Tryz.func225 (by rfl) rfl rfl rfl fun hl => ?_
  refine W0 ?_
  refine ⟨_, _, c259 l f p hp, ?_⟩
  refine W0 ?_
  refine fin_frz TT ?_ rfl
  rw [← idx_any]; rfl

theorem c259a (cs : List AV) (l : List Attr) (f : Nat) (p : Attr → Bool) (hp : ∀ x ∈ l, Con P f [] (AV.agg x.el :: [.fptr cs]) (.bool (p x)) []) : Con P 259 [] [.slice 4 (atts l), .fn f [.fptr cs]] (.int .i64 (idx p l)) [] := by
  refine go Tryz.func259 (by rfl) rfl rfl rfl fun hl => ?_
  have hn : l.length ≤ 9223372036854775807 := by
    have := hl (atts l).length (by simp [lensL, lens])
    rwa [atts_len] at this
  refine W0 ?_
  refine loop (fun i : Nat => mkSt [(8, .int .i64 i), (7, .int .i64 l.length), (0, .slice 4 (atts l)), (1, .fn f [.fptr cs])] []) (fun i => i ≤ l.length ∧ ∀ j y, j < i → l[j]? = some y → p y = false) (fun i => l.length - i) 0 ⟨Nat.zero_le _, fun j y h => by omega⟩
    (le_of [] rfl rfl rfl ⟨rfl, by rw [atts_len]; rfl, rfl, rfl, trivial⟩ trivial) ?_
  rintro i ⟨hi, hno⟩
  refine W0 ?_
  refine ⟨fun hlt => ?_, fun hge => ?_⟩
  · have hlt : i < l.length := by simpa using hlt
    have hx : l[i]? = some l[i] := List.getElem?_eq_getElem hlt
    refine W0 ?_
    refine ⟨by omega, _, atts_at hx, ?_⟩
    refine W0 ?_
    refine ⟨_, _, hp l[i] (List.getElem_mem hlt), ?_⟩
    refine W0 ?_
    refine ⟨fun ht => ?_, fun hf => ?_⟩
    · refine W0 ?_
      refine fin_frz TT ?_ rfl
      rw [idx_some hno hx ht]; rfl
    · refine W0 ?_
      exact ⟨i + 1, ⟨hlt, none_upto hno hx hf⟩, by show l.length - (i + 1) < l.length - i; omega, le_of [] rfl rfl rfl ⟨step_num hlt hn, rfl, rfl, rfl, trivial⟩ trivial⟩
  · have hge : ¬ i < l.length := by simpa using hge
    refine W0 ?_
    refine fin_frz TT ?_ rfl
    rw [idx_none (none_all hno (by omega))]; rfl
theorem c225a (cs : List AV) (l : List Attr) (f : Nat) (p : Attr → Bool) (hp : ∀ x ∈ l, Con P f [] (AV.agg x.el :: [.fptr cs]) (.bool (p x)) []) : Con P 225 [] [.slice 4 (atts l), .fn f [.fptr cs]] (.bool (l.any p)) [] := by
  refine go Tryz.func225 (by rfl) rfl rfl rfl fun hl => ?_
  refine W0 ?_
  refine ⟨_, _, c259a cs l f p hp, ?_⟩
  refine W0 ?_
  refine fin_frz TT ?_ rfl
  rw [← idx_any]; rfl

theorem c259b (cs ds : List AV) (l : List Attr) (f : Nat) (p : Attr → Bool) (hp : ∀ x ∈ l, Con P f [] (AV.agg x.el :: [.fptr cs, .fptr ds]) (.bool (p x)) []) : Con P 259 [] [.slice 4 (atts l), .fn f [.fptr cs, .fptr ds]] (.int .i64 (idx p l)) [] := by
  refine go Tryz.func259 (by rfl) rfl rfl rfl fun hl => ?_
  have hn : l.length ≤ 9223372036854775807 := by
    have := hl (atts l).length (by simp [lensL, lens])
    rwa [atts_len] at this
  refine W0 ?_
  refine loop (fun i : Nat => mkSt [(8, .int .i64 i), (7, .int .i64 l.length), (0, .slice 4 (atts l)), (1, .fn f [.fptr cs, .fptr ds])] []) (fun i => i ≤ l.length ∧ ∀ j y, j < i → l[j]? = some y → p y = false) (fun i => l.length - i) 0 ⟨Nat.zero_le _, fun j y h => by omega⟩
    (le_of [] rfl rfl rfl ⟨rfl, by rw [atts_len]; rfl, rfl, rfl, trivial⟩ trivial) ?_
  rintro i ⟨hi, hno⟩
  refine W0 ?_
  refine ⟨fun hlt => ?_, fun hge => ?_⟩
  · have hlt : i < l.length := by simpa using hlt
    have hx : l[i]? = some l[i] := List.getElem?_eq_getElem hlt
    refine W0 ?_
    refine ⟨by omega, _, atts_at hx, ?_⟩
    refine W0 ?_
    refine ⟨_, _, hp l[i] (List.getElem_mem hlt), ?_⟩
    refine W0 ?_
    refine ⟨fun ht => ?_, fun hf => ?_⟩
    · refine W0 ?_
      refine fin_frz TT ?_ rfl
      rw [idx_some hno hx ht]; rfl
    · refine W0 ?_
      exact ⟨i + 1, ⟨hlt, none_upto hno hx hf⟩, by show l.length - (i + 1) < l.length - i; omega, le_of [] rfl rfl rfl ⟨step_num hlt hn, rfl, rfl, rfl, trivial⟩ trivial⟩
  · have hge : ¬ i < l.length := by simpa using hge
    refine W0 ?_
    refine fin_frz TT ?_ rfl
    rw [idx_none (none_all hno (by omega))]; rfl
theorem c225b (cs ds : List AV) (l : List Attr) (f : Nat) (p : Attr → Bool) (hp : ∀ x ∈ l, Con P f [] (AV.agg x.el :: [.fptr cs, .fptr ds]) (.bool (p x)) []) : Con P 225 [] [.slice 4 (atts l), .fn f [.fptr cs, .fptr ds]] (.bool (l.any p)) [] := by
  refine go Tryz.func225 (by rfl) rfl rfl rfl fun hl => ?_
  refine W0 ?_
  refine ⟨_, _, c259b cs ds l f p hp, ?_⟩
  refine W0 ?_
  refine fin_frz TT ?_ rfl
  rw [← idx_any]; rfl

theorem c228 (l : List EdgeT) (f : Nat) (p : EdgeT → Bool) (hp : ∀ x ∈ l, Con P f [] [AV.agg x.el] (.bool (p x)) []) : Con P 228 [] [.slice 7 (edts l), .fn f []] (.int .i64 (idx p l)) [] := by
  refine go Tryz.func228 (by rfl) rfl rfl rfl fun hl => ?_
  have hn : l.length ≤ 9223372036854775807 := by
    have := hl (edts l).length (by simp [lensL, lens])
    rwa [edts_len] at this
  refine W0 ?_
  refine loop (fun i : Nat => mkSt [(8, .int .i64 i), (7, .int .i64 l.length), (0, .slice 7 (edts l)), (1, .fn f [])] []) (fun i => i ≤ l.length ∧ ∀ j y, j < i → l[j]? = some y → p y = false) (fun i => l.length - i) 0 ⟨Nat.zero_le _, fun j y h => by omega⟩
    (le_of [] rfl rfl rfl ⟨rfl, by rw [edts_len]; rfl, rfl, rfl, trivial⟩ trivial) ?_
  rintro i ⟨hi, hno⟩
  refine W0 ?_
  refine ⟨fun hlt => ?_, fun hge => ?_⟩
  · have hlt : i < l.length := by simpa using hlt
    have hx : l[i]? = some l[i] := List.getElem?_eq_getElem hlt
    refine W0 ?_
    refine ⟨by omega, _, edts_at hx, ?_⟩
    refine W0 ?_
    refine ⟨_, _, hp l[i] (List.getElem_mem hlt), ?_⟩
    refine W0 ?_
    refine ⟨fun ht => ?_, fun hf => ?_⟩
    · refine W0 ?_
      refine fin_frz TT ?_ rfl
      rw [idx_some hno hx ht]; rfl
    · refine W0 ?_
      exact ⟨i + 1, ⟨hlt, none_upto hno hx hf⟩, by show l.length - (i + 1) < l.length - i; omega, le_of [] rfl rfl rfl ⟨step_num hlt hn, rfl, rfl, rfl, trivial⟩ trivial⟩
  · have hge : ¬ i < l.length := by simpa using hge
    refine W0 ?_
    refine fin_frz TT ?_ rfl
    rw [idx_none (none_all hno (by omega))]; rfl
theorem c182 (l : List EdgeT) (f : Nat) (p : EdgeT → Bool) (hp : ∀ x ∈ l, Con P f [] [AV.agg x.el] (.bool (p x)) []) : Con P 182 [] [.slice 7 (edts l), .fn f []] (.bool (l.any p)) [] := by
  refine go Tryz.func182 (by rfl) rfl rfl rfl fun hl => ?_
  refine W0 ?_
  refine ⟨_, _, c228 l f p hp, ?_⟩
  refine W0 ?_
  refine fin_frz TT ?_ rfl
  rw [← idx_any]; rfl

theorem c228a (cs : List AV) (l : List EdgeT) (f : Nat) (p : EdgeT → Bool) (hp : ∀ x ∈ l, Con P f [] (AV.agg x.el :: [.fptr cs]) (.bool (p x)) []) : Con P 228 [] [.slice 7 (edts l), .fn f [.fptr cs]] (.int .i64 (idx p l)) [] := by
  refine go Tryz.func228 (by rfl) rfl rfl rfl fun hl => ?_
  have hn : l.length ≤ 9223372036854775807 := by
    have := hl (edts l).length (by simp [lensL, lens])
    rwa [edts_len] at this
  refine W0 ?_
  refine loop (fun i : Nat => mkSt [(8, .int .i64 i), (7, .int .i64 l.length), (0, .slice 7 (edts l)), (1, .fn f [.fptr cs])] []) (fun i => i ≤ l.length ∧ ∀ j y, j < i → l[j]? = some y → p y = false) (fun i => l.length - i) 0 ⟨Nat.zero_le _, fun j y h => by omega⟩
    (le_of [] rfl rfl rfl ⟨rfl, by rw [edts_len]; rfl, rfl, rfl, trivial⟩ trivial) ?_
  rintro i ⟨hi, hno⟩
  refine W0 ?_
  refine ⟨fun hlt => ?_, fun hge => ?_⟩
  · have hlt : i < l.length := by simpa using hlt
    have hx : l[i]? = some l[i] := List.getElem?_eq_getElem hlt
    refine W0 ?_
    refine ⟨by omega, _, edts_at hx, ?_⟩
    refine W0 ?_
    refine ⟨_, _, hp l[i] (List.getElem_mem hlt), ?_⟩
    refine W0 ?_
    refine ⟨fun ht => ?_, fun hf => ?_⟩
    · refine W0 ?_
      refine fin_frz TT ?_ rfl
      rw [idx_some hno hx ht]; rfl
    · refine W0 ?_
      exact ⟨i + 1, ⟨hlt, none_upto hno hx hf⟩, by show l.length - (i + 1) < l.length - i; omega, le_of [] rfl rfl rfl ⟨step_num hlt hn, rfl, rfl, rfl, trivial⟩ trivial⟩
  · have hge : ¬ i < l.length := by simpa using hge
    refine W0 ?_
    refine fin_frz TT ?_ rfl
    rw [idx_none (none_all hno (by omega))]; rfl
theorem c182a (cs : List AV) (l : List EdgeT) (f : Nat) (p : EdgeT → Bool) (hp : ∀ x ∈ l, Con P f [] (AV.agg x.el :: [.fptr cs]) (.bool (p x)) []) : Con P 182 [] [.slice 7 (edts l), .fn f [.fptr cs]] (.bool (l.any p)) [] := by
  refine go Tryz.func182 (by rfl) rfl rfl rfl fun hl => ?_
  refine W0 ?_
  refine ⟨_, _, c228a cs l f p hp, ?_⟩
  refine W0 ?_
  refine fin_frz TT ?_ rfl
  rw [← idx_any]; rfl

theorem c228b (cs ds : List AV) (l : List EdgeT) (f : Nat) (p : EdgeT → Bool) (hp : ∀ x ∈ l, Con P f [] (AV.agg x.el :: [.fptr cs, .fptr ds]) (.bool (p x)) []) : Con P 228 [] [.slice 7 (edts l), .fn f [.fptr cs, .fptr ds]] (.int .i64 (idx p l)) [] := by
  refine go Tryz.func228 (by rfl) rfl rfl rfl fun hl => ?_
  have hn : l.length ≤ 9223372036854775807 := by
    have := hl (edts l).length (by simp [lensL, lens])
    rwa [edts_len] at this
  refine W0 ?_
  refine loop (fun i : Nat => mkSt [(8, .int .i64 i), (7, .int .i64 l.length), (0, .slice 7 (edts l)), (1, .fn f [.fptr cs, .fptr ds])] []) (fun i => i ≤ l.length ∧ ∀ j y, j < i → l[j]? = some y → p y = false) (fun i => l.length - i) 0 ⟨Nat.zero_le _, fun j y h => by omega⟩
    (le_of [] rfl rfl rfl ⟨rfl, by rw [edts_len]; rfl, rfl, rfl, trivial⟩ trivial) ?_
  rintro i ⟨hi, hno⟩
  refine W0 ?_
  refine ⟨fun hlt => ?_, fun hge => ?_⟩
  · have hlt : i < l.length := by simpa using hlt
    have hx : l[i]? = some l[i] := List.getElem?_eq_getElem hlt
    refine W0 ?_
    refine ⟨by omega, _, edts_at hx, ?_⟩
    refine W0 ?_
    refine ⟨_, _, hp l[i] (List.getElem_mem hlt), ?_⟩
    refine W0 ?_
    refine ⟨fun ht => ?_, fun hf => ?_⟩
    · refine W0 ?_
      refine fin_frz TT ?_ rfl
      rw [idx_some hno hx ht]; rfl
    · refine W0 ?_
      exact ⟨i + 1, ⟨hlt, none_upto hno hx hf⟩, by show l.length - (i + 1) < l.length - i; omega, le_of [] rfl rfl rfl ⟨step_num hlt hn, rfl, rfl, rfl, trivial⟩ trivial⟩
  · have hge : ¬ i < l.length := by simpa using hge
    refine W0 ?_
    refine fin_frz TT ?_ rfl
    rw [idx_none (none_all hno (by omega))]; rfl
theorem c182b (cs ds : List AV) (l : List EdgeT) (f : Nat) (p : EdgeT → Bool) (hp : ∀ x ∈ l, Con P f [] (AV.agg x.el :: [.fptr cs, .fptr ds]) (.bool (p x)) []) : Con P 182 [] [.slice 7 (edts l), .fn f [.fptr cs, .fptr ds]] (.bool (l.any p)) [] := by
  refine go Tryz.func182 (by rfl) rfl rfl rfl fun hl => ?_
  refine W0 ?_
  refine ⟨_, _, c228b cs ds l f p hp, ?_⟩
  refine W0 ?_
  refine fin_frz TT ?_ rfl
  rw [← idx_any]; rfl

end Go.Av.Z

/- Graphs: what is valid. -/
namespace Go.Av.Z
open Go.Proofs

def within (n most : Int) : Bool := decide (0 ≤ n) && decide (n ≤ most)
theorem c101 (n m : Int) : Con P 101 [] [.int .i64 n, .int .i64 m] (.bool (within n m)) [] := by
  refine go Tryz.func101 (by rfl) rfl rfl rfl fun _ => ?_
  refine W0 ?_
  refine ⟨fun h => ?_, fun h => ?_⟩
  · refine W0 ?_
    refine fin_frz TT ?_ rfl
    have h : 0 ≤ n := by simpa using h
    simp [within, h]; rfl
  · refine W0 ?_
    refine fin_frz TT ?_ rfl
    have h : ¬ 0 ≤ n := by simpa using h
    simp [within, h]; rfl
theorem c100 (n : Int) : Con P 100 [] [.int .i64 n] (.bool (!within n 99)) [] := by
  refine go Tryz.func100 (by rfl) rfl rfl rfl fun _ => ?_
  refine W0 ?_
  refine ⟨_, _, c101 _ _, ?_⟩
  refine W0 ?_
  exact fin_frz TT rfl rfl
def fits (e : Edge) (n : Nat) : Bool := within e.type 99 && (within e.src (n - 1) && within e.dst (n - 1))
theorem c104 (e : Edge) (n : Nat) (hn : n ≤ 9223372036854775807) : Con P 104 [] [.agg e.el, .int .i64 n] (.bool (fits e n)) [] := by
  refine go Tryz.func104 (by rfl) rfl rfl rfl fun _ => ?_
  refine W0 ?_
  refine ⟨_, _, c101 _ _, ?_⟩
  refine W0 ?_
  have hs : IntKind.i64.wrap ((n : Int) - 1) = n - 1 := wrap_small (by omega) (by omega)
  refine ⟨fun h1 => ?_, fun h1 => ?_⟩
  · refine W0 ?_
    refine ⟨_, _, c101 _ _, ?_⟩
    refine W0 ?_
    refine ⟨fun h2 => ?_, fun h2 => ?_⟩
    · refine W0 ?_
      refine ⟨_, _, c101 _ _, ?_⟩
      refine W0 ?_
      refine fin_frz TT ?_ rfl
      rw [hs] at h2 ⊢
      simp [fits, h1, h2]; rfl
    · refine W0 ?_
      refine fin_frz TT ?_ rfl
      rw [hs] at h2
      simp [fits, h1, h2]; rfl
  · refine W0 ?_
    refine fin_frz TT ?_ rfl
    simp [fits, h1]; rfl
theorem c103 (e : Edge) (g : Graph) (hn : g.nodes.length ≤ 9223372036854775807) : Con P 103 [] [.agg e.el, .fptr g.cs] (.bool (!fits e g.nodes.length)) [] := by
  refine go Tryz.func103 (by rfl) rfl rfl rfl fun _ => ?_
  refine W0 ?_
  rw [nums_len]
  refine ⟨_, _, c104 e _ hn, ?_⟩
  refine W0 ?_
  exact fin_frz TT rfl rfl

/-- The error of a graph. -/
def gval (g : Graph) : Int :=
  if g.nodes.length > 40 ∨ g.edges.length > 80 then 3 else if g.nodes.any (fun n => !within n 99) then 6 else if g.edges.any (fun e => !fits e g.nodes.length) then 6 else 0
theorem c45 (g : Graph) : Con P 45 [] [g.av] (.int .i64 (gval g)) [] := by
  refine go Tryz.func45 (by rfl) rfl rfl rfl fun _ => ?_
  refine W0 ?_
  rw [nums_len]
  refine ⟨fun h1 => ?_, fun h1 => ?_⟩
  · have h1 : 40 < g.nodes.length := by have := of_decide_eq_true h1; omega
    refine W0 ?_
    refine fin_frz TT ?_ rfl
    rw [gval, if_pos (.inl h1)]; rfl
  · have h1 : ¬ 40 < g.nodes.length := by have := of_decide_eq_false h1; omega
    refine W0 ?_
    rw [edgs_len]
    refine ⟨fun h2 => ?_, fun h2 => ?_⟩
    · have h2 : 80 < g.edges.length := by have := of_decide_eq_true h2; omega
      refine W0 ?_
      refine fin_frz TT ?_ rfl
      rw [gval, if_pos (.inr h2)]; rfl
    · have h2 : ¬ 80 < g.edges.length := by have := of_decide_eq_false h2; omega
      have h12 : ¬ (g.nodes.length > 40 ∨ g.edges.length > 80) := by omega
      refine W0 ?_
      refine ⟨_, _, c99 g.nodes 100 (fun n => !within n 99) (fun n _ => c100 n), ?_⟩
      refine W0 ?_
      refine ⟨fun h3 => ?_, fun h3 => ?_⟩
      · refine W0 ?_
        refine fin_frz TT ?_ rfl
        rw [gval, if_neg h12, if_pos h3]; rfl
      · refine W0 ?_
        refine ⟨_, _, con_frz rfl rfl rfl (c102a g.cs g.edges 103 (fun e => !fits e g.nodes.length) (fun e _ => c103 e g (by omega))), ?_⟩
        refine W0 ?_
        refine ⟨fun h4 => ?_, fun h4 => ?_⟩
        · refine W0 ?_
          refine fin_frz TT ?_ rfl
          rw [gval, if_neg h12, if_neg (by simp [h3]), if_pos h4]; rfl
        · refine W0 ?_
          refine fin_frz TT ?_ rfl
          rw [gval, if_neg h12, if_neg (by simp [h3]), if_neg (by simp [h4])]; rfl
end Go.Av.Z

/- Morphisms: what is valid. -/
namespace Go.Av.Z
open Go.Proofs

/-- The first number that isn't zero of those that f gives for the elements of a list, with their places. -/
def errs {α : Type} (f : Nat → α → Int) : Nat → List α → Int
  | _, [] => 0
  | i, x :: r => if f i x = 0 then errs f (i + 1) r else f i x
theorem errs_zero {α : Type} {f : Nat → α → Int} : ∀ {l : List α} {n : Nat}, (∀ (j : Nat) (x : α), l[j]? = some x → f (n + j) x = 0) → errs f n l = 0
  | [], n, _ => rfl
  | x :: r, n, h => by
    unfold errs
    rw [if_pos (by simpa using h 0 x rfl)]
    exact errs_zero fun j y hy => by have := h (j + 1) y (by simpa using hy); rw [show n + 1 + j = n + (j + 1) by omega]; exact this
theorem errs_at {α : Type} {f : Nat → α → Int} : ∀ {l : List α} {n i : Nat} {x : α}, (∀ (j : Nat) (y : α), j < i → l[j]? = some y → f (n + j) y = 0) → l[i]? = some x → f (n + i) x ≠ 0 → errs f n l = f (n + i) x
  | [], n, i, x, _, h, _ => by simp at h
  | y :: r, n, 0, x, h, hx, hf => by
    simp at hx; subst hx
    unfold errs
    rw [if_neg (by simpa using hf)]; rfl
  | y :: r, n, i + 1, x, h, hx, hf => by
    unfold errs
    rw [if_pos (by simpa using h 0 y (by omega) rfl)]
    have := errs_at (f := f) (l := r) (n := n + 1) (i := i) (x := x) (fun j z hj hz => by have := h (j + 1) z (by omega) (by simpa using hz); rw [show n + 1 + j = n + (j + 1) by omega]; exact this) (by simpa using hx) (by rw [show n + 1 + i = n + (i + 1) by omega]; exact hf)
    rw [this, show n + 1 + i = n + (i + 1) by omega]
theorem zero_upto {α : Type} {f : Nat → α → Int} {l : List α} {i : Nat} {x : α} (h : ∀ j y, j < i → l[j]? = some y → f j y = 0) (hx : l[i]? = some x) (hf : f i x = 0) : ∀ j y, j < i + 1 → l[j]? = some y → f j y = 0 := by
  intro j y hj hy
  rcases Nat.lt_or_ge j i with h' | h'
  · exact h j y h' hy
  · have : j = i := by omega
    subst this; rw [hx] at hy; cases hy; exact hf
theorem errs_all {α : Type} {f : Nat → α → Int} {l : List α} {i : Nat} (h : ∀ j y, j < i → l[j]? = some y → f j y = 0) (hi : l.length ≤ i) : errs f 0 l = 0 :=
  errs_zero fun j x hx => by rw [Nat.zero_add]; exact h j x (by have := (List.getElem?_eq_some_iff.1 hx).1; omega) hx
theorem errs_first {α : Type} {f : Nat → α → Int} {l : List α} {i : Nat} {x : α} (h : ∀ j y, j < i → l[j]? = some y → f j y = 0) (hx : l[i]? = some x) (hf : f i x ≠ 0) : errs f 0 l = f i x := by
  have := errs_at (f := f) (l := l) (n := 0) (i := i) (x := x) (fun j y hj hy => by rw [Nat.zero_add]; exact h j y hj hy) hx (by rw [Nat.zero_add]; exact hf)
  rwa [Nat.zero_add] at this

/-- A place of a list. -/
def at0 (l : List Int) (n : Int) : Int := l.getD n.toNat 0
def atE (l : List Edge) (n : Int) : Edge := l.getD n.toNat default
theorem at0_some {l : List Int} {n : Int} (h : n.toNat < l.length) : l[n.toNat]? = some (at0 l n) := by
  simp [at0, List.getD_eq_getElem?_getD, List.getElem?_eq_getElem h]
theorem atE_some {l : List Edge} {n : Int} (h : n.toNat < l.length) : l[n.toNat]? = some (atE l n) := by
  simp [atE, List.getD_eq_getElem?_getD, List.getElem?_eq_getElem h]

def mnode (a b : Graph) (i : Nat) (k : Int) : Int :=
  if k < 0 ∨ (b.nodes.length : Int) ≤ k then 6 else if at0 b.nodes k ≠ at0 a.nodes i then 13 else 0
def medge (a b : Graph) (m : Mor) (i : Nat) (k : Int) : Int :=
  if k < 0 ∨ (b.edges.length : Int) ≤ k then 6 else if (atE a.edges i).type ≠ (atE b.edges k).type then 13
  else if at0 m.nodes (atE a.edges i).src ≠ (atE b.edges k).src ∨ at0 m.nodes (atE a.edges i).dst ≠ (atE b.edges k).dst then 11 else 0
/-- The error of a morphism. -/
def mval (a b : Graph) (m : Mor) : Int :=
  if gval a ≠ 0 then gval a else if gval b ≠ 0 then gval b else if m.nodes.length ≠ a.nodes.length ∨ m.edges.length ≠ a.edges.length then 20
  else if errs (mnode a b) 0 m.nodes ≠ 0 then errs (mnode a b) 0 m.nodes else errs (medge a b m) 0 m.edges

theorem gval_len {g : Graph} (h : gval g = 0) : g.nodes.length ≤ 40 ∧ g.edges.length ≤ 80 := by
  unfold gval at h
  split at h
  · cases h
  · omega

theorem gval_edge {g : Graph} (h : gval g = 0) {i : Nat} {e : Edge} (he : g.edges[i]? = some e) : 0 ≤ e.src ∧ e.src < g.nodes.length ∧ 0 ≤ e.dst ∧ e.dst < g.nodes.length ∧ 0 ≤ e.type ∧ e.type ≤ 99 := by
  unfold gval at h
  split at h
  · cases h
  · split at h
    · cases h
    · split at h
      · cases h
      · rename_i h3
        have h3 : g.edges.any (fun e => !fits e g.nodes.length) = false := by simpa using h3
        rw [List.any_eq_false] at h3
        have := h3 e (List.mem_of_getElem? he)
        simp [fits, within] at this
        omega

theorem c85 (a b : Graph) (m : Mor) : Con P 85 [] [a.av, b.av, m.av] (.int .i64 (mval a b m)) [] := by
  refine go Tryz.func85 (by rfl) rfl rfl rfl fun hl => ?_
  refine W0 ?_
  refine ⟨_, _, c45 a, ?_⟩
  refine W0 ?_
  refine ⟨fun h1 => ?_, fun h1 => ?_⟩
  · refine W0 ?_
    refine fin_frz TT ?_ rfl
    have h1 : gval a ≠ 0 := by simpa using h1
    rw [mval, if_pos h1]; rfl
  have h1 : gval a = 0 := by simpa using h1
  refine W0 ?_
  refine ⟨_, _, c45 b, ?_⟩
  refine W0 ?_
  refine ⟨fun h2 => ?_, fun h2 => ?_⟩
  · refine W0 ?_
    refine fin_frz TT ?_ rfl
    have h2 : gval b ≠ 0 := by simpa using h2
    rw [mval, if_neg (by omega), if_pos h2]; rfl
  have h2 : gval b = 0 := by simpa using h2
  refine W0 ?_
  rw [nums_len, nums_len]
  have key : ∀ h3 : m.nodes.length ≠ a.nodes.length ∨ m.edges.length ≠ a.edges.length, mval a b m = 20 := fun h3 => by rw [mval, if_neg (by omega), if_neg (by omega), if_pos h3]
  refine ⟨fun h3 => ?_, fun h3 => ?_⟩
  · have h3 : m.nodes.length ≠ a.nodes.length := by have : ((m.nodes.length : Int) != (a.nodes.length : Int)) = true := h3; simp at this; omega
    refine W0 ?_
    refine fin_frz TT ?_ rfl
    rw [key (.inl h3)]; rfl
  have h3 : m.nodes.length = a.nodes.length := by have : ((m.nodes.length : Int) != (a.nodes.length : Int)) = false := h3; simp at this; omega
  refine W0 ?_
  rw [nums_len, edgs_len]
  refine ⟨fun h4 => ?_, fun h4 => ?_⟩
  · have h4 : m.edges.length ≠ a.edges.length := by have : ((m.edges.length : Int) != (a.edges.length : Int)) = true := h4; simp at this; omega
    refine W0 ?_
    refine fin_frz TT ?_ rfl
    rw [key (.inr h4)]; rfl
  have h4 : m.edges.length = a.edges.length := by have : ((m.edges.length : Int) != (a.edges.length : Int)) = false := h4; simp at this; omega
  refine W0 ?_
  have hb : b.nodes.length ≤ 40 ∧ b.edges.length ≤ 80 := gval_len h2
  have ha : a.nodes.length ≤ 40 ∧ a.edges.length ≤ 80 := gval_len h1
  refine loop (fun i : Nat => mkSt [(44, .int .i64 i), (43, .int .i64 m.nodes.length), (42, .slice 1 (nums m.nodes)), (3, .bptr 0 0), (4, .bptr 1 0), (5, .bptr 2 0)] [.box 29 a.cs, .box 29 b.cs, .box 36 m.cs]) (fun i => i ≤ m.nodes.length ∧ ∀ j y, j < i → m.nodes[j]? = some y → mnode a b j y = 0) (fun i => m.nodes.length - i) 0 ⟨Nat.zero_le _, fun j y h => by omega⟩
    (le_of [0, 1, 2] rfl rfl rfl ⟨rfl, by rw [nums_len]; rfl, rfl, rfl, rfl, rfl, trivial⟩ ⟨rfl, rfl, rfl, trivial⟩) ?_
  · rintro i ⟨hi, hno⟩
    refine W0 ?_
    refine ⟨fun hlt => ?_, fun hge => ?_⟩
    · have hlt : i < m.nodes.length := by simpa using hlt
      have hx : m.nodes[i]? = some m.nodes[i] := List.getElem?_eq_getElem hlt
      generalize m.nodes[i] = k at hx
      refine W0 ?_
      refine ⟨by omega, _, nums_at hx, ?_⟩
      refine W0 ?_
      have bad : ∀ e : Int, mnode a b i k = e → e ≠ 0 → mval a b m = e := fun e he hne => by
        have := errs_first hno hx (by rw [he]; exact hne)
        rw [mval, if_neg (by omega), if_neg (by omega), if_neg (by omega), if_pos (by rw [this, he]; exact hne), this, he]
      refine ⟨fun h5 => ?_, fun h5 => ?_⟩
      · have h5 : k < 0 := by simpa using h5
        refine W0 ?_
        refine fin_frz TT ?_ rfl
        rw [bad 6 (by rw [mnode, if_pos (.inl h5)]) (by decide)]; rfl
      · have h5 : ¬ k < 0 := by simpa using h5
        refine W0 ?_
        rw [nums_len]
        refine ⟨fun h6 => ?_, fun h6 => ?_⟩
        · have h6 : (b.nodes.length : Int) ≤ k := by simpa using h6
          refine W0 ?_
          refine fin_frz TT ?_ rfl
          rw [bad 6 (by rw [mnode, if_pos (.inr h6)]) (by decide)]; rfl
        · have h6 : ¬ (b.nodes.length : Int) ≤ k := by simpa using h6
          refine W0 ?_
          refine ⟨by omega, _, nums_at (at0_some (by omega)), ?_⟩
          refine W0 ?_
          have e0 : ((i : Int)).toNat = i := by omega
          refine ⟨by omega, _, nums_at (at0_some (by omega)), ?_⟩
          refine W0 ?_
          refine ⟨rfl, ?_⟩
          refine W0 ?_
          refine ⟨fun h7 => ?_, fun h7 => ?_⟩
          · have h7 : at0 b.nodes k ≠ at0 a.nodes i := by simpa using h7
            refine W0 ?_
            refine fin_frz TT ?_ rfl
            rw [bad 13 (by rw [mnode, if_neg (by omega), if_pos h7]) (by decide)]; rfl
          · have h7 : at0 b.nodes k = at0 a.nodes i := by simpa using h7
            refine W0 ?_
            exact ⟨i + 1, ⟨hlt, zero_upto hno hx (by rw [mnode, if_neg (by omega), if_neg (by simpa using h7)])⟩, by show m.nodes.length - (i + 1) < m.nodes.length - i; omega, le_of [0, 1, 2] rfl rfl rfl ⟨step_num hlt (by omega), rfl, rfl, rfl, rfl, rfl, trivial⟩ ⟨rfl, rfl, rfl, trivial⟩⟩
    · have hge : ¬ i < m.nodes.length := by simpa using hge
      have hz : errs (mnode a b) 0 m.nodes = 0 := errs_all hno (by omega)
      refine W0 ?_
      refine loop (fun i : Nat => mkSt [(73, .int .i64 i), (72, .int .i64 m.edges.length), (71, .slice 1 (nums m.edges)), (3, .bptr 0 0), (4, .bptr 1 0), (5, .bptr 2 0)] [.box 29 a.cs, .box 29 b.cs, .box 36 m.cs]) (fun i => i ≤ m.edges.length ∧ ∀ j y, j < i → m.edges[j]? = some y → medge a b m j y = 0) (fun i => m.edges.length - i) 0 ⟨Nat.zero_le _, fun j y h => by omega⟩
        (le_of [0, 1, 2] rfl rfl rfl ⟨rfl, by rw [nums_len]; rfl, rfl, rfl, rfl, rfl, trivial⟩ ⟨rfl, rfl, rfl, trivial⟩) ?_
      clear hno hi
      rintro i ⟨hi, hno⟩
      refine W0 ?_
      refine ⟨fun hlt => ?_, fun hge => ?_⟩
      · have hlt : i < m.edges.length := by simpa using hlt
        have hx : m.edges[i]? = some m.edges[i] := List.getElem?_eq_getElem hlt
        generalize m.edges[i] = k at hx
        refine W0 ?_
        refine ⟨by omega, _, nums_at hx, ?_⟩
        refine W0 ?_
        have bad : ∀ e : Int, medge a b m i k = e → e ≠ 0 → mval a b m = e := fun e he hne => by
          have := errs_first hno hx (by rw [he]; exact hne)
          rw [mval, if_neg (by omega), if_neg (by omega), if_neg (by omega), if_neg (by omega), this, he]
        refine ⟨fun h5 => ?_, fun h5 => ?_⟩
        · have h5 : k < 0 := by simpa using h5
          refine W0 ?_
          refine fin_frz TT ?_ rfl
          rw [bad 6 (by rw [medge, if_pos (.inl h5)]) (by decide)]; rfl
        have h5 : ¬ k < 0 := by simpa using h5
        refine W0 ?_
        rw [edgs_len]
        refine ⟨fun h6 => ?_, fun h6 => ?_⟩
        · have h6 : (b.edges.length : Int) ≤ k := by simpa using h6
          refine W0 ?_
          refine fin_frz TT ?_ rfl
          rw [bad 6 (by rw [medge, if_pos (.inr h6)]) (by decide)]; rfl
        have h6 : ¬ (b.edges.length : Int) ≤ k := by simpa using h6
        have hin := gval_edge h1 (atE_some (l := a.edges) (n := i) (by omega))
        generalize hea : atE a.edges i = x at *
        generalize heb : atE b.edges k = y at *
        refine W0 ?_
        refine ⟨by omega, _, edgs_at (by rw [atE_some (by omega), hea]), ?_⟩
        refine W0 ?_
        refine ⟨by omega, _, edgs_at (by rw [atE_some (by omega), heb]), ?_⟩
        refine W0 ?_
        refine ⟨rfl, ?_⟩
        refine W0 ?_
        refine ⟨fun h7 => ?_, fun h7 => ?_⟩
        · have h7 : x.type ≠ y.type := by simpa using h7
          refine W0 ?_
          refine fin_frz TT ?_ rfl
          rw [bad 13 (by rw [medge, if_neg (by omega), hea, heb, if_pos h7]) (by decide)]; rfl
        have h7 : x.type = y.type := by simpa using h7
        refine W0 ?_
        refine ⟨by omega, _, nums_at (at0_some (by omega)), ?_⟩
        refine W0 ?_
        refine ⟨fun h8 => ?_, fun h8 => ?_⟩
        · have h8 : at0 m.nodes x.src ≠ y.src := by simpa using h8
          refine W0 ?_
          refine ⟨rfl, ?_⟩
          refine W0 ?_
          refine fin_frz TT ?_ rfl
          rw [bad 11 (by rw [medge, if_neg (by omega), hea, heb, if_neg (by simpa using h7), if_pos (.inl h8)]) (by decide)]; rfl
        have h8 : at0 m.nodes x.src = y.src := by simpa using h8
        refine W0 ?_
        refine ⟨by omega, _, nums_at (at0_some (by omega)), ?_⟩
        refine W0 ?_
        refine ⟨rfl, ?_⟩
        refine W0 ?_
        refine ⟨fun h9 => ?_, fun h9 => ?_⟩
        · have h9 : at0 m.nodes x.dst ≠ y.dst := by simpa using h9
          refine W0 ?_
          refine fin_frz TT ?_ rfl
          rw [bad 11 (by rw [medge, if_neg (by omega), hea, heb, if_neg (by simpa using h7), if_pos (.inr h9)]) (by decide)]; rfl
        have h9 : at0 m.nodes x.dst = y.dst := by simpa using h9
        refine W0 ?_
        exact ⟨i + 1, ⟨hlt, zero_upto hno hx (by rw [medge, if_neg (by omega), hea, heb, if_neg (by simpa using h7), if_neg (by simp [h8, h9])])⟩, by show m.edges.length - (i + 1) < m.edges.length - i; omega, le_of [0, 1, 2] rfl rfl rfl ⟨step_num hlt (by omega), rfl, rfl, rfl, rfl, rfl, trivial⟩ ⟨rfl, rfl, rfl, trivial⟩⟩
      · have hge : ¬ i < m.edges.length := by simpa using hge
        have hz2 : errs (medge a b m) 0 m.edges = 0 := errs_all hno (by omega)
        refine W0 ?_
        refine fin_frz TT ?_ rfl
        rw [mval, if_neg (by omega), if_neg (by omega), if_neg (by omega), if_neg (by omega), hz2]; rfl
end Go.Av.Z

/- The references of layers 5 and 6: what is valid. -/
namespace Go.Av.Z
open Go.Proofs

theorem c87 (n : Int) : Con P 87 [] [.int .i64 n] (.bool (within n 99)) [] := by
  refine go Tryz.func87 (by rfl) rfl rfl rfl fun hl => ?_
  refine W0 ?_
  refine ⟨fun h => ?_, fun h => ?_⟩
  · refine W0 ?_
    refine fin_frz TT ?_ rfl
    have h : 0 ≤ n := by simpa using h
    simp [within, h]; rfl
  · refine W0 ?_
    refine fin_frz TT ?_ rfl
    have h : ¬ 0 ≤ n := by simpa using h
    simp [within, h]; rfl
theorem fits_eq (e : Edge) (n : Nat) : fits e n = (within e.type 99 && (decide (0 ≤ e.src) && (decide (e.src < n) && (decide (0 ≤ e.dst) && decide (e.dst < n))))) := by
  unfold fits within
  have e1 : decide (e.src ≤ (n : Int) - 1) = decide (e.src < n) := by rw [decide_eq_decide]; omega
  have e2 : decide (e.dst ≤ (n : Int) - 1) = decide (e.dst < n) := by rw [decide_eq_decide]; omega
  rw [e1, e2]
  simp [Bool.and_assoc]
theorem c88 (e : Edge) (n : Nat) : Con P 88 [] [.agg e.el, .int .i64 n] (.bool (fits e n)) [] := by
  refine go Tryz.func88 (by rfl) rfl rfl rfl fun hl => ?_
  refine W0 ?_
  refine ⟨_, _, c87 _, ?_⟩
  refine W0 ?_
  refine ⟨fun h1 => ?_, fun h1 => ?_⟩
  · refine W0 ?_
    refine ⟨fun h2 => ?_, fun h2 => ?_⟩
    · refine W0 ?_
      refine ⟨fun h3 => ?_, fun h3 => ?_⟩
      · refine W0 ?_
        refine ⟨fun h4 => ?_, fun h4 => ?_⟩
        · refine W0 ?_
          refine fin_frz TT ?_ rfl
          rw [fits_eq, h1, h2, h3, h4]; rfl
        · refine W0 ?_
          refine fin_frz TT ?_ rfl
          rw [fits_eq, h1, h2, h3, h4]; rfl
      · refine W0 ?_
        refine fin_frz TT ?_ rfl
        rw [fits_eq, h1, h2, h3]; rfl
    · refine W0 ?_
      refine fin_frz TT ?_ rfl
      rw [fits_eq, h1, h2]; rfl
  · refine W0 ?_
    refine fin_frz TT ?_ rfl
    rw [fits_eq, h1]; rfl
theorem gval_of {g : Graph} (h1 : ¬ g.nodes.length > 40) (h2 : ¬ g.edges.length > 80) : gval g = if g.nodes.any (fun n => !within n 99) then 6 else if g.edges.any (fun e => !fits e g.nodes.length) then 6 else 0 := by
  rw [gval, if_neg (by omega)]
theorem any_at {α : Type} {p : α → Bool} {l : List α} {i : Nat} {x : α} (h : l[i]? = some x) (hp : p x = true) : l.any p = true := List.any_eq_true.2 ⟨x, List.mem_of_getElem? h, hp⟩
theorem any_none {α : Type} {p : α → Bool} {l : List α} {i : Nat} (h : ∀ j y, j < i → l[j]? = some y → p y = false) (hi : l.length ≤ i) : l.any p = false := by
  rw [List.any_eq_false]; intro x hx; simp [none_all h hi x hx]
theorem c36 (g : Graph) : Con P 36 [] [g.av] (.int .i64 (gval g)) [] := by
  refine go Tryz.func36 (by rfl) rfl rfl rfl fun hl => ?_
  refine W0 ?_
  rw [nums_len]
  refine ⟨fun h1 => ?_, fun h1 => ?_⟩
  · have h1 : 40 < g.nodes.length := by have := of_decide_eq_true h1; omega
    refine W0 ?_
    refine fin_frz TT ?_ rfl
    rw [gval, if_pos (.inl h1)]; rfl
  have h1 : ¬ 40 < g.nodes.length := by have := of_decide_eq_false h1; omega
  refine W0 ?_
  rw [edgs_len]
  refine ⟨fun h2 => ?_, fun h2 => ?_⟩
  · have h2 : 80 < g.edges.length := by have := of_decide_eq_true h2; omega
    refine W0 ?_
    refine fin_frz TT ?_ rfl
    rw [gval, if_pos (.inr h2)]; rfl
  have h2 : ¬ 80 < g.edges.length := by have := of_decide_eq_false h2; omega
  refine W0 ?_
  refine loop (fun i : Nat => mkSt [(3, .int .i64 i), (1, .bptr 0 0)] [.box 29 g.cs]) (fun i => i ≤ g.nodes.length ∧ ∀ j y, j < i → g.nodes[j]? = some y → (!within y 99) = false) (fun i => g.nodes.length - i) 0 ⟨Nat.zero_le _, fun j y h => by omega⟩
    (le_of [0] rfl rfl rfl ⟨rfl, rfl, trivial⟩ ⟨rfl, trivial⟩) ?_
  rintro i ⟨hi, hno⟩
  refine W0 ?_
  rw [nums_len]
  refine ⟨fun hlt => ?_, fun hge => ?_⟩
  · have hlt : i < g.nodes.length := by simpa using hlt
    have hx : g.nodes[i]? = some g.nodes[i] := List.getElem?_eq_getElem hlt
    generalize g.nodes[i] = x at hx
    refine W0 ?_
    refine ⟨by omega, _, nums_at hx, ?_⟩
    refine W0 ?_
    refine ⟨_, _, c87 _, ?_⟩
    refine W0 ?_
    refine ⟨fun h3 => ?_, fun h3 => ?_⟩
    · refine W0 ?_
      refine fin_frz TT ?_ rfl
      rw [gval_of h1 h2, if_pos (any_at hx h3)]; rfl
    · refine W0 ?_
      exact ⟨i + 1, ⟨hlt, none_upto hno hx h3⟩, by show g.nodes.length - (i + 1) < g.nodes.length - i; omega, le_of [0] rfl rfl rfl ⟨step_num hlt (by omega), rfl, trivial⟩ ⟨rfl, trivial⟩⟩
  · have hge : ¬ i < g.nodes.length := by simpa using hge
    have hz : g.nodes.any (fun n => !within n 99) = false := any_none hno (by omega)
    clear hno
    refine W0 ?_
    refine loop (fun i : Nat => mkSt [(4, .int .i64 i), (1, .bptr 0 0)] [.box 29 g.cs]) (fun i => i ≤ g.edges.length ∧ ∀ j y, j < i → g.edges[j]? = some y → (!fits y g.nodes.length) = false) (fun i => g.edges.length - i) 0 ⟨Nat.zero_le _, fun j y h => by omega⟩
      (le_of [0] rfl rfl rfl ⟨rfl, rfl, trivial⟩ ⟨rfl, trivial⟩) ?_
    rintro i ⟨hi, hno⟩
    refine W0 ?_
    rw [edgs_len]
    refine ⟨fun hlt => ?_, fun hge => ?_⟩
    · have hlt : i < g.edges.length := by simpa using hlt
      have hx : g.edges[i]? = some g.edges[i] := List.getElem?_eq_getElem hlt
      generalize g.edges[i] = x at hx
      refine W0 ?_
      refine ⟨by omega, _, edgs_at hx, ?_⟩
      refine W0 ?_
      rw [nums_len]
      refine ⟨_, _, c88 x g.nodes.length, ?_⟩
      refine W0 ?_
      refine ⟨rfl, ?_⟩
      refine W0 ?_
      refine ⟨fun h3 => ?_, fun h3 => ?_⟩
      · refine W0 ?_
        refine fin_frz TT ?_ rfl
        rw [gval_of h1 h2, if_neg (by simp [hz]), if_pos (any_at hx h3)]; rfl
      · refine W0 ?_
        exact ⟨i + 1, ⟨hlt, none_upto hno hx h3⟩, by show g.edges.length - (i + 1) < g.edges.length - i; omega, le_of [0] rfl rfl rfl ⟨step_num hlt (by omega), rfl, trivial⟩ ⟨rfl, trivial⟩⟩
    · have hge : ¬ i < g.edges.length := by simpa using hge
      have hz2 : g.edges.any (fun e => !fits e g.nodes.length) = false := any_none hno (by omega)
      refine W0 ?_
      refine fin_frz TT ?_ rfl
      rw [gval_of h1 h2, if_neg (by simp [hz]), if_neg (by simp [hz2])]; rfl
end Go.Av.Z

/- The reference of layer 6: valid morphisms. -/
namespace Go.Av.Z
open Go.Proofs

theorem c39 (a b : Graph) (m : Mor) : Con P 39 [] [a.av, b.av, m.av] (.int .i64 (mval a b m)) [] := by
  refine go Tryz.func39 (by rfl) rfl rfl rfl fun hl => ?_
  refine W0 ?_
  refine ⟨_, _, c36 a, ?_⟩
  refine W0 ?_
  refine ⟨fun h1 => ?_, fun h1 => ?_⟩
  · refine W0 ?_
    refine fin_frz TT ?_ rfl
    have h1 : gval a ≠ 0 := by simpa using h1
    rw [mval, if_pos h1]; rfl
  have h1 : gval a = 0 := by simpa using h1
  refine W0 ?_
  refine ⟨_, _, c36 b, ?_⟩
  refine W0 ?_
  refine ⟨fun h2 => ?_, fun h2 => ?_⟩
  · refine W0 ?_
    refine fin_frz TT ?_ rfl
    have h2 : gval b ≠ 0 := by simpa using h2
    rw [mval, if_neg (by omega), if_pos h2]; rfl
  have h2 : gval b = 0 := by simpa using h2
  refine W0 ?_
  rw [nums_len, nums_len]
  have key : ∀ h3 : m.nodes.length ≠ a.nodes.length ∨ m.edges.length ≠ a.edges.length, mval a b m = 20 := fun h3 => by rw [mval, if_neg (by omega), if_neg (by omega), if_pos h3]
  refine ⟨fun h3 => ?_, fun h3 => ?_⟩
  · have h3 : m.nodes.length ≠ a.nodes.length := by have : ((m.nodes.length : Int) != (a.nodes.length : Int)) = true := h3; simp at this; omega
    refine W0 ?_
    refine fin_frz TT ?_ rfl
    rw [key (.inl h3)]; rfl
  have h3 : m.nodes.length = a.nodes.length := by have : ((m.nodes.length : Int) != (a.nodes.length : Int)) = false := h3; simp at this; omega
  refine W0 ?_
  rw [nums_len, edgs_len]
  refine ⟨fun h4 => ?_, fun h4 => ?_⟩
  · have h4 : m.edges.length ≠ a.edges.length := by have : ((m.edges.length : Int) != (a.edges.length : Int)) = true := h4; simp at this; omega
    refine W0 ?_
    refine fin_frz TT ?_ rfl
    rw [key (.inr h4)]; rfl
  have h4 : m.edges.length = a.edges.length := by have : ((m.edges.length : Int) != (a.edges.length : Int)) = false := h4; simp at this; omega
  refine W0 ?_
  have hb : b.nodes.length ≤ 40 ∧ b.edges.length ≤ 80 := gval_len h2
  have ha : a.nodes.length ≤ 40 ∧ a.edges.length ≤ 80 := gval_len h1
  refine loop (fun i : Nat => mkSt [(9, .int .i64 i), (3, .bptr 0 0), (4, .bptr 1 0), (5, .bptr 2 0)] [.box 29 a.cs, .box 29 b.cs, .box 36 m.cs]) (fun i => i ≤ m.nodes.length ∧ ∀ j y, j < i → m.nodes[j]? = some y → mnode a b j y = 0) (fun i => m.nodes.length - i) 0 ⟨Nat.zero_le _, fun j y h => by omega⟩
    (le_of [0, 1, 2] rfl rfl rfl ⟨rfl, rfl, rfl, rfl, trivial⟩ ⟨rfl, rfl, rfl, trivial⟩) ?_
  rintro i ⟨hi, hno⟩
  refine W0 ?_
  rw [nums_len]
  refine ⟨fun hlt => ?_, fun hge => ?_⟩
  · have hlt : i < m.nodes.length := by have := of_decide_eq_true hlt; omega
    have hx : m.nodes[i]? = some m.nodes[i] := List.getElem?_eq_getElem hlt
    generalize m.nodes[i] = k at hx
    refine W0 ?_
    refine ⟨by omega, _, nums_at hx, ?_⟩
    refine W0 ?_
    have bad : ∀ e : Int, mnode a b i k = e → e ≠ 0 → mval a b m = e := fun e he hne => by
      have := errs_first hno hx (by rw [he]; exact hne)
      rw [mval, if_neg (by omega), if_neg (by omega), if_neg (by omega), if_pos (by rw [this, he]; exact hne), this, he]
    refine ⟨fun h5 => ?_, fun h5 => ?_⟩
    · have h5 : k < 0 := by simpa using h5
      refine W0 ?_
      refine ⟨rfl, ?_⟩
      refine W0 ?_
      refine fin_frz TT ?_ rfl
      rw [bad 6 (by rw [mnode, if_pos (.inl h5)]) (by decide)]; rfl
    have h5 : ¬ k < 0 := by simpa using h5
    refine W0 ?_
    refine ⟨by omega, _, nums_at hx, ?_⟩
    refine W0 ?_
    rw [nums_len]
    refine ⟨rfl, ?_⟩
    refine W0 ?_
    refine ⟨fun h6 => ?_, fun h6 => ?_⟩
    · have h6 : (b.nodes.length : Int) ≤ k := by simpa using h6
      refine W0 ?_
      refine fin_frz TT ?_ rfl
      rw [bad 6 (by rw [mnode, if_pos (.inr h6)]) (by decide)]; rfl
    have h6 : ¬ (b.nodes.length : Int) ≤ k := by simpa using h6
    refine W0 ?_
    refine ⟨by omega, _, nums_at hx, ?_⟩
    refine W0 ?_
    refine ⟨by omega, _, nums_at (at0_some (by omega)), ?_⟩
    refine W0 ?_
    refine ⟨by omega, _, nums_at (at0_some (n := i) (by omega)), ?_⟩
    refine W0 ?_
    refine ⟨rfl, ?_⟩
    refine W0 ?_
    refine ⟨fun h7 => ?_, fun h7 => ?_⟩
    · have h7 : at0 b.nodes k ≠ at0 a.nodes i := by simpa using h7
      refine W0 ?_
      refine fin_frz TT ?_ rfl
      rw [bad 13 (by rw [mnode, if_neg (by omega), if_pos h7]) (by decide)]; rfl
    · have h7 : at0 b.nodes k = at0 a.nodes i := by simpa using h7
      refine W0 ?_
      exact ⟨i + 1, ⟨hlt, zero_upto hno hx (by rw [mnode, if_neg (by omega), if_neg (by simpa using h7)])⟩, by show m.nodes.length - (i + 1) < m.nodes.length - i; omega, le_of [0, 1, 2] rfl rfl rfl ⟨step_num hlt (by omega), rfl, rfl, rfl, trivial⟩ ⟨rfl, rfl, rfl, trivial⟩⟩
  · have hge : ¬ i < m.nodes.length := by have := of_decide_eq_false hge; omega
    have hz : errs (mnode a b) 0 m.nodes = 0 := errs_all hno (by omega)
    refine W0 ?_
    refine loop (fun i : Nat => mkSt [(10, .int .i64 i), (3, .bptr 0 0), (4, .bptr 1 0), (5, .bptr 2 0)] [.box 29 a.cs, .box 29 b.cs, .box 36 m.cs]) (fun i => i ≤ m.edges.length ∧ ∀ j y, j < i → m.edges[j]? = some y → medge a b m j y = 0) (fun i => m.edges.length - i) 0 ⟨Nat.zero_le _, fun j y h => by omega⟩
      (le_of [0, 1, 2] rfl rfl rfl ⟨rfl, rfl, rfl, rfl, trivial⟩ ⟨rfl, rfl, rfl, trivial⟩) ?_
    clear hno hi
    rintro i ⟨hi, hno⟩
    refine W0 ?_
    rw [edgs_len]
    refine ⟨fun hlt => ?_, fun hge => ?_⟩
    · have hlt : i < m.edges.length := by have := of_decide_eq_true hlt; omega
      have hx : m.edges[i]? = some m.edges[i] := List.getElem?_eq_getElem hlt
      generalize m.edges[i] = k at hx
      refine W0 ?_
      refine ⟨by omega, _, nums_at hx, ?_⟩
      refine W0 ?_
      have bad : ∀ e : Int, medge a b m i k = e → e ≠ 0 → mval a b m = e := fun e he hne => by
        have := errs_first hno hx (by rw [he]; exact hne)
        rw [mval, if_neg (by omega), if_neg (by omega), if_neg (by omega), if_neg (by omega), this, he]
      refine ⟨fun h5 => ?_, fun h5 => ?_⟩
      · have h5 : k < 0 := by simpa using h5
        refine W0 ?_
        refine ⟨rfl, ?_⟩
        refine W0 ?_
        refine fin_frz TT ?_ rfl
        rw [bad 6 (by rw [medge, if_pos (.inl h5)]) (by decide)]; rfl
      have h5 : ¬ k < 0 := by simpa using h5
      refine W0 ?_
      refine ⟨by omega, _, nums_at hx, ?_⟩
      refine W0 ?_
      rw [edgs_len]
      refine ⟨rfl, ?_⟩
      refine W0 ?_
      refine ⟨fun h6 => ?_, fun h6 => ?_⟩
      · have h6 : (b.edges.length : Int) ≤ k := by simpa using h6
        refine W0 ?_
        refine fin_frz TT ?_ rfl
        rw [bad 6 (by rw [medge, if_pos (.inr h6)]) (by decide)]; rfl
      have h6 : ¬ (b.edges.length : Int) ≤ k := by simpa using h6
      have hin := gval_edge h1 (atE_some (l := a.edges) (n := i) (by omega))
      have hxa := atE_some (l := a.edges) (n := i) (by omega)
      have hyb := atE_some (l := b.edges) (n := k) (by omega)
      generalize hea : atE a.edges i = x at *
      generalize heb : atE b.edges k = y at *
      refine W0 ?_
      refine ⟨by omega, _, edgs_at hxa, ?_⟩
      refine W0 ?_
      refine ⟨by omega, _, nums_at hx, ?_⟩
      refine W0 ?_
      refine ⟨by omega, _, edgs_at hyb, ?_⟩
      refine W0 ?_
      refine ⟨rfl, ?_⟩
      refine W0 ?_
      refine ⟨fun h7 => ?_, fun h7 => ?_⟩
      · have h7 : x.type ≠ y.type := by simpa using h7
        refine W0 ?_
        refine fin_frz TT ?_ rfl
        rw [bad 13 (by rw [medge, if_neg (by omega), hea, heb, if_pos h7]) (by decide)]; rfl
      have h7 : x.type = y.type := by simpa using h7
      refine W0 ?_
      refine ⟨by omega, _, nums_at (at0_some (by omega)), ?_⟩
      refine W0 ?_
      refine ⟨fun h8 => ?_, fun h8 => ?_⟩
      · have h8 : at0 m.nodes x.src ≠ y.src := by simpa using h8
        refine W0 ?_
        refine ⟨rfl, ?_⟩
        refine W0 ?_
        refine fin_frz TT ?_ rfl
        rw [bad 11 (by rw [medge, if_neg (by omega), hea, heb, if_neg (by simpa using h7), if_pos (.inl h8)]) (by decide)]; rfl
      have h8 : at0 m.nodes x.src = y.src := by simpa using h8
      refine W0 ?_
      refine ⟨by omega, _, nums_at (at0_some (by omega)), ?_⟩
      refine W0 ?_
      refine ⟨rfl, ?_⟩
      refine W0 ?_
      refine ⟨fun h9 => ?_, fun h9 => ?_⟩
      · have h9 : at0 m.nodes x.dst ≠ y.dst := by simpa using h9
        refine W0 ?_
        refine fin_frz TT ?_ rfl
        rw [bad 11 (by rw [medge, if_neg (by omega), hea, heb, if_neg (by simpa using h7), if_pos (.inr h9)]) (by decide)]; rfl
      have h9 : at0 m.nodes x.dst = y.dst := by simpa using h9
      refine W0 ?_
      exact ⟨i + 1, ⟨hlt, zero_upto hno hx (by rw [medge, if_neg (by omega), hea, heb, if_neg (by simpa using h7), if_neg (by simp [h8, h9])])⟩, by show m.edges.length - (i + 1) < m.edges.length - i; omega, le_of [0, 1, 2] rfl rfl rfl ⟨step_num hlt (by omega), rfl, rfl, rfl, trivial⟩ ⟨rfl, rfl, rfl, trivial⟩⟩
    · have hge : ¬ i < m.edges.length := by have := of_decide_eq_false hge; omega
      have hz2 : errs (medge a b m) 0 m.edges = 0 := errs_all hno (by omega)
      refine W0 ?_
      refine fin_frz TT ?_ rfl
      rw [mval, if_neg (by omega), if_neg (by omega), if_neg (by omega), if_neg (by omega), hz2]; rfl
end Go.Av.Z

/- Ascending lists; what a list holds. -/
namespace Go.Av.Z
open Go.Proofs

/-- An element of an ascending list of numbers below n. -/
def aerr (l : List Int) (n : Int) (i : Nat) (k : Int) : Int :=
  if k < 0 ∨ n ≤ k then 6 else if 0 < i ∧ k ≤ at0 l ((i : Int) - 1) then 12 else 0
/-- The error of an ascending list. -/
def aval (l : List Int) (n : Int) : Int := errs (aerr l n) 0 l

theorem step_sub {i : Nat} (h : 0 < i) (hi : i ≤ 9223372036854775807) : IntKind.i64.wrap ((i : Int) - 1) = i - 1 := wrap_small (by omega) (by omega)
theorem of_lt {i n : Nat} (h : decide ((i : Int) < (n : Int)) = true) : i < n := by have := of_decide_eq_true h; omega
theorem of_ge {i n : Nat} (h : decide ((i : Int) < (n : Int)) = false) : ¬ i < n := by have := of_decide_eq_false h; omega
theorem len_nums {l : List Int} {rest : List Nat} (h : ∀ n ∈ lensL [AV.slice 1 (nums l)] ++ rest, n ≤ 9223372036854775807) : l.length ≤ 9223372036854775807 := by
  have := h (nums l).length (by simp [lensL, lens])
  rwa [nums_len] at this
theorem contains_at {l : List Int} {i : Nat} {x n : Int} (hx : l[i]? = some x) (h : (x == n) = true) : l.contains n = true := by
  have := List.mem_of_getElem? hx
  have e : x = n := by simpa using h
  rw [← e]; simpa using this
theorem contains_none {l : List Int} {i : Nat} {n : Int} (h : ∀ j y, j < i → l[j]? = some y → (y == n) = false) (hi : l.length ≤ i) : l.contains n = false := by
  have := none_all (p := fun y => y == n) h hi
  cases hc : l.contains n with
  | false => rfl
  | true =>
    have hm : n ∈ l := by simpa using hc
    have := this n hm
    simp at this
theorem c151 (l : List Int) (n : Int) : Con P 151 [] [.slice 1 (nums l), .int .i64 n] (.bool (l.contains n)) [] := by
  refine go Tryz.func151 (by rfl) rfl rfl rfl fun hl => ?_
  refine W0 ?_
  have hn : l.length ≤ 9223372036854775807 := len_nums (rest := []) (fun n h => hl n (by simpa [lensL, lens] using h))
  refine loop (fun i : Nat => mkSt [(5, .int .i64 i), (0, .slice 1 (nums l)), (1, .int .i64 n)] []) (fun i => i ≤ l.length ∧ ∀ j y, j < i → l[j]? = some y → (y == n) = false) (fun i => l.length - i) 0 ⟨Nat.zero_le _, fun j y h => by omega⟩
    (le_of [] rfl rfl rfl ⟨rfl, rfl, rfl, trivial⟩ trivial) ?_
  rintro i ⟨hi, hno⟩
  refine W0 ?_
  rw [nums_len]
  refine ⟨fun hlt => ?_, fun hge => ?_⟩
  · have hlt := of_lt hlt
    have hx : l[i]? = some l[i] := List.getElem?_eq_getElem hlt
    generalize l[i] = x at hx
    refine W0 ?_
    refine ⟨by omega, _, nums_at hx, ?_⟩
    refine W0 ?_
    refine ⟨fun h3 => ?_, fun h3 => ?_⟩
    · refine W0 ?_
      refine fin_frz TT ?_ rfl
      rw [contains_at hx h3]; rfl
    · refine W0 ?_
      exact ⟨i + 1, ⟨hlt, none_upto (p := fun y => y == n) hno hx h3⟩, by show l.length - (i + 1) < l.length - i; omega, le_of [] rfl rfl rfl ⟨step_num hlt hn, rfl, rfl, trivial⟩ trivial⟩
  · have hge := of_ge hge
    refine W0 ?_
    refine fin_frz TT ?_ rfl
    rw [contains_none hno (by omega)]; rfl
theorem c253 (l : List Int) (n : Int) : Con P 253 [] [.slice 1 (nums l), .int .i64 n] (.bool (l.contains n)) [] := by
  refine go Tryz.func253 (by rfl) rfl rfl rfl fun hl => ?_
  refine W0 ?_
  have hn : l.length ≤ 9223372036854775807 := len_nums (rest := []) (fun n h => hl n (by simpa [lensL, lens] using h))
  refine loop (fun i : Nat => mkSt [(5, .int .i64 i), (0, .slice 1 (nums l)), (1, .int .i64 n)] []) (fun i => i ≤ l.length ∧ ∀ j y, j < i → l[j]? = some y → (y == n) = false) (fun i => l.length - i) 0 ⟨Nat.zero_le _, fun j y h => by omega⟩
    (le_of [] rfl rfl rfl ⟨rfl, rfl, rfl, trivial⟩ trivial) ?_
  rintro i ⟨hi, hno⟩
  refine W0 ?_
  rw [nums_len]
  refine ⟨fun hlt => ?_, fun hge => ?_⟩
  · have hlt := of_lt hlt
    have hx : l[i]? = some l[i] := List.getElem?_eq_getElem hlt
    generalize l[i] = x at hx
    refine W0 ?_
    refine ⟨by omega, _, nums_at hx, ?_⟩
    refine W0 ?_
    refine ⟨fun h3 => ?_, fun h3 => ?_⟩
    · refine W0 ?_
      refine fin_frz TT ?_ rfl
      rw [contains_at hx h3]; rfl
    · refine W0 ?_
      exact ⟨i + 1, ⟨hlt, none_upto (p := fun y => y == n) hno hx h3⟩, by show l.length - (i + 1) < l.length - i; omega, le_of [] rfl rfl rfl ⟨step_num hlt hn, rfl, rfl, trivial⟩ trivial⟩
  · have hge := of_ge hge
    refine W0 ?_
    refine fin_frz TT ?_ rfl
    rw [contains_none hno (by omega)]; rfl
theorem c150 (l : List Int) (n : Int) : Con P 150 [] [.slice 1 (nums l), .int .i64 n] (.int .i64 (aval l n)) [] := by
  refine go Tryz.func150 (by rfl) rfl rfl rfl fun hl => ?_
  refine W0 ?_
  have hn : l.length ≤ 9223372036854775807 := len_nums (rest := []) (fun n h => hl n (by simpa [lensL, lens] using h))
  refine loop (fun i : Nat => mkSt [(5, .int .i64 i), (0, .slice 1 (nums l)), (1, .int .i64 n)] []) (fun i => i ≤ l.length ∧ ∀ j y, j < i → l[j]? = some y → aerr l n j y = 0) (fun i => l.length - i) 0 ⟨Nat.zero_le _, fun j y h => by omega⟩
    (le_of [] rfl rfl rfl ⟨rfl, rfl, rfl, trivial⟩ trivial) ?_
  rintro i ⟨hi, hno⟩
  refine W0 ?_
  rw [nums_len]
  refine ⟨fun hlt => ?_, fun hge => ?_⟩
  · have hlt := of_lt hlt
    have hx : l[i]? = some l[i] := List.getElem?_eq_getElem hlt
    generalize l[i] = k at hx
    have bad : ∀ e : Int, aerr l n i k = e → e ≠ 0 → aval l n = e := fun e he hne => by
      rw [aval, errs_first hno hx (by rw [he]; exact hne), he]
    refine W0 ?_
    refine ⟨by omega, _, nums_at hx, ?_⟩
    refine W0 ?_
    refine ⟨fun h5 => ?_, fun h5 => ?_⟩
    · have h5 : k < 0 := by simpa using h5
      refine W0 ?_
      refine fin_frz TT ?_ rfl
      rw [bad 6 (by rw [aerr, if_pos (.inl h5)]) (by decide)]; rfl
    have h5 : ¬ k < 0 := by simpa using h5
    refine W0 ?_
    refine ⟨by omega, _, nums_at hx, ?_⟩
    refine W0 ?_
    refine ⟨fun h6 => ?_, fun h6 => ?_⟩
    · have h6 : n ≤ k := by simpa using h6
      refine W0 ?_
      refine fin_frz TT ?_ rfl
      rw [bad 6 (by rw [aerr, if_pos (.inr h6)]) (by decide)]; rfl
    have h6 : ¬ n ≤ k := by simpa using h6
    refine W0 ?_
    refine ⟨fun h7 => ?_, fun h7 => ?_⟩
    · have h7 : 0 < i := by have := of_decide_eq_true h7; omega
      refine W0 ?_
      refine ⟨by omega, _, nums_at hx, ?_⟩
      refine W0 ?_
      rw [step_sub h7 (by omega)]
      refine ⟨by omega, _, nums_at (at0_some (by omega)), ?_⟩
      refine W0 ?_
      refine ⟨rfl, ?_⟩
      refine W0 ?_
      refine ⟨fun h8 => ?_, fun h8 => ?_⟩
      · have h8 : k ≤ at0 l ((i : Int) - 1) := by simpa using h8
        refine W0 ?_
        refine fin_frz TT ?_ rfl
        rw [bad 12 (by rw [aerr, if_neg (by omega), if_pos ⟨h7, h8⟩]) (by decide)]; rfl
      · have h8 : ¬ k ≤ at0 l ((i : Int) - 1) := by simpa using h8
        refine W0 ?_
        exact ⟨i + 1, ⟨hlt, zero_upto hno hx (by rw [aerr, if_neg (by omega), if_neg (fun h => h8 h.2)])⟩, by show l.length - (i + 1) < l.length - i; omega, le_of [] rfl rfl rfl ⟨step_num hlt hn, rfl, rfl, trivial⟩ trivial⟩
    · have h7 : ¬ 0 < i := by have := of_decide_eq_false h7; omega
      refine W0 ?_
      refine ⟨rfl, ?_⟩
      refine W0 ?_
      exact ⟨i + 1, ⟨hlt, zero_upto hno hx (by rw [aerr, if_neg (by omega), if_neg (fun h => h7 h.1)])⟩, by show l.length - (i + 1) < l.length - i; omega, le_of [] rfl rfl rfl ⟨step_num hlt hn, rfl, rfl, trivial⟩ trivial⟩
  · have hge := of_ge hge
    refine W0 ?_
    refine fin_frz TT ?_ rfl
    rw [aval, errs_all hno (by omega)]; rfl
theorem c210 (l : List Int) (n : Int) : Con P 210 [] [.slice 1 (nums l), .int .i64 n] (.int .i64 (aval l n)) [] := by
  refine go Tryz.func210 (by rfl) rfl rfl rfl fun hl => ?_
  refine W0 ?_
  have hn : l.length ≤ 9223372036854775807 := len_nums (rest := []) (fun n h => hl n (by simpa [lensL, lens] using h))
  refine loop (fun i : Nat => mkSt [(9, .int .i64 i), (8, .int .i64 l.length), (7, .slice 1 (nums l)), (0, .slice 1 (nums l)), (1, .int .i64 n)] []) (fun i => i ≤ l.length ∧ ∀ j y, j < i → l[j]? = some y → aerr l n j y = 0) (fun i => l.length - i) 0 ⟨Nat.zero_le _, fun j y h => by omega⟩
    (le_of [] rfl rfl rfl ⟨rfl, by rw [nums_len]; rfl, rfl, rfl, rfl, trivial⟩ trivial) ?_
  rintro i ⟨hi, hno⟩
  refine W0 ?_
  refine ⟨fun hlt => ?_, fun hge => ?_⟩
  · have hlt := of_lt hlt
    have hx : l[i]? = some l[i] := List.getElem?_eq_getElem hlt
    generalize l[i] = k at hx
    have bad : ∀ e : Int, aerr l n i k = e → e ≠ 0 → aval l n = e := fun e he hne => by
      rw [aval, errs_first hno hx (by rw [he]; exact hne), he]
    refine W0 ?_
    refine ⟨by omega, _, nums_at hx, ?_⟩
    refine W0 ?_
    refine ⟨fun h5 => ?_, fun h5 => ?_⟩
    · have h5 : k < 0 := by simpa using h5
      refine W0 ?_
      refine fin_frz TT ?_ rfl
      rw [bad 6 (by rw [aerr, if_pos (.inl h5)]) (by decide)]; rfl
    have h5 : ¬ k < 0 := by simpa using h5
    refine W0 ?_
    refine ⟨fun h6 => ?_, fun h6 => ?_⟩
    · have h6 : n ≤ k := by simpa using h6
      refine W0 ?_
      refine fin_frz TT ?_ rfl
      rw [bad 6 (by rw [aerr, if_pos (.inr h6)]) (by decide)]; rfl
    have h6 : ¬ n ≤ k := by simpa using h6
    refine W0 ?_
    refine ⟨fun h7 => ?_, fun h7 => ?_⟩
    · have h7 : 0 < i := by have := of_decide_eq_true h7; omega
      refine W0 ?_
      rw [step_sub h7 (by omega)]
      refine ⟨by omega, _, nums_at (at0_some (by omega)), ?_⟩
      refine W0 ?_
      refine ⟨fun h8 => ?_, fun h8 => ?_⟩
      · have h8 : k ≤ at0 l ((i : Int) - 1) := by simpa using h8
        refine W0 ?_
        refine fin_frz TT ?_ rfl
        rw [bad 12 (by rw [aerr, if_neg (by omega), if_pos ⟨h7, h8⟩]) (by decide)]; rfl
      · have h8 : ¬ k ≤ at0 l ((i : Int) - 1) := by simpa using h8
        refine W0 ?_
        exact ⟨i + 1, ⟨hlt, zero_upto hno hx (by rw [aerr, if_neg (by omega), if_neg (fun h => h8 h.2)])⟩, by show l.length - (i + 1) < l.length - i; omega, le_of [] rfl rfl rfl ⟨step_num hlt hn, rfl, rfl, rfl, rfl, trivial⟩ trivial⟩
    · have h7 : ¬ 0 < i := by have := of_decide_eq_false h7; omega
      refine W0 ?_
      exact ⟨i + 1, ⟨hlt, zero_upto hno hx (by rw [aerr, if_neg (by omega), if_neg (fun h => h7 h.1)])⟩, by show l.length - (i + 1) < l.length - i; omega, le_of [] rfl rfl rfl ⟨step_num hlt hn, rfl, rfl, rfl, rfl, trivial⟩ trivial⟩
  · have hge := of_ge hge
    refine W0 ?_
    refine fin_frz TT ?_ rfl
    rw [aval, errs_all hno (by omega)]; rfl
end Go.Av.Z

/- Binary search; parts: what is valid. -/
namespace Go.Av.Z
open Go.Proofs

theorem c252 (n : Int) : Con P 252 [] [.int .i64 n] (.bool false) [] := by
  refine go Tryz.func252 (by rfl) rfl rfl rfl fun hl => ?_
  refine W0 ?_
  refine fin_frz TT ?_ rfl
  show AV.bool (n != n) = _
  simp
theorem c213 (n : Int) : Con P 213 [] [.int .i64 n] (.bool false) [] := by
  refine go Tryz.func213 (by rfl) rfl rfl rfl fun hl => ?_
  refine W0 ?_
  refine fin_frz TT ?_ rfl
  show AV.bool (n != n) = _
  simp
theorem c212 (m n : Int) : Con P 212 [] [.int .i64 m, .int .i64 n] (.bool (decide (m < n))) [] := by
  refine go Tryz.func212 (by rfl) rfl rfl rfl fun hl => ?_
  refine W0 ?_
  refine ⟨_, _, c252 _, ?_⟩
  refine W0 ?_
  exact fin_frz TT rfl rfl

/-- How many elements of an ascending list lie ahead of n. -/
def bpos (l : List Int) (n : Int) : Nat := (l.takeWhile fun x => decide (x < n)).length
theorem bpos_of : ∀ {l : List Int} {n : Int} {i : Nat}, i ≤ l.length → (∀ k y, k < i → l[k]? = some y → y < n) → (∀ y, l[i]? = some y → n ≤ y) → bpos l n = i
  | [], n, i, hi, _, _ => by simp at hi; subst hi; rfl
  | x :: r, n, 0, _, _, h => by
    have := h x rfl
    simp [bpos, show ¬ x < n by omega]
  | x :: r, n, i + 1, hi, h1, h2 => by
    have hx := h1 0 x (by omega) rfl
    have := bpos_of (l := r) (n := n) (i := i) (by simpa using hi) (fun k y hk hy => h1 (k + 1) y (by omega) (by simpa using hy)) (fun y hy => h2 y (by simpa using hy))
    simp only [bpos, List.takeWhile_cons, hx, decide_true, if_true, List.length_cons] at this ⊢
    omega
theorem mid_eq {i j : Nat} (h : i + j < 9223372036854775808) : IntKind.i64.wrap ((IntKind.u64.wrap (IntKind.i64.wrap ((i : Int) + j))).fdiv (2 ^ min (1 : Int).toNat IntKind.u64.bits)) = ((i + j) / 2 : Nat) := by
  rw [wrap_small (n := (i : Int) + j) (by omega) (by omega)]
  have e1 : IntKind.u64.wrap ((i : Int) + j) = (i : Int) + j := by
    simp [IntKind.wrap, IntKind.bits, IntKind.signed]; omega
  rw [e1]
  have e2 : (2 : Int) ^ min (1 : Int).toNat IntKind.u64.bits = 2 := by decide
  rw [e2, Int.fdiv_eq_ediv_of_nonneg _ (by omega), wrap_small (by omega) (by omega)]
  omega

theorem c171 (l : List Int) (n : Int) (hs : l.Pairwise (· ≤ ·)) (hn : l.length < 4611686018427387904) : Con P 171 [] [.slice 1 (nums l), .int .i64 n] (.tuple [.int .i64 (bpos l n), .bool (l.contains n)]) [] := by
  refine go Tryz.func171 (by rfl) rfl rfl rfl fun hl => ?_
  refine W0 ?_
  rw [nums_len]
  refine loop (fun p : Nat × Nat => mkSt [(7, .int .i64 p.1), (8, .int .i64 p.2), (6, .int .i64 l.length), (0, .slice 1 (nums l)), (1, .int .i64 n)] []) (fun p => p.1 ≤ p.2 ∧ p.2 ≤ l.length ∧ (∀ k y, k < p.1 → l[k]? = some y → y < n) ∧ ∀ k y, p.2 ≤ k → l[k]? = some y → n ≤ y) (fun p => p.2 - p.1) (0, l.length) ⟨Nat.zero_le _, Nat.le_refl _, fun k y h => by simp at h, fun k y h hy => by rw [List.getElem?_eq_none h] at hy; cases hy⟩
    (le_of [] rfl rfl rfl ⟨rfl, rfl, rfl, rfl, rfl, trivial⟩ trivial) ?_
  rintro ⟨i, j⟩ ⟨h1, h2, h3, h4⟩
  simp only at h1 h2 h3 h4
  have mono : ∀ (a b : Nat) (x y : Int), a < b → l[a]? = some x → l[b]? = some y → x ≤ y := by
    intro a b x y hab hx hy
    obtain ⟨ha, rfl⟩ := List.getElem?_eq_some_iff.1 hx
    obtain ⟨hb, rfl⟩ := List.getElem?_eq_some_iff.1 hy
    exact List.pairwise_iff_getElem.1 hs a b ha hb hab
  refine W0 ?_
  refine ⟨fun hlt => ?_, fun hge => ?_⟩
  · have hlt := of_lt hlt
    refine W0 ?_
    refine ⟨by decide, ?_⟩
    refine W0 ?_
    rw [mid_eq (by omega)]
    have hh : (i + j) / 2 < l.length := by omega
    have hx : l[(i + j) / 2]? = some l[(i + j) / 2] := List.getElem?_eq_getElem hh
    generalize hhv : (i + j) / 2 = h at *
    generalize l[h] = x at hx
    refine ⟨by omega, _, nums_at (by rw [Int.toNat_natCast]; exact hx), ?_⟩
    refine W0 ?_
    refine ⟨_, _, c212 _ _, ?_⟩
    refine W0 ?_
    refine ⟨fun h5 => ?_, fun h5 => ?_⟩
    · have h5 : x < n := by simpa using h5
      refine W0 ?_
      refine ⟨(h + 1, j), ⟨by show h + 1 ≤ j; omega, h2, fun k y hk hy => ?_, h4⟩, by show j - (h + 1) < j - i; omega, le_of [] rfl rfl rfl ⟨?_, rfl, rfl, rfl, rfl, trivial⟩ trivial⟩
      · rcases Nat.lt_or_ge k h with h' | h'
        · have := mono k h y x h' hy hx; omega
        · have : k = h := by have : k < h + 1 := hk; omega
          subst this; rw [hx] at hy; cases hy; exact h5
      · exact step_num (n := l.length) (by omega) (by omega)
    · have h5 : ¬ x < n := by simpa using h5
      refine W0 ?_
      refine ⟨(i, h), ⟨by show i ≤ h; omega, by show h ≤ l.length; omega, h3, fun k y hk hy => ?_⟩, by show h - i < j - i; omega, le_of [] rfl rfl rfl ⟨rfl, ?_, rfl, rfl, rfl, trivial⟩ trivial⟩
      · rcases Nat.lt_or_ge h k with h' | h'
        · have := mono h k x y h' hx hy; omega
        · have : k = h := by have : h ≤ k := hk; omega
          subst this; rw [hx] at hy; cases hy; omega
      · rfl
  · have hge := of_ge hge
    have hij : i = j := by omega
    subst hij
    have hb : bpos l n = i := bpos_of h2 h3 (fun y hy => h4 i y (Nat.le_refl _) hy)
    refine W0 ?_
    refine ⟨fun h6 => ?_, fun h6 => ?_⟩
    · have h6 := of_lt h6
      have hx : l[i]? = some l[i] := List.getElem?_eq_getElem h6
      generalize l[i] = x at hx
      refine W0 ?_
      refine ⟨by omega, _, nums_at hx, ?_⟩
      refine W0 ?_
      refine ⟨fun h7 => ?_, fun h7 => ?_⟩
      · refine W0 ?_
        refine fin_frz TT ?_ rfl
        rw [hb, contains_at hx h7]; rfl
      · refine W0 ?_
        refine ⟨by omega, _, nums_at hx, ?_⟩
        refine W0 ?_
        refine ⟨_, _, c213 _, ?_⟩
        refine W0 ?_
        refine fin_frz TT ?_ rfl
        have : l.contains n = false := by
          cases hc : l.contains n with
          | false => rfl
          | true =>
            have hm : n ∈ l := by simpa using hc
            obtain ⟨k, hk⟩ := List.mem_iff_getElem?.1 hm
            have h7 : x ≠ n := by simpa using h7
            have h8 := h4 i x (Nat.le_refl _) hx
            rcases Nat.lt_trichotomy k i with h | h | h
            · have := h3 k n h hk; omega
            · subst h; rw [hx] at hk; cases hk; exact absurd rfl h7
            · have := mono i k x n h hx hk; omega
        rw [hb, this]; rfl
    · have h6 := of_ge h6
      refine W0 ?_
      refine fin_frz TT ?_ rfl
      have : l.contains n = false := by
        cases hc : l.contains n with
        | false => rfl
        | true =>
          have hm : n ∈ l := by simpa using hc
          obtain ⟨k, hk⟩ := List.mem_iff_getElem?.1 hm
          have := h3 k n (by have := (List.getElem?_eq_some_iff.1 hk).1; omega) hk
          omega
      rw [hb, this]; rfl
end Go.Av.Z

/- Parts of graphs: what is valid. -/
namespace Go.Av.Z
open Go.Proofs

theorem errs_off {α : Type} {f : Nat → α → Int} : ∀ {l : List α} {n : Nat}, errs f n l = 0 → ∀ (j : Nat) (x : α), l[j]? = some x → f (n + j) x = 0
  | [], n, _, j, x, hx => by simp at hx
  | y :: r, n, h, j, x, hx => by
    unfold errs at h
    split at h
    · rename_i h0
      cases j with
      | zero => simp at hx; subst hx; exact h0
      | succ j =>
        have := errs_off h j x (by simpa using hx)
        rwa [show n + 1 + j = n + (j + 1) by omega] at this
    · exact absurd h ‹_›
theorem aval_at {l : List Int} {n : Int} (h : aval l n = 0) {i : Nat} {k : Int} (hk : l[i]? = some k) : 0 ≤ k ∧ k < n := by
  have := errs_off h i k hk
  rw [Nat.zero_add, aerr] at this
  split at this
  · cases this
  · omega
theorem aval_next {l : List Int} {n : Int} (h : aval l n = 0) {i : Nat} {x k : Int} (hx : l[i]? = some x) (hk : l[i + 1]? = some k) : x < k := by
  have := errs_off h (i + 1) k hk
  rw [Nat.zero_add, aerr] at this
  split at this
  · cases this
  · split at this
    · cases this
    · rename_i h2
      have e : at0 l (((i + 1 : Nat) : Int) - 1) = x := by
        have : (((i + 1 : Nat) : Int) - 1).toNat = i := by omega
        simp [at0, List.getD_eq_getElem?_getD, hx]
      rw [e] at h2
      omega
theorem aval_lt {l : List Int} {n : Int} (h : aval l n = 0) : ∀ (b a : Nat) (x y : Int), a < b → l[a]? = some x → l[b]? = some y → x < y := by
  intro b
  induction b with
  | zero => intro a x y hab; omega
  | succ b ih =>
    intro a x y hab hx hy
    have hb : b < l.length := by have := (List.getElem?_eq_some_iff.1 hy).1; omega
    have hz : l[b]? = some l[b] := List.getElem?_eq_getElem hb
    have h1 := aval_next h hz hy
    rcases Nat.lt_or_ge a b with h' | h'
    · have := ih a x l[b] h' hx hz; omega
    · have : a = b := by omega
      subst this; rw [hx] at hz; cases hz; exact h1
theorem aval_sorted {l : List Int} {n : Int} (h : aval l n = 0) : l.Pairwise (· < ·) := by
  rw [List.pairwise_iff_getElem]
  intro i j hi hj hij
  exact aval_lt h j i _ _ hij (List.getElem?_eq_getElem hi) (List.getElem?_eq_getElem hj)
theorem aval_ge {l : List Int} {n : Int} (h : aval l n = 0) : ∀ (i : Nat) (x : Int), l[i]? = some x → (i : Int) ≤ x := by
  intro i
  induction i with
  | zero => intro x hx; have := aval_at h hx; omega
  | succ i ih =>
    intro x hx
    have hi : i < l.length := by have := (List.getElem?_eq_some_iff.1 hx).1; omega
    have hz : l[i]? = some l[i] := List.getElem?_eq_getElem hi
    have := ih _ hz
    have := aval_next h hz hx
    omega
theorem aval_len {l : List Int} {n : Nat} (h : aval l n = 0) : l.length ≤ n := by
  rcases Nat.eq_zero_or_pos l.length with h0 | h0
  · omega
  · have hz : l[l.length - 1]? = some l[l.length - 1] := List.getElem?_eq_getElem (by omega)
    have := aval_ge h _ _ hz
    have := aval_at h hz
    omega

theorem c211 (l : List Int) (n : Int) (hs : l.Pairwise (· < ·)) (hn : l.length < 4611686018427387904) : Con P 211 [] [.slice 1 (nums l), .int .i64 n] (.bool (l.contains n)) [] := by
  refine go Tryz.func211 (by rfl) rfl rfl rfl fun hl => ?_
  refine W0 ?_
  refine ⟨_, _, c171 l n (hs.imp fun h => by omega) hn, ?_⟩
  refine W0 ?_
  exact fin_frz TT rfl rfl

def perr (g : Graph) (p : Mor) (_ : Nat) (k : Int) : Int :=
  if (!p.nodes.contains (atE g.edges k).src) = true ∨ (!p.nodes.contains (atE g.edges k).dst) = true then 14 else 0
/-- The error of a part of a valid graph. -/
def prt (g : Graph) (p : Mor) : Int :=
  if aval p.nodes g.nodes.length ≠ 0 then aval p.nodes g.nodes.length else if aval p.edges g.edges.length ≠ 0 then aval p.edges g.edges.length else errs (perr g p) 0 p.edges
/-- The error of a part. -/
def pval (g : Graph) (p : Mor) : Int := if gval g ≠ 0 then gval g else prt g p

theorem c89 (g : Graph) (p : Mor) (hg : gval g = 0) : Con P 89 [] [g.av, p.av] (.int .i64 (prt g p)) [] := by
  refine go Tryz.func89 (by rfl) rfl rfl rfl fun hl => ?_
  refine W0 ?_
  rw [nums_len]
  refine ⟨_, _, c150 p.nodes _, ?_⟩
  refine W0 ?_
  refine ⟨fun h1 => ?_, fun h1 => ?_⟩
  · refine W0 ?_
    refine fin_frz TT ?_ rfl
    have h1 : aval p.nodes g.nodes.length ≠ 0 := by simpa using h1
    rw [prt, if_pos h1]; rfl
  have h1 : aval p.nodes g.nodes.length = 0 := by simpa using h1
  refine W0 ?_
  rw [edgs_len]
  refine ⟨_, _, c150 p.edges _, ?_⟩
  refine W0 ?_
  refine ⟨fun h2 => ?_, fun h2 => ?_⟩
  · refine W0 ?_
    refine fin_frz TT ?_ rfl
    have h2 : aval p.edges g.edges.length ≠ 0 := by simpa using h2
    rw [prt, if_neg (by omega), if_pos h2]; rfl
  have h2 : aval p.edges g.edges.length = 0 := by simpa using h2
  have hlen := aval_len h2
  have hgl := gval_len hg
  refine W0 ?_
  refine loop (fun i : Nat => mkSt [(7, .int .i64 i), (2, .bptr 0 0), (3, .bptr 1 0)] [.box 29 g.cs, .box 35 p.cs]) (fun i => i ≤ p.edges.length ∧ ∀ j y, j < i → p.edges[j]? = some y → perr g p j y = 0) (fun i => p.edges.length - i) 0 ⟨Nat.zero_le _, fun j y h => by omega⟩
    (le_of [0, 1] rfl rfl rfl ⟨rfl, rfl, rfl, trivial⟩ ⟨rfl, rfl, trivial⟩) ?_
  rintro i ⟨hi, hno⟩
  refine W0 ?_
  rw [nums_len]
  refine ⟨fun hlt => ?_, fun hge => ?_⟩
  · have hlt := of_lt hlt
    have hx : p.edges[i]? = some p.edges[i] := List.getElem?_eq_getElem hlt
    generalize p.edges[i] = k at hx
    have hk := aval_at h2 hx
    have hy := atE_some (l := g.edges) (n := k) (by omega)
    have bad : ∀ e : Int, perr g p i k = e → e ≠ 0 → prt g p = e := fun e he hne => by
      rw [prt, if_neg (by omega), if_neg (by omega), errs_first hno hx (by rw [he]; exact hne), he]
    refine W0 ?_
    refine ⟨by omega, _, nums_at hx, ?_⟩
    refine W0 ?_
    refine ⟨by omega, _, edgs_at hy, ?_⟩
    refine W0 ?_
    refine ⟨rfl, ?_⟩
    refine W0 ?_
    refine ⟨_, _, c151 p.nodes _, ?_⟩
    refine W0 ?_
    refine ⟨fun h3 => ?_, fun h3 => ?_⟩
    · refine W0 ?_
      refine fin_frz TT ?_ rfl
      rw [bad 14 (by rw [perr, if_pos (.inl h3)]) (by decide)]; rfl
    · refine W0 ?_
      refine ⟨_, _, c151 p.nodes _, ?_⟩
      refine W0 ?_
      refine ⟨fun h4 => ?_, fun h4 => ?_⟩
      · refine W0 ?_
        refine fin_frz TT ?_ rfl
        rw [bad 14 (by rw [perr, if_pos (.inr h4)]) (by decide)]; rfl
      · refine W0 ?_
        exact ⟨i + 1, ⟨hlt, zero_upto hno hx (by rw [perr, h3, h4]; simp)⟩, by show p.edges.length - (i + 1) < p.edges.length - i; omega, le_of [0, 1] rfl rfl rfl ⟨step_num hlt (by omega), rfl, rfl, trivial⟩ ⟨rfl, rfl, trivial⟩⟩
  · have hge := of_ge hge
    refine W0 ?_
    refine fin_frz TT ?_ rfl
    rw [prt, if_neg (by omega), if_neg (by omega), errs_all hno (by omega)]; rfl
theorem c170 (g : Graph) (p : Mor) (hg : gval g = 0) : Con P 170 [] [g.av, p.av] (.int .i64 (prt g p)) [] := by
  refine go Tryz.func170 (by rfl) rfl rfl rfl fun hl => ?_
  refine W0 ?_
  rw [nums_len]
  refine ⟨_, _, c210 p.nodes _, ?_⟩
  refine W0 ?_
  refine ⟨fun h1 => ?_, fun h1 => ?_⟩
  · refine W0 ?_
    refine fin_frz TT ?_ rfl
    have h1 : aval p.nodes g.nodes.length ≠ 0 := by simpa using h1
    rw [prt, if_pos h1]; rfl
  have h1 : aval p.nodes g.nodes.length = 0 := by simpa using h1
  refine W0 ?_
  rw [edgs_len]
  refine ⟨_, _, c210 p.edges _, ?_⟩
  refine W0 ?_
  refine ⟨fun h2 => ?_, fun h2 => ?_⟩
  · refine W0 ?_
    refine fin_frz TT ?_ rfl
    have h2 : aval p.edges g.edges.length ≠ 0 := by simpa using h2
    rw [prt, if_neg (by omega), if_pos h2]; rfl
  have h2 : aval p.edges g.edges.length = 0 := by simpa using h2
  have hlen := aval_len h2
  have hlen1 := aval_len h1
  have hgl := gval_len hg
  have hs := aval_sorted h1
  refine W0 ?_
  refine loop (fun i : Nat => mkSt [(30, .int .i64 i), (29, .int .i64 p.edges.length), (28, .slice 1 (nums p.edges)), (2, .bptr 0 0), (3, .bptr 1 0)] [.box 29 g.cs, .box 35 p.cs]) (fun i => i ≤ p.edges.length ∧ ∀ j y, j < i → p.edges[j]? = some y → perr g p j y = 0) (fun i => p.edges.length - i) 0 ⟨Nat.zero_le _, fun j y h => by omega⟩
    (le_of [0, 1] rfl rfl rfl ⟨rfl, by rw [nums_len]; rfl, rfl, rfl, rfl, trivial⟩ ⟨rfl, rfl, trivial⟩) ?_
  rintro i ⟨hi, hno⟩
  refine W0 ?_
  refine ⟨fun hlt => ?_, fun hge => ?_⟩
  · have hlt := of_lt hlt
    have hx : p.edges[i]? = some p.edges[i] := List.getElem?_eq_getElem hlt
    generalize p.edges[i] = k at hx
    have hk := aval_at h2 hx
    have hy := atE_some (l := g.edges) (n := k) (by omega)
    have bad : ∀ e : Int, perr g p i k = e → e ≠ 0 → prt g p = e := fun e he hne => by
      rw [prt, if_neg (by omega), if_neg (by omega), errs_first hno hx (by rw [he]; exact hne), he]
    refine W0 ?_
    refine ⟨by omega, _, nums_at hx, ?_⟩
    refine W0 ?_
    refine ⟨by omega, _, edgs_at hy, ?_⟩
    refine W0 ?_
    refine ⟨_, _, c211 p.nodes _ hs (by omega), ?_⟩
    refine W0 ?_
    refine ⟨fun h3 => ?_, fun h3 => ?_⟩
    · refine W0 ?_
      refine ⟨rfl, ?_⟩
      refine W0 ?_
      refine fin_frz TT ?_ rfl
      rw [bad 14 (by rw [perr, if_pos (.inl h3)]) (by decide)]; rfl
    · refine W0 ?_
      refine ⟨by omega, _, edgs_at hy, ?_⟩
      refine W0 ?_
      refine ⟨_, _, c211 p.nodes _ hs (by omega), ?_⟩
      refine W0 ?_
      refine ⟨rfl, ?_⟩
      refine W0 ?_
      refine ⟨fun h4 => ?_, fun h4 => ?_⟩
      · refine W0 ?_
        refine fin_frz TT ?_ rfl
        rw [bad 14 (by rw [perr, if_pos (.inr h4)]) (by decide)]; rfl
      · refine W0 ?_
        exact ⟨i + 1, ⟨hlt, zero_upto hno hx (by rw [perr, h3, h4]; simp)⟩, by show p.edges.length - (i + 1) < p.edges.length - i; omega, le_of [0, 1] rfl rfl rfl ⟨step_num hlt (by omega), rfl, rfl, rfl, rfl, trivial⟩ ⟨rfl, rfl, trivial⟩⟩
  · have hge := of_ge hge
    refine W0 ?_
    refine fin_frz TT ?_ rfl
    rw [prt, if_neg (by omega), if_neg (by omega), errs_all hno (by omega)]; rfl
theorem c37 (g : Graph) (p : Mor) : Con P 37 [] [g.av, p.av] (.int .i64 (pval g p)) [] := by
  refine go Tryz.func37 (by rfl) rfl rfl rfl fun hl => ?_
  refine W0 ?_
  refine ⟨_, _, c36 g, ?_⟩
  refine W0 ?_
  refine ⟨fun h1 => ?_, fun h1 => ?_⟩
  · refine W0 ?_
    refine fin_frz TT ?_ rfl
    have h1 : gval g ≠ 0 := by simpa using h1
    rw [pval, if_pos h1]; rfl
  · have h1 : gval g = 0 := by simpa using h1
    refine W0 ?_
    refine ⟨_, _, c89 g p h1, ?_⟩
    refine W0 ?_
    refine fin_frz TT ?_ rfl
    rw [pval, if_neg (by omega)]; rfl
theorem c116 (g : Graph) (p : Mor) : Con P 116 [] [g.av, p.av] (.int .i64 (pval g p)) [] := by
  refine go Tryz.func116 (by rfl) rfl rfl rfl fun hl => ?_
  refine W0 ?_
  refine ⟨_, _, c45 g, ?_⟩
  refine W0 ?_
  refine ⟨fun h1 => ?_, fun h1 => ?_⟩
  · refine W0 ?_
    refine fin_frz TT ?_ rfl
    have h1 : gval g ≠ 0 := by simpa using h1
    rw [pval, if_pos h1]; rfl
  · have h1 : gval g = 0 := by simpa using h1
    refine W0 ?_
    refine ⟨_, _, c170 g p h1, ?_⟩
    refine W0 ?_
    refine fin_frz TT ?_ rfl
    rw [pval, if_neg (by omega)]; rfl
end Go.Av.Z

/- Copies. -/
namespace Go.Av.Z
open Go.Proofs

theorem nilcmp {nt k id : Nat} {o1 o2 : Oper} {t0 t3 t4 : Nat} {ty ty' e : TypeId} {i : TI} {sz : Nat} {xs : List (List AV)} {S : St} {Q : Exit → St → Prop} (g1 : o1.guard = none) (g2 : o2.guard = none) (h1 : o1.op = .move (.tmp t0)) (d1 : o1.dst = some t3)
    (h2 : o2.op = .binOp .eql ty (.tmp t3) (.const (.slice none 0 0)) ty') (d2 : o2.dst = some t4) (n1 : Nat.ble (t3 + 1) nt = true) (n2 : Nat.ble (t4 + 1) nt = true) (hi : TT ty = some i) (hk : i.k = .slice e)
    (hx : look S.tm t0 = some (.slice sz xs)) (h : ∀ b : Bool, (b = true → xs = []) → Q .normal ⟨(t4, .bool b) :: (t3, .slice sz xs) :: S.tm, S.hp, S.nx⟩) : Den P (.code nt k (.region id #[o1, o2] false) S Q) :=
  ⟨awp_nilcmp hT rfl g1 g2 h1 d1 h2 d2 n1 n2 hi hk hx h⟩

theorem c46 (l : List Int) (hn : l.length ≤ 1099511627776) : Con P 46 [] [.slice 1 (nums l)] (.ref 0) [.row 3 1 (nums l)] := by
  refine go Tryz.func46 (by rfl) rfl rfl rfl fun hl => ?_
  iterate 6 (refine w ?_; conv => whnf)
  refine nilcmp rfl rfl rfl rfl rfl rfl rfl rfl rfl rfl rfl ?_
  intro b hb
  refine W0 ?_
  refine ⟨fun h => ?_, fun h => ?_⟩
  · refine W0 ?_
    have : nums l = [] := hb h
    rw [this]
    exact le_of [1] rfl rfl rfl ⟨rfl, trivial⟩ ⟨rfl, trivial⟩
  · refine W0 ?_
    rw [nums_len]
    refine ⟨by show (0 + l.length) * 8 ≤ _; omega, ?_⟩
    refine W0 ?_
    exact le_of [2] rfl rfl rfl ⟨rfl, trivial⟩ ⟨rfl, trivial⟩
theorem c98 (l : List Edge) (hn : l.length ≤ 1099511627776) : Con P 98 [] [.slice 3 (edgs l)] (.ref 0) [.row 133 3 (edgs l)] := by
  refine go Tryz.func98 (by rfl) rfl rfl rfl fun hl => ?_
  iterate 6 (refine w ?_; conv => whnf)
  refine nilcmp rfl rfl rfl rfl rfl rfl rfl rfl rfl rfl rfl ?_
  intro b hb
  refine W0 ?_
  refine ⟨fun h => ?_, fun h => ?_⟩
  · refine W0 ?_
    have : edgs l = [] := hb h
    rw [this]
    exact le_of [1] rfl rfl rfl ⟨rfl, trivial⟩ ⟨rfl, trivial⟩
  · refine W0 ?_
    rw [edgs_len]
    refine ⟨by show (0 + l.length) * 24 ≤ _; omega, ?_⟩
    refine W0 ?_
    exact le_of [2] rfl rfl rfl ⟨rfl, trivial⟩ ⟨rfl, trivial⟩
end Go.Av.Z

/- The graph of a part. -/
namespace Go.Av.Z
open Go.Proofs

/-- The first place of a number, or -1. -/
def plc (l : List Int) (n : Int) : Int := idx (fun y => y == n) l
theorem c90 (l : List Int) (n : Int) : Con P 90 [] [.slice 1 (nums l), .int .i64 n] (.int .i64 (plc l n)) [] := by
  refine go Tryz.func90 (by rfl) rfl rfl rfl fun hl => ?_
  refine W0 ?_
  have hn : l.length ≤ 9223372036854775807 := len_nums (rest := []) (fun n h => hl n (by simpa [lensL, lens] using h))
  refine loop (fun i : Nat => mkSt [(5, .int .i64 i), (0, .slice 1 (nums l)), (1, .int .i64 n)] []) (fun i => i ≤ l.length ∧ ∀ j y, j < i → l[j]? = some y → (y == n) = false) (fun i => l.length - i) 0 ⟨Nat.zero_le _, fun j y h => by omega⟩
    (le_of [] rfl rfl rfl ⟨rfl, rfl, rfl, trivial⟩ trivial) ?_
  rintro i ⟨hi, hno⟩
  refine W0 ?_
  rw [nums_len]
  refine ⟨fun hlt => ?_, fun hge => ?_⟩
  · have hlt := of_lt hlt
    have hx : l[i]? = some l[i] := List.getElem?_eq_getElem hlt
    generalize l[i] = x at hx
    refine W0 ?_
    refine ⟨by omega, _, nums_at hx, ?_⟩
    refine W0 ?_
    refine ⟨fun h3 => ?_, fun h3 => ?_⟩
    · refine W0 ?_
      refine fin_frz TT ?_ rfl
      rw [plc, idx_some hno hx h3]; rfl
    · refine W0 ?_
      exact ⟨i + 1, ⟨hlt, none_upto (p := fun y => y == n) hno hx h3⟩, by show l.length - (i + 1) < l.length - i; omega, le_of [] rfl rfl rfl ⟨step_num hlt hn, rfl, rfl, trivial⟩ trivial⟩
  · have hge := of_ge hge
    refine W0 ?_
    refine fin_frz TT ?_ rfl
    rw [plc, idx_none (none_all hno (by omega))]; rfl

def extE (g : Graph) (p : Mor) (k : Int) : Edge := ⟨(atE g.edges k).type, plc p.nodes (atE g.edges k).src, plc p.nodes (atE g.edges k).dst⟩
/-- The graph of a part. -/
def ext (g : Graph) (p : Mor) : Graph := ⟨p.nodes.map (at0 g.nodes), p.edges.map (extE g p)⟩
theorem take_map {α β : Type} (f : α → β) {l : List α} {i : Nat} {x : α} (h : l[i]? = some x) : (l.take (i + 1)).map f = (l.take i).map f ++ [f x] := by
  rw [List.take_add_one, h]; simp
theorem nums_app (a : List Int) (n : Int) : nums (a ++ [n]) = nums a ++ [[.int .i64 n]] := by simp [nums]
theorem edgs_app (a : List Edge) (e : Edge) : edgs (a ++ [e]) = edgs a ++ [[.int .i64 e.type, .int .i64 e.src, .int .i64 e.dst]] := by simp [edgs, Edge.el]

theorem pval_ok {g : Graph} {p : Mor} (h : pval g p = 0) : gval g = 0 ∧ aval p.nodes g.nodes.length = 0 ∧ aval p.edges g.edges.length = 0 ∧ errs (perr g p) 0 p.edges = 0 := by
  unfold pval at h
  split at h
  · exact absurd h ‹_›
  · rename_i h1
    unfold prt at h
    split at h
    · exact absurd h ‹_›
    · split at h
      · exact absurd h ‹_›
      · exact ⟨by omega, by omega, by omega, h⟩

theorem c38_err (g : Graph) (p : Mor) (h : pval g p ≠ 0) : Con P 38 [] [g.av, p.av] (.tuple [(⟨[], []⟩ : Graph).av, (⟨[], []⟩ : Mor).av, .int .i64 (pval g p)]) [] := by
  refine go Tryz.func38 (by rfl) rfl rfl rfl fun hl => ?_
  refine W0 ?_
  refine ⟨_, _, c37 g p, ?_⟩
  refine W0 ?_
  refine ⟨fun h1 => ?_, fun h1 => absurd h1 (by simpa using h)⟩
  refine W0 ?_
  exact fin_frz TT rfl rfl
theorem c38 (g : Graph) (p : Mor) (h : pval g p = 0) : Con P 38 [] [g.av, p.av] (.tuple [(ext g p).av, p.av, .int .i64 0]) [] := by
  refine go Tryz.func38 (by rfl) rfl rfl rfl fun hl => ?_
  refine W0 ?_
  refine ⟨_, _, c37 g p, ?_⟩
  refine W0 ?_
  refine ⟨fun h1 => absurd h1 (by simp [h]), fun h1 => ?_⟩
  obtain ⟨hg, hn, he, _⟩ := pval_ok h
  have hgl := gval_len hg
  have hnl := aval_len hn
  have hel := aval_len he
  refine W0 ?_
  refine loop (fun i : Nat => mkSt [(9, .int .i64 i), (2, .bptr 0 0), (3, .bptr 1 0), (4, .bptr 2 0), (5, .bptr 5 0), (8, .bptr 8 0)]
      [.box 29 g.cs, .box 35 p.cs, .box 29 [.ref 3, .ref 4], .row 3 1 [], .row 133 3 [], .box 36 [.ref 6, .ref 7], .row 3 1 [], .row 3 1 [], .box 29 [.ref 9, .ref 10], .row 3 1 (nums ((p.nodes.take i).map (at0 g.nodes))), .row 133 3 []])
    (fun i => i ≤ p.nodes.length) (fun i => p.nodes.length - i) 0 (Nat.zero_le _)
    (le_of [0, 1, 2, 3, 4, 5, 6, 7, 9, 10, 11] rfl rfl rfl ⟨rfl, rfl, rfl, rfl, rfl, rfl, trivial⟩ ⟨rfl, rfl, rfl, rfl, rfl, rfl, rfl, rfl, rfl, rfl, rfl, trivial⟩) ?_
  intro i hi
  refine W0 ?_
  rw [nums_len]
  refine ⟨fun hlt => ?_, fun hge => ?_⟩
  · have hlt := of_lt hlt
    have hx : p.nodes[i]? = some p.nodes[i] := List.getElem?_eq_getElem hlt
    generalize p.nodes[i] = k at hx
    have hk := aval_at hn hx
    refine W0 ?_
    refine ⟨by omega, _, nums_at hx, ?_⟩
    refine W0 ?_
    refine ⟨by omega, _, nums_at (at0_some (by omega)), ?_⟩
    refine W0 ?_
    refine ⟨by rw [nums_len, List.length_map, List.length_take]; show (min i p.nodes.length + 1) * 8 ≤ _; omega, ?_⟩
    refine W0 ?_
    refine ⟨rfl, ?_⟩
    refine W0 ?_
    exact ⟨i + 1, hlt, by show p.nodes.length - (i + 1) < p.nodes.length - i; omega, le_of [0, 1, 2, 3, 4, 5, 6, 7, 8, 12, 10] rfl rfl rfl ⟨step_num hlt (by omega), rfl, rfl, rfl, rfl, rfl, trivial⟩
      ⟨rfl, rfl, rfl, rfl, rfl, rfl, rfl, rfl, rfl, by rw [take_map _ hx, nums_app]; rfl, rfl, trivial⟩⟩
  · have hge := of_ge hge
    have hall : p.nodes.take i = p.nodes := List.take_of_length_le (by omega)
    rw [hall]
    refine W0 ?_
    refine loop (fun i : Nat => mkSt [(10, .int .i64 i), (2, .bptr 0 0), (3, .bptr 1 0), (4, .bptr 2 0), (5, .bptr 5 0), (8, .bptr 8 0)]
        [.box 29 g.cs, .box 35 p.cs, .box 29 [.ref 3, .ref 4], .row 3 1 [], .row 133 3 [], .box 36 [.ref 6, .ref 7], .row 3 1 [], .row 3 1 [], .box 29 [.ref 9, .ref 10], .row 3 1 (nums (p.nodes.map (at0 g.nodes))), .row 133 3 (edgs ((p.edges.take i).map (extE g p)))])
      (fun i => i ≤ p.edges.length) (fun i => p.edges.length - i) 0 (Nat.zero_le _)
      (le_of [0, 1, 2, 3, 4, 5, 6, 7, 8, 9, 10] rfl rfl rfl ⟨rfl, rfl, rfl, rfl, rfl, rfl, trivial⟩ ⟨rfl, rfl, rfl, rfl, rfl, rfl, rfl, rfl, rfl, rfl, rfl, trivial⟩) ?_
    clear hall hi
    intro i hi
    refine W0 ?_
    rw [nums_len]
    refine ⟨fun hlt => ?_, fun hge => ?_⟩
    · have hlt := of_lt hlt
      have hx : p.edges[i]? = some p.edges[i] := List.getElem?_eq_getElem hlt
      generalize p.edges[i] = k at hx
      have hk := aval_at he hx
      have hy := atE_some (l := g.edges) (n := k) (by omega)
      refine W0 ?_
      refine ⟨by omega, _, nums_at hx, ?_⟩
      refine W0 ?_
      refine ⟨by omega, _, edgs_at hy, ?_⟩
      refine W0 ?_
      refine ⟨rfl, ?_⟩
      refine W0 ?_
      refine ⟨_, _, c90 p.nodes _, ?_⟩
      refine W0 ?_
      refine ⟨_, _, c90 p.nodes _, ?_⟩
      refine W0 ?_
      refine ⟨by rw [edgs_len, List.length_map, List.length_take]; show (min i p.edges.length + 1) * 24 ≤ _; omega, ?_⟩
      refine W0 ?_
      refine ⟨rfl, ?_⟩
      refine W0 ?_
      exact ⟨i + 1, hlt, by show p.edges.length - (i + 1) < p.edges.length - i; omega, le_of [0, 1, 2, 3, 4, 5, 6, 7, 8, 9, 15] rfl rfl rfl ⟨step_num hlt (by omega), rfl, rfl, rfl, rfl, rfl, trivial⟩
        ⟨rfl, rfl, rfl, rfl, rfl, rfl, rfl, rfl, rfl, rfl, by rw [take_map _ hx, edgs_app]; rfl, trivial⟩⟩
    · have hge := of_ge hge
      have hall : p.edges.take i = p.edges := List.take_of_length_le (by omega)
      rw [hall]
      refine W0 ?_
      rw [nums_len]
      refine ⟨by show (0 + p.nodes.length) * 8 ≤ _; omega, ?_⟩
      refine W0 ?_
      rw [nums_len]
      refine ⟨by show (0 + p.edges.length) * 8 ≤ _; omega, ?_⟩
      refine W0 ?_
      refine ⟨by kernel_rfl, ?_⟩
      refine W0 ?_
      exact fin_frz TT rfl rfl
end Go.Av.Z

/- The graph of a part, as the program makes it. -/
namespace Go.Av.Z
open Go.Proofs

theorem bpos_plc {l : List Int} {n : Int} (hs : l.Pairwise (· < ·)) (hc : l.contains n = true) : ((bpos l n : Nat) : Int) = plc l n := by
  have hm : n ∈ l := by simpa using hc
  obtain ⟨i, hi⟩ := List.mem_iff_getElem?.1 hm
  have mono : ∀ (a b : Nat) (x y : Int), a < b → l[a]? = some x → l[b]? = some y → x < y := by
    intro a b x y hab hx hy
    obtain ⟨ha, rfl⟩ := List.getElem?_eq_some_iff.1 hx
    obtain ⟨hb, rfl⟩ := List.getElem?_eq_some_iff.1 hy
    exact List.pairwise_iff_getElem.1 hs a b ha hb hab
  have h1 : bpos l n = i := bpos_of (by have := (List.getElem?_eq_some_iff.1 hi).1; omega) (fun k y hk hy => mono k i y n hk hy hi) (fun y hy => by rw [hi] at hy; cases hy; exact Int.le_refl _)
  have h2 : plc l n = i := idx_some (fun j y hj hy => by have := mono j i y n hj hy hi; simp; omega) hi (by simp)
  rw [h1, h2]
theorem perr_ok {g : Graph} {p : Mor} {i : Nat} {k : Int} (h : perr g p i k = 0) : p.nodes.contains (atE g.edges k).src = true ∧ p.nodes.contains (atE g.edges k).dst = true := by
  unfold perr at h
  split at h
  · cases h
  · rename_i h1
    cases hc : p.nodes.contains (atE g.edges k).src <;> cases hd : p.nodes.contains (atE g.edges k).dst <;> simp_all

theorem c117_err (g : Graph) (p : Mor) (h : pval g p ≠ 0) : Con P 117 [] [g.av, p.av] (.tuple [(⟨[], []⟩ : Graph).av, (⟨[], []⟩ : Mor).av, .int .i64 (pval g p)]) [] := by
  refine go Tryz.func117 (by rfl) rfl rfl rfl fun hl => ?_
  refine W0 ?_
  refine ⟨_, _, c116 g p, ?_⟩
  refine W0 ?_
  refine ⟨fun h1 => ?_, fun h1 => absurd h1 (by simpa using h)⟩
  refine W0 ?_
  exact fin_frz TT rfl rfl
theorem c117 (g : Graph) (p : Mor) (h : pval g p = 0) : Con P 117 [] [g.av, p.av] (.tuple [(ext g p).av, p.av, .int .i64 0]) [] := by
  refine go Tryz.func117 (by rfl) rfl rfl rfl fun hl => ?_
  refine W0 ?_
  refine ⟨_, _, c116 g p, ?_⟩
  refine W0 ?_
  refine ⟨fun h1 => absurd h1 (by simp [h]), fun h1 => ?_⟩
  obtain ⟨hg, hn, he, hpe⟩ := pval_ok h
  have hgl := gval_len hg
  have hnl := aval_len hn
  have hel := aval_len he
  have hsn := aval_sorted hn
  refine W0 ?_
  refine loop (fun i : Nat => mkSt [(25, .int .i64 i), (24, .int .i64 p.nodes.length), (23, .slice 1 (nums p.nodes)), (2, .bptr 0 0), (3, .bptr 1 0), (4, .bptr 2 0), (5, .bptr 5 0), (8, .bptr 8 0)]
      [.box 29 g.cs, .box 35 p.cs, .box 29 [.ref 3, .ref 4], .row 3 1 [], .row 133 3 [], .box 36 [.ref 6, .ref 7], .row 3 1 [], .row 3 1 [], .box 29 [.ref 9, .ref 10], .row 3 1 (nums ((p.nodes.take i).map (at0 g.nodes))), .row 133 3 []])
    (fun i => i ≤ p.nodes.length) (fun i => p.nodes.length - i) 0 (Nat.zero_le _)
    (le_of [0, 1, 2, 3, 4, 5, 6, 7, 9, 10, 11] rfl rfl rfl ⟨rfl, by rw [nums_len]; rfl, rfl, rfl, rfl, rfl, rfl, rfl, trivial⟩ ⟨rfl, rfl, rfl, rfl, rfl, rfl, rfl, rfl, rfl, rfl, rfl, trivial⟩) ?_
  intro i hi
  refine W0 ?_
  refine ⟨fun hlt => ?_, fun hge => ?_⟩
  · have hlt := of_lt hlt
    have hx : p.nodes[i]? = some p.nodes[i] := List.getElem?_eq_getElem hlt
    generalize p.nodes[i] = k at hx
    have hk := aval_at hn hx
    refine W0 ?_
    refine ⟨by omega, _, nums_at hx, ?_⟩
    refine W0 ?_
    refine ⟨by omega, _, nums_at (at0_some (by omega)), ?_⟩
    refine W0 ?_
    refine ⟨by rw [nums_len, List.length_map, List.length_take]; show (min i p.nodes.length + 1) * 8 ≤ _; omega, ?_⟩
    refine W0 ?_
    refine ⟨by kernel_rfl, ?_⟩
    refine W0 ?_
    exact ⟨i + 1, hlt, by show p.nodes.length - (i + 1) < p.nodes.length - i; omega, le_of [0, 1, 2, 3, 4, 5, 6, 7, 8, 12, 10] rfl rfl rfl ⟨step_num hlt (by omega), rfl, rfl, rfl, rfl, rfl, rfl, rfl, trivial⟩
      ⟨rfl, rfl, rfl, rfl, rfl, rfl, rfl, rfl, rfl, by rw [take_map _ hx, nums_app]; rfl, rfl, trivial⟩⟩
  · have hge := of_ge hge
    have hall : p.nodes.take i = p.nodes := List.take_of_length_le (by omega)
    rw [hall]
    refine W0 ?_
    refine loop (fun i : Nat => mkSt [(43, .int .i64 i), (42, .int .i64 p.edges.length), (41, .slice 1 (nums p.edges)), (2, .bptr 0 0), (3, .bptr 1 0), (4, .bptr 2 0), (5, .bptr 5 0), (8, .bptr 8 0)]
        [.box 29 g.cs, .box 35 p.cs, .box 29 [.ref 3, .ref 4], .row 3 1 [], .row 133 3 [], .box 36 [.ref 6, .ref 7], .row 3 1 [], .row 3 1 [], .box 29 [.ref 9, .ref 10], .row 3 1 (nums (p.nodes.map (at0 g.nodes))), .row 133 3 (edgs ((p.edges.take i).map (extE g p)))])
      (fun i => i ≤ p.edges.length) (fun i => p.edges.length - i) 0 (Nat.zero_le _)
      (le_of [0, 1, 2, 3, 4, 5, 6, 7, 8, 9, 10] rfl rfl rfl ⟨rfl, by rw [nums_len]; rfl, rfl, rfl, rfl, rfl, rfl, rfl, trivial⟩ ⟨rfl, rfl, rfl, rfl, rfl, rfl, rfl, rfl, rfl, rfl, rfl, trivial⟩) ?_
    clear hall hi
    intro i hi
    refine W0 ?_
    refine ⟨fun hlt => ?_, fun hge => ?_⟩
    · have hlt := of_lt hlt
      have hx : p.edges[i]? = some p.edges[i] := List.getElem?_eq_getElem hlt
      generalize p.edges[i] = k at hx
      have hk := aval_at he hx
      have hy := atE_some (l := g.edges) (n := k) (by omega)
      have hc := perr_ok (by have := errs_off hpe i k hx; exact this)
      refine W0 ?_
      refine ⟨by omega, _, nums_at hx, ?_⟩
      refine W0 ?_
      refine ⟨by omega, _, edgs_at hy, ?_⟩
      refine W0 ?_
      refine ⟨_, _, c171 p.nodes _ (hsn.imp fun h => by omega) (by omega), ?_⟩
      refine W0 ?_
      refine ⟨_, _, c171 p.nodes _ (hsn.imp fun h => by omega) (by omega), ?_⟩
      refine W0 ?_
      refine ⟨by rw [edgs_len, List.length_map, List.length_take]; show (min i p.edges.length + 1) * 24 ≤ _; omega, ?_⟩
      refine W0 ?_
      exact ⟨i + 1, hlt, by show p.edges.length - (i + 1) < p.edges.length - i; omega, le_of [0, 1, 2, 3, 4, 5, 6, 7, 8, 9, 15] rfl rfl rfl ⟨step_num hlt (by omega), rfl, rfl, rfl, rfl, rfl, rfl, rfl, trivial⟩
        ⟨rfl, rfl, rfl, rfl, rfl, rfl, rfl, rfl, rfl, rfl, by rw [take_map _ hx, edgs_app, bpos_plc hsn hc.1, bpos_plc hsn hc.2]; rfl, trivial⟩⟩
    · have hge := of_ge hge
      have hall : p.edges.take i = p.edges := List.take_of_length_le (by omega)
      rw [hall]
      refine W0 ?_
      refine ⟨_, _, c46 p.nodes (by omega), ?_⟩
      refine W0 ?_
      refine ⟨_, _, c46 p.edges (by omega), ?_⟩
      refine W0 ?_
      refine ⟨by kernel_rfl, ?_⟩
      refine W0 ?_
      exact fin_frz TT rfl rfl
end Go.Av.Z

/- Small lists made out of lists. -/
namespace Go.Av.Z
open Go.Proofs

theorem c95 (l : List Int) (n : Int) : Con P 95 [] [.slice 1 (nums l), .int .i64 n] (.int .i64 (plc l n)) [] := by
  refine go Tryz.func95 (by rfl) rfl rfl rfl fun hl => ?_
  refine W0 ?_
  have hn : l.length ≤ 9223372036854775807 := len_nums (rest := []) (fun n h => hl n (by simpa [lensL, lens] using h))
  refine loop (fun i : Nat => mkSt [(8, .int .i64 i), (7, .int .i64 l.length), (0, .slice 1 (nums l)), (1, .int .i64 n)] []) (fun i => i ≤ l.length ∧ ∀ j y, j < i → l[j]? = some y → (y == n) = false) (fun i => l.length - i) 0 ⟨Nat.zero_le _, fun j y h => by omega⟩
    (le_of [] rfl rfl rfl ⟨rfl, by rw [nums_len]; rfl, rfl, rfl, trivial⟩ trivial) ?_
  rintro i ⟨hi, hno⟩
  refine W0 ?_
  refine ⟨fun hlt => ?_, fun hge => ?_⟩
  · have hlt := of_lt hlt
    have hx : l[i]? = some l[i] := List.getElem?_eq_getElem hlt
    generalize l[i] = x at hx
    refine W0 ?_
    refine ⟨by omega, _, nums_at hx, ?_⟩
    refine W0 ?_
    have hsw : (x == n) = (n == x) := by rw [Bool.eq_iff_iff]; simp; exact eq_comm
    refine ⟨fun h3 => ?_, fun h3 => ?_⟩
    · refine W0 ?_
      refine fin_frz TT ?_ rfl
      rw [plc, idx_some hno hx (hsw.trans h3)]; rfl
    · refine W0 ?_
      exact ⟨i + 1, ⟨hlt, none_upto (p := fun y => y == n) hno hx (hsw.trans h3)⟩, by show l.length - (i + 1) < l.length - i; omega, le_of [] rfl rfl rfl ⟨step_num hlt hn, rfl, rfl, rfl, trivial⟩ trivial⟩
  · have hge := of_ge hge
    refine W0 ?_
    refine fin_frz TT ?_ rfl
    rw [plc, idx_none (none_all hno (by omega))]; rfl
theorem plc_contains (l : List Int) (n : Int) : decide (0 ≤ plc l n) = l.contains n := by
  rw [plc, idx_any]
  rw [Bool.eq_iff_iff]
  simp
theorem c43 (l : List Int) (n : Int) : Con P 43 [] [.slice 1 (nums l), .int .i64 n] (.bool (l.contains n)) [] := by
  refine go Tryz.func43 (by rfl) rfl rfl rfl fun hl => ?_
  refine W0 ?_
  refine ⟨_, _, c95 l n, ?_⟩
  refine W0 ?_
  refine fin_frz TT ?_ rfl
  rw [← plc_contains]; rfl
theorem take_of_all {α : Type} {l : List α} {i : Nat} (h : ¬ i < l.length) : l.take i = l := List.take_of_length_le (by omega)

/-- The places of numbers in a list. -/
theorem c214 (l m : List Int) (hm : m.length ≤ 1099511627776) : Con P 214 [] [.slice 1 (nums l), .slice 1 (nums m)] (.slice 1 (nums (m.map (plc l)))) [] := by
  refine go Tryz.func214 (by rfl) rfl rfl rfl fun hl => ?_
  refine W0 ?_
  refine loop (fun i : Nat => mkSt [(11, .int .i64 i), (10, .int .i64 m.length), (9, .slice 1 (nums m)), (5, .ref 0), (0, .slice 1 (nums l))] [.row 3 1 (nums ((m.take i).map (plc l)))]) (fun i => i ≤ m.length) (fun i => m.length - i) 0 (Nat.zero_le _)
    (le_of [1] rfl rfl rfl ⟨rfl, by rw [nums_len]; rfl, rfl, rfl, rfl, trivial⟩ ⟨rfl, trivial⟩) ?_
  intro i hi
  refine W0 ?_
  refine ⟨fun hlt => ?_, fun hge => ?_⟩
  · have hlt := of_lt hlt
    have hx : m[i]? = some m[i] := List.getElem?_eq_getElem hlt
    generalize m[i] = k at hx
    refine W0 ?_
    refine ⟨by omega, _, nums_at hx, ?_⟩
    refine W0 ?_
    refine ⟨_, _, c95 l k, ?_⟩
    refine W0 ?_
    refine ⟨by rw [nums_len, List.length_map, List.length_take]; show (min i m.length + 1) * 8 ≤ _; omega, ?_⟩
    refine W0 ?_
    exact ⟨i + 1, hlt, by show m.length - (i + 1) < m.length - i; omega, le_of [3] rfl rfl rfl ⟨step_num hlt (by omega), rfl, rfl, rfl, rfl, trivial⟩ ⟨by rw [take_map _ hx, nums_app]; rfl, trivial⟩⟩
  · have hge := of_ge hge
    rw [take_of_all hge]
    refine W0 ?_
    exact fin_frz TT rfl rfl
/-- Some elements of a list. -/
theorem c215 (l m : List Int) (hm : m.length ≤ 1099511627776) (h : ∀ i ∈ m, 0 ≤ i ∧ i < l.length) : Con P 215 [] [.slice 1 (nums l), .slice 1 (nums m)] (.slice 1 (nums (m.map (at0 l)))) [] := by
  refine go Tryz.func215 (by rfl) rfl rfl rfl fun hl => ?_
  refine W0 ?_
  refine loop (fun i : Nat => mkSt [(11, .int .i64 i), (10, .int .i64 m.length), (9, .slice 1 (nums m)), (5, .ref 0), (0, .slice 1 (nums l))] [.row 3 1 (nums ((m.take i).map (at0 l)))]) (fun i => i ≤ m.length) (fun i => m.length - i) 0 (Nat.zero_le _)
    (le_of [1] rfl rfl rfl ⟨rfl, by rw [nums_len]; rfl, rfl, rfl, rfl, trivial⟩ ⟨rfl, trivial⟩) ?_
  intro i hi
  refine W0 ?_
  refine ⟨fun hlt => ?_, fun hge => ?_⟩
  · have hlt := of_lt hlt
    have hx : m[i]? = some m[i] := List.getElem?_eq_getElem hlt
    generalize m[i] = k at hx
    have hk := h k (List.mem_of_getElem? hx)
    refine W0 ?_
    refine ⟨by omega, _, nums_at hx, ?_⟩
    refine W0 ?_
    refine ⟨by omega, _, nums_at (at0_some (by omega)), ?_⟩
    refine W0 ?_
    refine ⟨by rw [nums_len, List.length_map, List.length_take]; show (min i m.length + 1) * 8 ≤ _; omega, ?_⟩
    refine W0 ?_
    exact ⟨i + 1, hlt, by show m.length - (i + 1) < m.length - i; omega, le_of [2] rfl rfl rfl ⟨step_num hlt (by omega), rfl, rfl, rfl, rfl, trivial⟩ ⟨by rw [take_map _ hx, nums_app]; rfl, trivial⟩⟩
  · have hge := of_ge hge
    rw [take_of_all hge]
    refine W0 ?_
    exact fin_frz TT rfl rfl
/-- For the elements of a part, where the kept element that goes to each of them comes from. -/
theorem c120 (part into keep : List Int) (hm : part.length ≤ 1099511627776) (h : ∀ k ∈ part, 0 ≤ plc into k ∧ plc into k < keep.length) : Con P 120 [] [.slice 1 (nums part), .slice 1 (nums into), .slice 1 (nums keep)] (.slice 1 (nums (part.map fun k => at0 keep (plc into k)))) [] := by
  refine go Tryz.func120 (by rfl) rfl rfl rfl fun hl => ?_
  refine W0 ?_
  refine loop (fun i : Nat => mkSt [(13, .int .i64 i), (12, .int .i64 part.length), (11, .slice 1 (nums part)), (7, .ref 0), (1, .slice 1 (nums into)), (2, .slice 1 (nums keep))] [.row 3 1 (nums ((part.take i).map fun k => at0 keep (plc into k)))]) (fun i => i ≤ part.length) (fun i => part.length - i) 0 (Nat.zero_le _)
    (le_of [1] rfl rfl rfl ⟨rfl, by rw [nums_len]; rfl, rfl, rfl, rfl, rfl, trivial⟩ ⟨rfl, trivial⟩) ?_
  intro i hi
  refine W0 ?_
  refine ⟨fun hlt => ?_, fun hge => ?_⟩
  · have hlt := of_lt hlt
    have hx : part[i]? = some part[i] := List.getElem?_eq_getElem hlt
    generalize part[i] = k at hx
    have hk := h k (List.mem_of_getElem? hx)
    refine W0 ?_
    refine ⟨by omega, _, nums_at hx, ?_⟩
    refine W0 ?_
    refine ⟨_, _, c95 into k, ?_⟩
    refine W0 ?_
    refine ⟨hk.1, _, nums_at (at0_some (by omega)), ?_⟩
    refine W0 ?_
    refine ⟨by rw [nums_len, List.length_map, List.length_take]; show (min i part.length + 1) * 8 ≤ _; omega, ?_⟩
    refine W0 ?_
    exact ⟨i + 1, hlt, by show part.length - (i + 1) < part.length - i; omega, le_of [3] rfl rfl rfl ⟨step_num hlt (by omega), rfl, rfl, rfl, rfl, rfl, trivial⟩ ⟨by rw [take_map _ hx, nums_app]; rfl, trivial⟩⟩
  · have hge := of_ge hge
    rw [take_of_all hge]
    refine W0 ?_
    exact fin_frz TT rfl rfl
end Go.Av.Z

/- Complements: the arguments, what is deleted. -/
namespace Go.Av.Z
open Go.Proofs

/-- Some of what is made of the elements of a list and their places. -/
def sel {α β : Type} (f : Nat → α → Option β) : Nat → List α → List β
  | _, [] => []
  | i, x :: r => match f i x with
    | some y => y :: sel f (i + 1) r
    | none => sel f (i + 1) r
theorem sel_app {α β : Type} (f : Nat → α → Option β) : ∀ (a b : List α) (n : Nat), sel f n (a ++ b) = sel f n a ++ sel f (n + a.length) b
  | [], b, n => by simp [sel]
  | x :: r, b, n => by
    simp only [List.cons_append, sel, List.length_cons]
    have := sel_app f r b (n + 1)
    rw [show n + (r.length + 1) = n + 1 + r.length by omega]
    split <;> simp [this]
theorem sel_some {α β : Type} {f : Nat → α → Option β} {l : List α} {i : Nat} {x : α} {y : β} (hx : l[i]? = some x) (h : f i x = some y) : sel f 0 (l.take (i + 1)) = sel f 0 (l.take i) ++ [y] := by
  have hi : i < l.length := (List.getElem?_eq_some_iff.1 hx).1
  rw [List.take_add_one, hx, sel_app]
  simp [sel, List.length_take, Nat.min_eq_left (Nat.le_of_lt hi), h]
theorem sel_none {α β : Type} {f : Nat → α → Option β} {l : List α} {i : Nat} {x : α} (hx : l[i]? = some x) (h : f i x = none) : sel f 0 (l.take (i + 1)) = sel f 0 (l.take i) := by
  have hi : i < l.length := (List.getElem?_eq_some_iff.1 hx).1
  rw [List.take_add_one, hx, sel_app]
  simp [sel, List.length_take, Nat.min_eq_left (Nat.le_of_lt hi), h]
theorem sel_len {α β : Type} (f : Nat → α → Option β) : ∀ (l : List α) (n : Nat), (sel f n l).length ≤ l.length
  | [], n => by simp [sel]
  | x :: r, n => by
    have := sel_len f r (n + 1)
    simp only [sel, List.length_cons]
    split <;> simp <;> omega

/-- The cells of a gluing. -/
def glu (l g : Graph) (keep m : Mor) : List AV := [.slice 1 (nums l.nodes), .slice 3 (edgs l.edges), .slice 1 (nums g.nodes), .slice 3 (edgs g.edges), .slice 1 (nums keep.nodes), .slice 1 (nums keep.edges), .slice 1 (nums m.nodes), .slice 1 (nums m.edges)]
/-- The error of the arguments of a complement. -/
def cgiv (l g : Graph) (keep m : Mor) : Int := if mval l g m ≠ 0 then mval l g m else pval l keep
theorem c83 (l g : Graph) (keep m : Mor) : Con P 83 [] [.agg (glu l g keep m)] (.int .i64 (cgiv l g keep m)) [] := by
  refine go Tryz.func83 (by rfl) rfl rfl rfl fun hl => ?_
  refine W0 ?_
  refine ⟨_, _, c85 l g m, ?_⟩
  refine W0 ?_
  refine ⟨fun h1 => ?_, fun h1 => ?_⟩
  · refine W0 ?_
    refine fin_frz TT ?_ rfl
    have h1 : mval l g m ≠ 0 := by simpa using h1
    rw [cgiv, if_pos h1]; rfl
  · have h1 : mval l g m = 0 := by simpa using h1
    refine W0 ?_
    refine ⟨_, _, c116 l keep, ?_⟩
    refine W0 ?_
    refine fin_frz TT ?_ rfl
    rw [cgiv, if_neg (by omega)]; rfl
theorem c216 (l g : Graph) (keep m : Mor) : Con P 216 [] [l.av, g.av, keep.av, m.av] (.int .i64 (cgiv l g keep m)) [] := by
  refine go Tryz.func216 (by rfl) rfl rfl rfl fun hl => ?_
  refine W0 ?_
  refine ⟨_, _, c39 l g m, ?_⟩
  refine W0 ?_
  refine ⟨fun h1 => ?_, fun h1 => ?_⟩
  · refine W0 ?_
    refine fin_frz TT ?_ rfl
    have h1 : mval l g m ≠ 0 := by simpa using h1
    rw [cgiv, if_pos h1]; rfl
  · have h1 : mval l g m = 0 := by simpa using h1
    refine W0 ?_
    refine ⟨_, _, c37 l keep, ?_⟩
    refine W0 ?_
    refine fin_frz TT ?_ rfl
    rw [cgiv, if_neg (by omega)]; rfl

def goneF (keep : List Int) (i : Nat) (x : Int) : Option Int := if keep.contains (i : Int) then none else some x
/-- The images of what isn't kept. -/
def gone (images keep : List Int) : List Int := sel (goneF keep) 0 images
theorem c147 (l g : Graph) (keep m : Mor) (hm : m.nodes.length ≤ 1099511627776) : Con P 147 [] [.agg (glu l g keep m)] (.slice 1 (nums (gone m.nodes keep.nodes))) [] := by
  refine go Tryz.func147 (by rfl) rfl rfl rfl fun hl => ?_
  refine W0 ?_
  refine loop (fun i : Nat => mkSt [(10, .int .i64 i), (9, .int .i64 m.nodes.length), (8, .slice 1 (nums m.nodes)), (1, .bptr 0 0), (3, .ref 1)] [.box 149 (glu l g keep m), .row 3 1 (nums (sel (goneF keep.nodes) 0 (m.nodes.take i)))]) (fun i => i ≤ m.nodes.length) (fun i => m.nodes.length - i) 0 (Nat.zero_le _)
    (le_of [0, 2] rfl rfl rfl ⟨rfl, by rw [nums_len]; rfl, rfl, rfl, rfl, trivial⟩ ⟨rfl, rfl, trivial⟩) ?_
  intro i hi
  refine W0 ?_
  refine ⟨fun hlt => ?_, fun hge => ?_⟩
  · have hlt := of_lt hlt
    have hx : m.nodes[i]? = some m.nodes[i] := List.getElem?_eq_getElem hlt
    generalize m.nodes[i] = k at hx
    have hlen := sel_len (goneF keep.nodes) (m.nodes.take i) 0
    have hlen2 : (m.nodes.take i).length ≤ m.nodes.length := by rw [List.length_take]; omega
    refine W0 ?_
    refine ⟨by omega, _, nums_at hx, ?_⟩
    refine W0 ?_
    refine ⟨_, _, c43 keep.nodes i, ?_⟩
    refine W0 ?_
    refine ⟨fun h1 => ?_, fun h1 => ?_⟩
    · have h1 : goneF keep.nodes i k = some k := by rw [goneF, if_neg (by simpa using h1)]
      refine W0 ?_
      refine ⟨by rw [nums_len]; show (_ + 1) * 8 ≤ _; omega, ?_⟩
      refine W0 ?_
      exact ⟨i + 1, hlt, by show m.nodes.length - (i + 1) < m.nodes.length - i; omega, le_of [0, 4] rfl rfl rfl ⟨step_num hlt (by omega), rfl, rfl, rfl, rfl, trivial⟩ ⟨rfl, by rw [sel_some hx h1, nums_app]; rfl, trivial⟩⟩
    · have h1 : goneF keep.nodes i k = none := by rw [goneF, if_pos (by simpa using h1)]
      refine W0 ?_
      exact ⟨i + 1, hlt, by show m.nodes.length - (i + 1) < m.nodes.length - i; omega, le_of [0, 1] rfl rfl rfl ⟨step_num hlt (by omega), rfl, rfl, rfl, rfl, trivial⟩ ⟨rfl, by rw [sel_none hx h1]; rfl, trivial⟩⟩
  · have hge := of_ge hge
    rw [take_of_all hge]
    refine W0 ?_
    exact fin_frz TT rfl rfl
theorem c220 (images keep : List Int) (hm : images.length ≤ 1099511627776) : Con P 220 [] [.slice 1 (nums images), .slice 1 (nums keep)] (.slice 1 (nums (gone images keep))) [] := by
  refine go Tryz.func220 (by rfl) rfl rfl rfl fun hl => ?_
  refine W0 ?_
  refine loop (fun i : Nat => mkSt [(6, .int .i64 i), (0, .slice 1 (nums images)), (1, .slice 1 (nums keep)), (5, .ref 0)] [.row 3 1 (nums (sel (goneF keep) 0 (images.take i)))]) (fun i => i ≤ images.length) (fun i => images.length - i) 0 (Nat.zero_le _)
    (le_of [1] rfl rfl rfl ⟨rfl, rfl, rfl, rfl, trivial⟩ ⟨rfl, trivial⟩) ?_
  intro i hi
  refine W0 ?_
  rw [nums_len]
  refine ⟨fun hlt => ?_, fun hge => ?_⟩
  · have hlt := of_lt hlt
    have hx : images[i]? = some images[i] := List.getElem?_eq_getElem hlt
    generalize images[i] = k at hx
    have hlen := sel_len (goneF keep) (images.take i) 0
    have hlen2 : (images.take i).length ≤ images.length := by rw [List.length_take]; omega
    refine W0 ?_
    refine ⟨_, _, c253 keep i, ?_⟩
    refine W0 ?_
    refine ⟨fun h1 => ?_, fun h1 => ?_⟩
    · have h1 : goneF keep i k = some k := by rw [goneF, if_neg (by simpa using h1)]
      refine W0 ?_
      refine ⟨by omega, _, nums_at hx, ?_⟩
      refine W0 ?_
      refine ⟨by rw [nums_len]; show (_ + 1) * 8 ≤ _; omega, ?_⟩
      refine W0 ?_
      exact ⟨i + 1, hlt, by show images.length - (i + 1) < images.length - i; omega, le_of [3] rfl rfl rfl ⟨step_num hlt (by omega), rfl, rfl, rfl, trivial⟩ ⟨by rw [sel_some hx h1, nums_app]; rfl, trivial⟩⟩
    · have h1 : goneF keep i k = none := by rw [goneF, if_pos (by simpa using h1)]
      refine W0 ?_
      exact ⟨i + 1, hlt, by show images.length - (i + 1) < images.length - i; omega, le_of [0] rfl rfl rfl ⟨step_num hlt (by omega), rfl, rfl, rfl, trivial⟩ ⟨by rw [sel_none hx h1]; rfl, trivial⟩⟩
  · have hge := of_ge hge
    rw [take_of_all hge]
    refine W0 ?_
    exact fin_frz TT rfl rfl
end Go.Av.Z

/- Complements: edges that dangle. -/
namespace Go.Av.Z
open Go.Proofs

def dangF (m : Mor) (gn : List Int) (i : Nat) (e : Edge) : Option Int := if (!m.edges.contains (i : Int)) = true ∧ (gn.contains e.src = true ∨ gn.contains e.dst = true) then some (i : Int) else none
/-- The edges that dangle. -/
def dang (g : Graph) (keep m : Mor) : List Int := sel (dangF m (gone m.nodes keep.nodes)) 0 g.edges
theorem c84 (l g : Graph) (keep m : Mor) (hm : m.nodes.length ≤ 1099511627776) (hg : g.edges.length ≤ 1099511627776) : Con P 84 [] [.agg (glu l g keep m)] (.slice 1 (nums (dang g keep m))) [] := by
  refine go Tryz.func84 (by rfl) rfl rfl rfl fun hl => ?_
  refine W0 ?_
  refine ⟨_, _, c147 l g keep m hm, ?_⟩
  refine W0 ?_
  generalize hgn : gone m.nodes keep.nodes = gn
  have hd : dang g keep m = sel (dangF m gn) 0 g.edges := by rw [dang, hgn]
  rw [hd]
  refine loop (fun i : Nat => mkSt [(13, .int .i64 i), (12, .int .i64 g.edges.length), (11, .slice 3 (edgs g.edges)), (1, .bptr 0 0), (4, .ref 1), (3, .slice 1 (nums gn))] [.box 149 (glu l g keep m), .row 3 1 (nums (sel (dangF m gn) 0 (g.edges.take i)))]) (fun i => i ≤ g.edges.length) (fun i => g.edges.length - i) 0 (Nat.zero_le _)
    (le_of [0, 3] rfl rfl rfl ⟨rfl, by rw [edgs_len]; rfl, rfl, rfl, rfl, rfl, trivial⟩ ⟨rfl, rfl, trivial⟩) ?_
  intro i hi
  refine W0 ?_
  refine ⟨fun hlt => ?_, fun hge => ?_⟩
  · have hlt := of_lt hlt
    have hx : g.edges[i]? = some g.edges[i] := List.getElem?_eq_getElem hlt
    generalize g.edges[i] = e at hx
    have hlen := sel_len (dangF m gn) (g.edges.take i) 0
    have hlen2 : (g.edges.take i).length ≤ g.edges.length := by rw [List.length_take]; omega
    refine W0 ?_
    refine ⟨by omega, _, edgs_at hx, ?_⟩
    refine W0 ?_
    refine ⟨_, _, c43 m.edges i, ?_⟩
    refine W0 ?_
    refine ⟨fun h1 => ?_, fun h1 => ?_⟩
    · refine W0 ?_
      refine ⟨_, _, c43 gn e.src, ?_⟩
      refine W0 ?_
      refine ⟨fun h2 => ?_, fun h2 => ?_⟩
      · have hF : dangF m gn i e = some (i : Int) := by rw [dangF, if_pos ⟨h1, .inl h2⟩]
        refine W0 ?_
        refine ⟨by rw [nums_len]; show (_ + 1) * 8 ≤ _; omega, ?_⟩
        refine W0 ?_
        exact ⟨i + 1, hlt, by show g.edges.length - (i + 1) < g.edges.length - i; omega, le_of [0, 6] rfl rfl rfl ⟨step_num hlt (by omega), rfl, rfl, rfl, rfl, rfl, trivial⟩ ⟨rfl, by rw [sel_some hx hF, nums_app]; rfl, trivial⟩⟩
      · refine W0 ?_
        refine ⟨_, _, c43 gn e.dst, ?_⟩
        refine W0 ?_
        refine ⟨fun h3 => ?_, fun h3 => ?_⟩
        · have hF : dangF m gn i e = some (i : Int) := by rw [dangF, if_pos ⟨h1, .inr h3⟩]
          refine W0 ?_
          refine ⟨by rw [nums_len]; show (_ + 1) * 8 ≤ _; omega, ?_⟩
          refine W0 ?_
          exact ⟨i + 1, hlt, by show g.edges.length - (i + 1) < g.edges.length - i; omega, le_of [0, 7] rfl rfl rfl ⟨step_num hlt (by omega), rfl, rfl, rfl, rfl, rfl, trivial⟩ ⟨rfl, by rw [sel_some hx hF, nums_app]; rfl, trivial⟩⟩
        · have hF : dangF m gn i e = none := by rw [dangF, h2, h3]; simp
          refine W0 ?_
          exact ⟨i + 1, hlt, by show g.edges.length - (i + 1) < g.edges.length - i; omega, le_of [0, 1] rfl rfl rfl ⟨step_num hlt (by omega), rfl, rfl, rfl, rfl, rfl, trivial⟩ ⟨rfl, by rw [sel_none hx hF]; rfl, trivial⟩⟩
    · have hF : dangF m gn i e = none := by rw [dangF, h1]; simp
      refine W0 ?_
      exact ⟨i + 1, hlt, by show g.edges.length - (i + 1) < g.edges.length - i; omega, le_of [0, 1] rfl rfl rfl ⟨step_num hlt (by omega), rfl, rfl, rfl, rfl, rfl, trivial⟩ ⟨rfl, by rw [sel_none hx hF]; rfl, trivial⟩⟩
  · have hge := of_ge hge
    rw [take_of_all hge]
    refine W0 ?_
    exact fin_frz TT rfl rfl
theorem c218 (l g : Graph) (keep m : Mor) (hm : m.nodes.length ≤ 1099511627776) (hg : g.edges.length ≤ 1099511627776) : Con P 218 [] [l.av, g.av, keep.av, m.av] (.slice 1 (nums (dang g keep m))) [] := by
  refine go Tryz.func218 (by rfl) rfl rfl rfl fun hl => ?_
  refine W0 ?_
  refine ⟨_, _, c220 m.nodes keep.nodes hm, ?_⟩
  refine W0 ?_
  generalize hgn : gone m.nodes keep.nodes = gn
  have hd : dang g keep m = sel (dangF m gn) 0 g.edges := by rw [dang, hgn]
  rw [hd]
  refine loop (fun i : Nat => mkSt [(11, .int .i64 i), (5, .bptr 0 0), (7, .bptr 1 0), (9, .ref 2), (10, .slice 1 (nums gn))] [.box 29 g.cs, .box 36 m.cs, .row 3 1 (nums (sel (dangF m gn) 0 (g.edges.take i)))]) (fun i => i ≤ g.edges.length) (fun i => g.edges.length - i) 0 (Nat.zero_le _)
    (le_of [1, 3, 5] rfl rfl rfl ⟨rfl, rfl, rfl, rfl, rfl, trivial⟩ ⟨rfl, rfl, rfl, trivial⟩) ?_
  intro i hi
  refine W0 ?_
  rw [edgs_len]
  refine ⟨fun hlt => ?_, fun hge => ?_⟩
  · have hlt := of_lt hlt
    have hx : g.edges[i]? = some g.edges[i] := List.getElem?_eq_getElem hlt
    generalize g.edges[i] = e at hx
    have hlen := sel_len (dangF m gn) (g.edges.take i) 0
    have hlen2 : (g.edges.take i).length ≤ g.edges.length := by rw [List.length_take]; omega
    refine W0 ?_
    refine ⟨_, _, c253 m.edges i, ?_⟩
    refine W0 ?_
    refine ⟨fun h1 => ?_, fun h1 => ?_⟩
    · refine W0 ?_
      refine ⟨by omega, _, edgs_at hx, ?_⟩
      refine W0 ?_
      refine ⟨_, _, c253 gn e.src, ?_⟩
      refine W0 ?_
      refine ⟨fun h2 => ?_, fun h2 => ?_⟩
      · have hF : dangF m gn i e = some (i : Int) := by rw [dangF, if_pos ⟨h1, .inl h2⟩]
        refine W0 ?_
        refine ⟨by rw [nums_len]; show (_ + 1) * 8 ≤ _; omega, ?_⟩
        refine W0 ?_
        exact ⟨i + 1, hlt, by show g.edges.length - (i + 1) < g.edges.length - i; omega, le_of [0, 1, 6] rfl rfl rfl ⟨step_num hlt (by omega), rfl, rfl, rfl, rfl, trivial⟩ ⟨rfl, rfl, by rw [sel_some hx hF, nums_app]; rfl, trivial⟩⟩
      · refine W0 ?_
        refine ⟨by omega, _, edgs_at hx, ?_⟩
        refine W0 ?_
        refine ⟨_, _, c253 gn e.dst, ?_⟩
        refine W0 ?_
        refine ⟨fun h3 => ?_, fun h3 => ?_⟩
        · have hF : dangF m gn i e = some (i : Int) := by rw [dangF, if_pos ⟨h1, .inr h3⟩]
          refine W0 ?_
          refine ⟨by rw [nums_len]; show (_ + 1) * 8 ≤ _; omega, ?_⟩
          refine W0 ?_
          exact ⟨i + 1, hlt, by show g.edges.length - (i + 1) < g.edges.length - i; omega, le_of [0, 1, 7] rfl rfl rfl ⟨step_num hlt (by omega), rfl, rfl, rfl, rfl, trivial⟩ ⟨rfl, rfl, by rw [sel_some hx hF, nums_app]; rfl, trivial⟩⟩
        · have hF : dangF m gn i e = none := by rw [dangF, h2, h3]; simp
          refine W0 ?_
          exact ⟨i + 1, hlt, by show g.edges.length - (i + 1) < g.edges.length - i; omega, le_of [0, 1, 2] rfl rfl rfl ⟨step_num hlt (by omega), rfl, rfl, rfl, rfl, trivial⟩ ⟨rfl, rfl, by rw [sel_none hx hF]; rfl, trivial⟩⟩
    · have hF : dangF m gn i e = none := by rw [dangF, h1]; simp
      refine W0 ?_
      exact ⟨i + 1, hlt, by show g.edges.length - (i + 1) < g.edges.length - i; omega, le_of [0, 1, 2] rfl rfl rfl ⟨step_num hlt (by omega), rfl, rfl, rfl, rfl, trivial⟩ ⟨rfl, rfl, by rw [sel_none hx hF]; rfl, trivial⟩⟩
  · have hge := of_ge hge
    rw [take_of_all hge]
    refine W0 ?_
    exact fin_frz TT rfl rfl
end Go.Av.Z

/- Complements: pairs of elements with one image. -/
namespace Go.Av.Z
open Go.Proofs

def pOk (images keep : List Int) (a b : Nat) : Bool := (at0 images a == at0 images b) && (!keep.contains (a : Int) || !keep.contains (b : Int))
def pIn (images keep : List Int) (a n : Nat) : List (Nat × Nat) := ((List.range n).filter fun b => decide (a < b) && pOk images keep a b).map fun b => (a, b)
def pOut (images keep : List Int) (n m : Nat) : List (Nat × Nat) := (List.range n).flatMap fun a => pIn images keep a m
def prss (l : List (Nat × Nat)) : List (List AV) := l.map fun p => [.int .i64 p.1, .int .i64 p.2]
/-- The pairs of elements with one image that aren't both kept. -/
def prs (images keep : List Int) : List (Nat × Nat) := pOut images keep images.length images.length
theorem pIn_start (images keep : List Int) (a : Nat) : pIn images keep a (a + 1) = [] := by
  unfold pIn
  rw [List.map_eq_nil_iff, List.filter_eq_nil_iff]
  intro b hb
  have : b < a + 1 := by simpa using hb
  have : ¬ a < b := by omega
  simp [this]
theorem pIn_yes {images keep : List Int} {a b : Nat} (h : a < b) (hp : pOk images keep a b = true) : pIn images keep a (b + 1) = pIn images keep a b ++ [(a, b)] := by
  simp [pIn, List.range_succ, List.filter_append, h, hp]
theorem pIn_no {images keep : List Int} {a b : Nat} (hp : pOk images keep a b = false) : pIn images keep a (b + 1) = pIn images keep a b := by
  simp [pIn, List.range_succ, List.filter_append, hp]
theorem pIn_len (images keep : List Int) (a n : Nat) : (pIn images keep a n).length ≤ n := by
  unfold pIn
  rw [List.length_map]
  exact Nat.le_trans (List.length_filter_le _ _) (by simp)
theorem pOut_succ (images keep : List Int) (n m : Nat) : pOut images keep (n + 1) m = pOut images keep n m ++ pIn images keep n m := by
  simp [pOut, List.range_succ, List.flatMap_append]
theorem pOut_len (images keep : List Int) (m : Nat) : ∀ n, (pOut images keep n m).length ≤ n * m
  | 0 => by simp [pOut]
  | n + 1 => by
    rw [pOut_succ, List.length_append, Nat.succ_mul]
    have := pOut_len images keep m n
    have := pIn_len images keep n m
    omega
theorem prss_app (l : List (Nat × Nat)) (a b : Nat) : prss (l ++ [(a, b)]) = prss l ++ [[.int .i64 a, .int .i64 b]] := by simp [prss]
theorem prss_len (l : List (Nat × Nat)) : (prss l).length = l.length := by simp [prss]
theorem at0_nat {l : List Int} {i : Nat} (h : i < l.length) : l[((i : Nat) : Int).toNat]? = some (at0 l i) := at0_some (by omega)
theorem pairs_len {images keep : List Int} {a b : Nat} (ha : a < images.length) (hb : b ≤ images.length) (hn : images.length ≤ 1000000) : ((prss (pOut images keep a images.length ++ pIn images keep a b)).length + 1) * 16 ≤ 140737488355328 := by
  rw [prss_len, List.length_append]
  have h1 := pOut_len images keep images.length a
  have h2 := pIn_len images keep a b
  have h3 : a * images.length ≤ 1000000 * 1000000 := Nat.mul_le_mul (by omega) hn
  omega

theorem c192 (images keep : List Int) (hn : images.length ≤ 1000000) : Con P 192 [] [.slice 1 (nums images), .slice 1 (nums keep)] (.slice 2 (prss (prs images keep))) [] := by
  refine go Tryz.func192 (by rfl) rfl rfl rfl fun hl => ?_
  refine W0 ?_
  refine loop (fun a : Nat => mkSt [(10, .int .i64 a), (9, .int .i64 images.length), (0, .slice 1 (nums images)), (1, .slice 1 (nums keep)), (5, .ref 0)] [.row 242 2 (prss (pOut images keep a images.length))]) (fun a => a ≤ images.length) (fun a => images.length - a) 0 (Nat.zero_le _)
    (le_of [1] rfl rfl rfl ⟨rfl, by rw [nums_len]; rfl, rfl, rfl, rfl, trivial⟩ ⟨rfl, trivial⟩) ?_
  intro a ha
  refine W0 ?_
  refine ⟨fun hlt => ?_, fun hge => ?_⟩
  · have hlt := of_lt hlt
    refine W0 ?_
    refine loop (fun b : Nat => mkSt [(7, .int .i64 b), (6, .int .i64 a), (10, .int .i64 a), (9, .int .i64 images.length), (0, .slice 1 (nums images)), (1, .slice 1 (nums keep)), (5, .ref 0)] [.row 242 2 (prss (pOut images keep a images.length ++ pIn images keep a b))]) (fun b => a < b ∧ b ≤ images.length) (fun b => images.length - b) (a + 1) ⟨by omega, hlt⟩
      (le_of [0] rfl rfl rfl ⟨step_num hlt (by omega), rfl, rfl, rfl, rfl, rfl, rfl, trivial⟩ ⟨by rw [pIn_start, List.append_nil]; rfl, trivial⟩) ?_
    rintro b ⟨hab, hb⟩
    refine W0 ?_
    rw [nums_len]
    refine ⟨fun hlt2 => ?_, fun hge2 => ?_⟩
    · have hlt2 := of_lt hlt2
      have hpl := pairs_len (keep := keep) hlt hb hn
      refine W0 ?_
      refine ⟨by omega, _, nums_at (at0_nat hlt), ?_⟩
      refine W0 ?_
      refine ⟨by omega, _, nums_at (at0_nat hlt2), ?_⟩
      refine W0 ?_
      refine ⟨fun h1 => ?_, fun h1 => ?_⟩
      · refine W0 ?_
        refine ⟨_, _, c43 keep a, ?_⟩
        refine W0 ?_
        refine ⟨fun h2 => ?_, fun h2 => ?_⟩
        · have hp : pOk images keep a b = true := by rw [pOk, h1, h2]; rfl
          refine W0 ?_
          refine ⟨by kernel_rfl, ?_⟩
          refine W0 ?_
          refine ⟨hpl, ?_⟩
          refine W0 ?_
          exact ⟨b + 1, ⟨by omega, hlt2⟩, by show images.length - (b + 1) < images.length - b; omega, le_of [3] rfl rfl rfl ⟨step_num hlt2 (by omega), rfl, rfl, rfl, rfl, rfl, rfl, trivial⟩ ⟨by rw [pIn_yes hab hp, ← List.append_assoc, prss_app]; rfl, trivial⟩⟩
        · refine W0 ?_
          refine ⟨_, _, c43 keep b, ?_⟩
          refine W0 ?_
          refine ⟨by kernel_rfl, ?_⟩
          refine W0 ?_
          refine ⟨fun h3 => ?_, fun h3 => ?_⟩
          · have hp : pOk images keep a b = true := by rw [pOk, h1, h2, h3]; rfl
            refine W0 ?_
            refine ⟨hpl, ?_⟩
            refine W0 ?_
            exact ⟨b + 1, ⟨by omega, hlt2⟩, by show images.length - (b + 1) < images.length - b; omega, le_of [4] rfl rfl rfl ⟨step_num hlt2 (by omega), rfl, rfl, rfl, rfl, rfl, rfl, trivial⟩ ⟨by rw [pIn_yes hab hp, ← List.append_assoc, prss_app]; rfl, trivial⟩⟩
          · have hp : pOk images keep a b = false := by rw [pOk, h1, h2, h3]; rfl
            refine W0 ?_
            exact ⟨b + 1, ⟨by omega, hlt2⟩, by show images.length - (b + 1) < images.length - b; omega, le_of [0] rfl rfl rfl ⟨step_num hlt2 (by omega), rfl, rfl, rfl, rfl, rfl, rfl, trivial⟩ ⟨by rw [pIn_no hp]; rfl, trivial⟩⟩
      · have hp : pOk images keep a b = false := by rw [pOk, h1]; rfl
        refine W0 ?_
        refine ⟨by kernel_rfl, ?_⟩
        refine W0 ?_
        exact ⟨b + 1, ⟨by omega, hlt2⟩, by show images.length - (b + 1) < images.length - b; omega, le_of [0] rfl rfl rfl ⟨step_num hlt2 (by omega), rfl, rfl, rfl, rfl, rfl, rfl, trivial⟩ ⟨by rw [pIn_no hp]; rfl, trivial⟩⟩
    · have hge2 := of_ge hge2
      have hbe : b = images.length := by omega
      subst hbe
      refine W0 ?_
      exact ⟨a + 1, hlt, by show images.length - (a + 1) < images.length - a; omega, le_of [0] rfl rfl rfl ⟨step_num hlt (by omega), rfl, rfl, rfl, rfl, trivial⟩ ⟨by rw [pOut_succ]; rfl, trivial⟩⟩
  · have hge := of_ge hge
    have hae : a = images.length := by omega
    subst hae
    refine W0 ?_
    exact fin_frz TT rfl rfl
end Go.Av.Z

/- The reference: pairs of elements with one image. -/
namespace Go.Av.Z
open Go.Proofs

theorem c217 (images keep : List Int) (hn : images.length ≤ 1000000) : Con P 217 [] [.slice 1 (nums images), .slice 1 (nums keep)] (.slice 2 (prss (prs images keep))) [] := by
  refine go Tryz.func217 (by rfl) rfl rfl rfl fun hl => ?_
  refine W0 ?_
  refine loop (fun a : Nat => mkSt [(6, .int .i64 a), (0, .slice 1 (nums images)), (1, .slice 1 (nums keep)), (5, .ref 0)] [.row 242 2 (prss (pOut images keep a images.length))]) (fun a => a ≤ images.length) (fun a => images.length - a) 0 (Nat.zero_le _)
    (le_of [1] rfl rfl rfl ⟨rfl, rfl, rfl, rfl, trivial⟩ ⟨rfl, trivial⟩) ?_
  intro a ha
  refine W0 ?_
  rw [nums_len]
  refine ⟨fun hlt => ?_, fun hge => ?_⟩
  · have hlt := of_lt hlt
    refine W0 ?_
    refine loop (fun b : Nat => mkSt [(7, .int .i64 b), (6, .int .i64 a), (0, .slice 1 (nums images)), (1, .slice 1 (nums keep)), (5, .ref 0)] [.row 242 2 (prss (pOut images keep a images.length ++ pIn images keep a b))]) (fun b => a < b ∧ b ≤ images.length) (fun b => images.length - b) (a + 1) ⟨by omega, hlt⟩
      (le_of [0] rfl rfl rfl ⟨step_num hlt (by omega), rfl, rfl, rfl, rfl, trivial⟩ ⟨by rw [pIn_start, List.append_nil]; rfl, trivial⟩) ?_
    rintro b ⟨hab, hb⟩
    refine W0 ?_
    rw [nums_len]
    refine ⟨fun hlt2 => ?_, fun hge2 => ?_⟩
    · have hlt2 := of_lt hlt2
      have hpl := pairs_len (keep := keep) hlt hb hn
      refine W0 ?_
      refine ⟨by omega, _, nums_at (at0_nat hlt), ?_⟩
      refine W0 ?_
      refine ⟨by omega, _, nums_at (at0_nat hlt2), ?_⟩
      refine W0 ?_
      refine ⟨fun h1 => ?_, fun h1 => ?_⟩
      · refine W0 ?_
        refine ⟨_, _, c253 keep a, ?_⟩
        refine W0 ?_
        refine ⟨fun h2 => ?_, fun h2 => ?_⟩
        · have hp : pOk images keep a b = true := by rw [pOk, h1, h2]; rfl
          refine W0 ?_
          refine ⟨by kernel_rfl, ?_⟩
          refine W0 ?_
          refine ⟨hpl, ?_⟩
          refine W0 ?_
          exact ⟨b + 1, ⟨by omega, hlt2⟩, by show images.length - (b + 1) < images.length - b; omega, le_of [3] rfl rfl rfl ⟨step_num hlt2 (by omega), rfl, rfl, rfl, rfl, trivial⟩ ⟨by rw [pIn_yes hab hp, ← List.append_assoc, prss_app]; rfl, trivial⟩⟩
        · refine W0 ?_
          refine ⟨_, _, c253 keep b, ?_⟩
          refine W0 ?_
          refine ⟨by kernel_rfl, ?_⟩
          refine W0 ?_
          refine ⟨fun h3 => ?_, fun h3 => ?_⟩
          · have hp : pOk images keep a b = true := by rw [pOk, h1, h2, h3]; rfl
            refine W0 ?_
            refine ⟨hpl, ?_⟩
            refine W0 ?_
            exact ⟨b + 1, ⟨by omega, hlt2⟩, by show images.length - (b + 1) < images.length - b; omega, le_of [4] rfl rfl rfl ⟨step_num hlt2 (by omega), rfl, rfl, rfl, rfl, trivial⟩ ⟨by rw [pIn_yes hab hp, ← List.append_assoc, prss_app]; rfl, trivial⟩⟩
          · have hp : pOk images keep a b = false := by rw [pOk, h1, h2, h3]; rfl
            refine W0 ?_
            exact ⟨b + 1, ⟨by omega, hlt2⟩, by show images.length - (b + 1) < images.length - b; omega, le_of [0] rfl rfl rfl ⟨step_num hlt2 (by omega), rfl, rfl, rfl, rfl, trivial⟩ ⟨by rw [pIn_no hp]; rfl, trivial⟩⟩
      · have hp : pOk images keep a b = false := by rw [pOk, h1]; rfl
        refine W0 ?_
        refine ⟨by kernel_rfl, ?_⟩
        refine W0 ?_
        exact ⟨b + 1, ⟨by omega, hlt2⟩, by show images.length - (b + 1) < images.length - b; omega, le_of [0] rfl rfl rfl ⟨step_num hlt2 (by omega), rfl, rfl, rfl, rfl, trivial⟩ ⟨by rw [pIn_no hp]; rfl, trivial⟩⟩
    · have hge2 := of_ge hge2
      have hbe : b = images.length := by omega
      subst hbe
      refine W0 ?_
      exact ⟨a + 1, hlt, by show images.length - (a + 1) < images.length - a; omega, le_of [0] rfl rfl rfl ⟨step_num hlt (by omega), rfl, rfl, rfl, trivial⟩ ⟨by rw [pOut_succ]; rfl, trivial⟩⟩
  · have hge := of_ge hge
    have hae : a = images.length := by omega
    subst hae
    refine W0 ?_
    exact fin_frz TT rfl rfl
end Go.Av.Z
