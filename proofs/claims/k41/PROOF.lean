import PyProof.Rows.All
import Wide.All
import OpenK.AllK
import Wide.FinOn
import KE.KStateDown
import Lean
import HandS.ForMost
import HandS.Exc
import HandS.Flow
import HandS.Style
import HandS.Wide
import HandS.WideBits
import HandS.IsInst
import HandS.Words
import HandS.WordsExc
import HandS.Defaults
import HandS.Head0
import HandS.Head1
import HandS.Head2
import HandS.HeadEnd
import HandS.HeadHook1
import HandS.HeadHook2
import PySem.Challenge.RW_wholesound_k41_least_widths
set_option Elab.async false
set_option linter.all false
set_option maxRecDepth 100000
set_option maxHeartbeats 4000000
namespace Pre
open PySem PySem.Spec PyProof.Rows L2
/-! ### heaps -/
theorem same_upd {H : Hp} {p : Addr} {o : HO} (h : H p = none) : Same H (upd H p o) := fun b x e => by
  rw [upd_ne (ne_of_none e h)]
  exact e
/-- a fresh thing that is then changed is no change of what was -/
theorem same_over {H H' : Hp} {p : Addr} {o : HO} (n : H p = none) (s : Same H H') : Same H (upd H' p o) := fun b x e => by
  rw [upd_ne (ne_of_none e n)]
  exact s b x e
theorem Same.tup {K : PySem.W.Frag} {H H' : Hp} {a : Addr} {xs : List V} (e : Same H H') (h : SqT K H a xs) : SqT K H' a xs := by
  rcases h with (h | ⟨o, h⟩) | h
  · exact .inl (.inl (e _ _ h))
  · exact .inl (.inr ⟨o, e _ _ h⟩)
  · exact .inr h
mutual
theorem dp_same {K : PySem.W.Frag} {H H' : Hp} (s : Same H H') : ∀ (d : PyData) (v : V), Dp K H v d → Dp K H' v d
  | .none, _, h => by cases h; exact .non
  | .bool _, _, h => by cases h; exact .bl _
  | .int _, _, h => by cases h; exact .int _
  | .str _, _, h => by cases h; exact .str _
  | .list ds, _, h => by cases h with | lst a b => exact .lst (s.seq a) (dps_same s ds _ b)
  | .tuple ds, _, h => by cases h with | tup a b => exact .tup (Same.tup s a) (dps_same s ds _ b)
  | .dict _, _, h => nomatch h
theorem dps_same {K : PySem.W.Frag} {H H' : Hp} (s : Same H H') : ∀ (ds : List PyData) (vs : List V), DpAll K H vs ds → DpAll K H' vs ds
  | [], _, h => by cases h; exact .nil
  | d :: ds, _, h => by cases h with | cons a b => exact .cons (dp_same s d _ a) (dps_same s ds _ b)
end
theorem dp_ints {K : PySem.W.Frag} {H : Hp} : ∀ ns : List Int, DpAll K H (ns.map V.int) (ns.map PyData.int)
  | [] => .nil
  | n :: r => .cons (.int n) (dp_ints r)
theorem eqv_ints : ∀ ns ms : List Int, PyData.eqvAll (ns.map PyData.int) (ms.map PyData.int) = decide (ns = ms)
  | [], [] => rfl
  | [], _ :: _ => rfl
  | _ :: _, [] => rfl
  | n :: r, m :: q => by
    show (PyData.eqv (.int n) (.int m) && PyData.eqvAll (r.map PyData.int) (q.map PyData.int)) = decide (n :: r = m :: q)
    rw [eqv_ints r q]
    show ((n == m) && decide (r = q)) = decide (n :: r = m :: q)
    by_cases h : n = m
    · subst h; simp
    · simp [h]
theorem lay_ints : ∀ ns : List Int, PyData.canLayAll0 (ns.map PyData.int) = true
  | [] => rfl
  | n :: r => by
    show (PyData.canLay0 (.int n) && PyData.canLayAll0 (r.map PyData.int)) = true
    rw [lay_ints r]
    rfl
theorem depth_ints : ∀ ns : List Int, PyData.depthAll (ns.map PyData.int) = 0
  | [] => by simp [PyData.depthAll]
  | n :: r => by
    show PyData.depthAll (.int n :: r.map PyData.int) = 0
    rw [PyData.depthAll, depth_ints r]
    simp [PyData.depth]
theorem shaped_ints (ns : List Int) : SeqAt.shaped (.list (ns.map PyData.int)) = true := by
  unfold SeqAt.shaped
  rw [PyData.canLay0, lay_ints, PyData.depth, depth_ints]
  rfl
/-! ### powers -/
def CPowW (i j : Int) : Prop := 0 ≤ j ∧ (Builtin.Int.intBits i : Int) * j ≤ 2 ^ 27
theorem op_powW {X : Cx} : OpR X (binaryOp .Pow) (rI CPowW fun i j => .int (i ^ j.toNat)) := opI fun _ _ _ _ _ _ _ hc q => pow_int hc.1 hc.2 q
/-! ### comprehensions whose parts leave what is tracked as it is: sel tells of each item what comes of it -/
theorem take_fm {α : Type} {l : List (Option α)} {i : Nat} {o : Option α} (h : l[i]? = some o) : (l.take (i + 1)).filterMap id = (l.take i).filterMap id ++ o.toList := by
  rw [List.take_add_one, h, List.filterMap_append]
  cases o <;> rfl
theorem fm_len {α : Type} (l : List (Option α)) (i : Nat) : ((l.take i).filterMap id).length ≤ l.length :=
  Nat.le_trans (List.length_filterMap_le _ _) (by rw [List.length_take]; omega)
theorem lc_selL {K : PySem.W.Frag} {a : Addr} {xs : List V} {j : Nat} {tt : TT} {te : TE} {vs : List Nat} {σ : L2.St} {H1 : Hp} {D : Addr} {Qd : Hp → Prop} (sel : List (Option V)) (nD : H1 D = none) (hS : SqL K H1 a xs) (hlen : sel.length = xs.length) (hz : xs.length < sizeLine)
    (hw : ∀ x, wipe ((wipe σ vs).set j (some x)) vs = wipe σ vs)
    (hs : ∀ (i : Nat) (x : V) (o : Option V) (H' : Hp), xs[i]? = some x → sel[i]? = some o → Same H1 H' → ∀ Qt : Option V → Hp → Prop, (∀ H'', Same H' H'' → Qt o H'') →
      tt ((wipe σ vs).set j (some x)) H' fun b H3 => if b = true then te ((wipe σ vs).set j (some x)) H3 fun y H4 => Qt (some y) H4 else Qt none H3)
    (hd : ∀ H', Same H1 H' → H' D = some (.lst (sel.filterMap id)) → Qd H') :
    ∃ W : Nat → Nat → Hp → Prop, (∃ m, W 0 m (upd H1 D (.lst []))) ∧ ∀ i m H, W i m H →
      ((Itl K a).stop i H ∧ Qd H) ∨ ((Itl K a).go i H ∧ ∃ Nx : Hp → Prop, (∀ H', Nx H' → ∃ m', m' < m ∧ W (i + 1) m' H') ∧ ∀ x H', (Itl K a).yld i H x H' → gName j x (wipe σ vs) H' fun σ2 H2 => wipe σ2 vs = wipe σ vs ∧ tt σ2 H2 fun b H3 =>
        if b = true then te σ2 H3 fun y H4 => ∃ acc, H4 D = some (.lst acc) ∧ acc.length < sizeLine ∧ Nx (upd H4 D (.lst (acc ++ [y]))) else Nx H3) := by
  refine lc_list (K := K) (a := a) (xs := xs) (fun i H => Same H1 H ∧ H D = some (.lst ((sel.take i).filterMap id))) ⟨same_upd nD, upd_same⟩ (fun i H _ p => p.1.seq hS) ?_ ?_
  · rintro i x H hx ⟨s, hD⟩
    refine ⟨hw x, ?_⟩
    have hi : i < sel.length := by rw [hlen]; exact (List.getElem?_eq_some_iff.mp hx).1
    have ho : sel[i]? = some sel[i] := List.getElem?_eq_getElem hi
    have hl : ((sel.take i).filterMap id).length < sizeLine := Nat.lt_of_le_of_lt (fm_len sel i) (by omega)
    refine hs i x sel[i] H hx ho s (fun o H4 => match o with
      | some y => ∃ acc, H4 D = some (.lst acc) ∧ acc.length < sizeLine ∧ (Same H1 (upd H4 D (.lst (acc ++ [y]))) ∧ (upd H4 D (.lst (acc ++ [y]))) D = some (.lst ((sel.take (i + 1)).filterMap id)))
      | none => Same H1 H4 ∧ H4 D = some (.lst ((sel.take (i + 1)).filterMap id))) fun H4 s4 => ?_
    generalize sel[i] = o at ho ⊢
    cases o with
    | some y =>
      refine ⟨_, s4 _ _ hD, hl, same_over nD (s.trans s4), ?_⟩
      rw [upd_same, take_fm ho]
      rfl
    | none =>
      refine ⟨s.trans s4, ?_⟩
      rw [take_fm ho, s4 _ _ hD]
      simp
  · rintro H ⟨s, hD⟩
    refine hd H s ?_
    rw [hD, ← hlen, List.take_length]
/-- the items of a range -/
def rgV (lo : Int) (n : Nat) : List V := (List.range n).map fun (i : Nat) => V.int (lo + (i : Int))
theorem lc_selR {lo : Int} {n : Nat} {j : Nat} {tt : TT} {te : TE} {vs : List Nat} {σ : L2.St} {H1 : Hp} {D : Addr} {Qd : Hp → Prop} (sel : List (Option V)) (nD : H1 D = none) (hlen : sel.length = n) (hz : n < sizeLine)
    (hw : ∀ x, wipe ((wipe σ vs).set j (some x)) vs = wipe σ vs)
    (hs : ∀ (i : Nat) (o : Option V) (H' : Hp), i < n → sel[i]? = some o → Same H1 H' → ∀ Qt : Option V → Hp → Prop, (∀ H'', Same H' H'' → Qt o H'') →
      tt ((wipe σ vs).set j (some (.int (lo + (i : Int))))) H' fun b H3 => if b = true then te ((wipe σ vs).set j (some (.int (lo + (i : Int))))) H3 fun y H4 => Qt (some y) H4 else Qt none H3)
    (hd : ∀ H', Same H1 H' → H' D = some (.lst (sel.filterMap id)) → Qd H') :
    ∃ W : Nat → Nat → Hp → Prop, (∃ m, W 0 m (upd H1 D (.lst []))) ∧ ∀ i m H, W i m H →
      ((Itr lo n).stop i H ∧ Qd H) ∨ ((Itr lo n).go i H ∧ ∃ Nx : Hp → Prop, (∀ H', Nx H' → ∃ m', m' < m ∧ W (i + 1) m' H') ∧ ∀ x H', (Itr lo n).yld i H x H' → gName j x (wipe σ vs) H' fun σ2 H2 => wipe σ2 vs = wipe σ vs ∧ tt σ2 H2 fun b H3 =>
        if b = true then te σ2 H3 fun y H4 => ∃ acc, H4 D = some (.lst acc) ∧ acc.length < sizeLine ∧ Nx (upd H4 D (.lst (acc ++ [y]))) else Nx H3) := by
  refine lc_range (lo := lo) (n := n) (fun i H => Same H1 H ∧ H D = some (.lst ((sel.take i).filterMap id))) ⟨same_upd nD, upd_same⟩ ?_ ?_
  · rintro i H hi' ⟨s, hD⟩
    refine ⟨hw _, ?_⟩
    have hi : i < sel.length := by rw [hlen]; exact hi'
    have ho : sel[i]? = some sel[i] := List.getElem?_eq_getElem hi
    have hl : ((sel.take i).filterMap id).length < sizeLine := Nat.lt_of_le_of_lt (fm_len sel i) (by omega)
    refine hs i sel[i] H hi' ho s (fun o H4 => match o with
      | some y => ∃ acc, H4 D = some (.lst acc) ∧ acc.length < sizeLine ∧ (Same H1 (upd H4 D (.lst (acc ++ [y]))) ∧ (upd H4 D (.lst (acc ++ [y]))) D = some (.lst ((sel.take (i + 1)).filterMap id)))
      | none => Same H1 H4 ∧ H4 D = some (.lst ((sel.take (i + 1)).filterMap id))) fun H4 s4 => ?_
    generalize sel[i] = o at ho ⊢
    cases o with
    | some y =>
      refine ⟨_, s4 _ _ hD, hl, same_over nD (s.trans s4), ?_⟩
      rw [upd_same, take_fm ho]
      rfl
    | none =>
      refine ⟨s.trans s4, ?_⟩
      rw [take_fm ho, s4 _ _ hD]
      simp
  · rintro H ⟨s, hD⟩
    refine hd H s ?_
    rw [hD, ← hlen, List.take_length]
theorem fm_some {α : Type} (ys : List α) : (ys.map some).filterMap id = ys := by
  rw [List.filterMap_map]
  show List.filterMap (fun y => some y) ys = ys
  exact List.filterMap_some
/-- no test: ys tells what comes of each item -/
theorem lc_mapL {K : PySem.W.Frag} {a : Addr} {xs : List V} {j : Nat} {te : TE} {vs : List Nat} {σ : L2.St} {H1 : Hp} {D : Addr} {Qd : Hp → Prop} (ys : List V) (nD : H1 D = none) (hS : SqL K H1 a xs) (hlen : ys.length = xs.length) (hz : xs.length < sizeLine)
    (hw : ∀ x, wipe ((wipe σ vs).set j (some x)) vs = wipe σ vs)
    (hs : ∀ (i : Nat) (x y : V) (H' : Hp), xs[i]? = some x → ys[i]? = some y → Same H1 H' → ∀ Qt : V → Hp → Prop, (∀ H'', Same H' H'' → Qt y H'') → te ((wipe σ vs).set j (some x)) H' Qt)
    (hd : ∀ H', Same H1 H' → H' D = some (.lst ys) → Qd H') :
    ∃ W : Nat → Nat → Hp → Prop, (∃ m, W 0 m (upd H1 D (.lst []))) ∧ ∀ i m H, W i m H →
      ((Itl K a).stop i H ∧ Qd H) ∨ ((Itl K a).go i H ∧ ∃ Nx : Hp → Prop, (∀ H', Nx H' → ∃ m', m' < m ∧ W (i + 1) m' H') ∧ ∀ x H', (Itl K a).yld i H x H' → gName j x (wipe σ vs) H' fun σ2 H2 => wipe σ2 vs = wipe σ vs ∧ tYes σ2 H2 fun b H3 =>
        if b = true then te σ2 H3 fun y H4 => ∃ acc, H4 D = some (.lst acc) ∧ acc.length < sizeLine ∧ Nx (upd H4 D (.lst (acc ++ [y]))) else Nx H3) := by
  refine lc_selL (K := K) (a := a) (xs := xs) (tt := tYes) (ys.map some) nD hS (by rw [List.length_map]; exact hlen) hz hw ?_ ?_
  · intro i x o H' hx ho s Qt qt
    rw [List.getElem?_map] at ho
    obtain ⟨y, hy, rfl⟩ := Option.map_eq_some_iff.mp ho
    show if true = true then te ((wipe σ vs).set j (some x)) H' (fun y H4 => Qt (some y) H4) else Qt none H'
    exact iteT (hs i x y H' hx hy s (fun y H4 => Qt (some y) H4) qt)
  · intro H' s hD
    rw [fm_some] at hD
    exact hd H' s hD
theorem lc_mapR {lo : Int} {n : Nat} {j : Nat} {te : TE} {vs : List Nat} {σ : L2.St} {H1 : Hp} {D : Addr} {Qd : Hp → Prop} (ys : List V) (nD : H1 D = none) (hlen : ys.length = n) (hz : n < sizeLine)
    (hw : ∀ x, wipe ((wipe σ vs).set j (some x)) vs = wipe σ vs)
    (hs : ∀ (i : Nat) (y : V) (H' : Hp), i < n → ys[i]? = some y → Same H1 H' → ∀ Qt : V → Hp → Prop, (∀ H'', Same H' H'' → Qt y H'') → te ((wipe σ vs).set j (some (.int (lo + (i : Int))))) H' Qt)
    (hd : ∀ H', Same H1 H' → H' D = some (.lst ys) → Qd H') :
    ∃ W : Nat → Nat → Hp → Prop, (∃ m, W 0 m (upd H1 D (.lst []))) ∧ ∀ i m H, W i m H →
      ((Itr lo n).stop i H ∧ Qd H) ∨ ((Itr lo n).go i H ∧ ∃ Nx : Hp → Prop, (∀ H', Nx H' → ∃ m', m' < m ∧ W (i + 1) m' H') ∧ ∀ x H', (Itr lo n).yld i H x H' → gName j x (wipe σ vs) H' fun σ2 H2 => wipe σ2 vs = wipe σ vs ∧ tYes σ2 H2 fun b H3 =>
        if b = true then te σ2 H3 fun y H4 => ∃ acc, H4 D = some (.lst acc) ∧ acc.length < sizeLine ∧ Nx (upd H4 D (.lst (acc ++ [y]))) else Nx H3) := by
  refine lc_selR (lo := lo) (n := n) (tt := tYes) (ys.map some) nD (by rw [List.length_map]; exact hlen) hz hw ?_ ?_
  · intro i o H' hi ho s Qt qt
    rw [List.getElem?_map] at ho
    obtain ⟨y, hy, rfl⟩ := Option.map_eq_some_iff.mp ho
    show if true = true then te ((wipe σ vs).set j (some (.int (lo + (i : Int))))) H' (fun y H4 => Qt (some y) H4) else Qt none H'
    exact iteT (hs i y H' hi hy s (fun y H4 => Qt (some y) H4) qt)
  · intro H' s hD
    rw [fm_some] at hD
    exact hd H' s hD
/-- an item of a list of whole numbers -/
theorem int_at {ns : List Int} {i : Nat} {x : V} (h : (ns.map V.int)[i]? = some x) : ∃ n, ns[i]? = some n ∧ x = .int n := by
  rw [List.getElem?_map] at h
  obtain ⟨n, hn, e⟩ := Option.map_eq_some_iff.mp h
  exact ⟨n, hn, e.symm⟩
/-! ### rules with the written part named (within a comprehension Lean doesn't find it) -/
section
variable {X : Cx}
theorem k_len (K : PySem.W.Frag) (h : X.K = K) : CallR X (.builtin "len") (fun xs H Q => ∃ p ys, xs = [.ref p] ∧ (SqL K H p ys ∨ SqT K H p ys) ∧ Q (.int ys.length) H) := by subst h; exact call_len_seq
theorem k_sum (K : PySem.W.Frag) (h : X.K = K) (hc : X.calm = true) : CallR X (.builtin "sum") (rSum K) := by subst h; exact cr_sum hc
theorem k_max (K : PySem.W.Frag) (h : X.K = K) (hc : X.calm = true) : CallR X (.builtin "max") (rMax K) := by subst h; exact cr_max hc
theorem k_min (K : PySem.W.Frag) (h : X.K = K) (hc : X.calm = true) : CallR X (.builtin "min") (rMin K) := by subst h; exact cr_min hc
theorem k_isi (K : PySem.W.Frag) (h : X.K = K) : CallR X (.builtin "isinstance") (rIsi K) := by subst h; exact call_isi
theorem k_listOf (K : PySem.W.Frag) (h : X.K = K) : CallR X (.type "list") (fun xs H Q => ∃ p ys, xs = [.ref p] ∧ (SqL K H p ys ∨ SqT K H p ys) ∧ ∀ l, H l = none → Q (.ref l) (upd H l (.lst ys))) := by subst h; exact call_list_of
theorem k_tupleOf (K : PySem.W.Frag) (h : X.K = K) : CallR X (.type "tuple") (fun xs H Q => ∃ p ys, xs = [.ref p] ∧ ((SqL K H p ys ∧ ∀ l, H l = none → Q (.ref l) (upd H l (.tup ys))) ∨ (SqT K H p ys ∧ Q (.ref p) H))) := by subst h; exact call_tuple_of
theorem k_ixL (K : PySem.W.Frag) (h : X.K = K) : IxR X (rIxL K) := by subst h; exact ix_list
theorem k_ixT (K : PySem.W.Frag) (h : X.K = K) : IxR X (rIxT K) := by subst h; exact ix_tup
theorem k_slL (K : PySem.W.Frag) (h : X.K = K) : SlR X (rSlL K) := by subst h; exact sl_list
theorem k_slT (K : PySem.W.Frag) (h : X.K = K) : SlR X (rSlT K) := by subst h; exact sl_tup
theorem k_eqD (K : PySem.W.Frag) (h : X.K = K) (hu : X.A.units + 64 < cLine) : OpR X (compareOp .Eq) (rEqD K) := by subst h; exact op_eqD hu
theorem k_neD (K : PySem.W.Frag) (h : X.K = K) (hu : X.A.units + 64 < cLine) : OpR X (compareOp .NotEq) (rNeD K) := by subst h; exact op_neD hu
theorem k_in (K : PySem.W.Frag) (h : X.K = K) : OpR X (compareOp .In) (rIn K false) := by subst h; exact op_in_seq
theorem k_notIn (K : PySem.W.Frag) (h : X.K = K) : OpR X (compareOp .NotIn) (rIn K true) := by subst h; exact op_notIn_seq
theorem k_piL (K : PySem.W.Frag) (h : X.K = K) {tg l : Expr} {tl : TE} (hl : PE X l tl) : PI X tg l (iList K tl) := by subst h; exact pi_list hl
theorem k_piT (K : PySem.W.Frag) (h : X.K = K) {tg l : Expr} {tl : TE} (hl : PE X l tl) : PI X tg l (iTup K tl) := by subst h; exact pi_tup hl
theorem k_index (K : PySem.W.Frag) (h : X.K = K) : MtR X "list.index" (rIndex K) := by subst h; exact mt_index
end
/-! ### small things -/
theorem fresh {H : Hp} {p : Addr} (o : HO) (np : H p = none) : ∃ H', upd H p o = H' ∧ Same H H' ∧ H' p = some o := ⟨_, rfl, same_upd np, upd_same⟩
theorem cut_take (xs : List V) (k : Nat) : cutV xs none (some (k : Int)) = xs.take k := by
  unfold cutV
  rw [HT.sIx_nat, HT.sIx_none, List.drop_zero, Nat.sub_zero]
  rcases Nat.le_total k xs.length with h | h
  · rw [Nat.min_eq_left h]
  · rw [Nat.min_eq_right h, List.take_of_length_le h, List.take_length]
theorem cut_drop (xs : List V) (k : Nat) : cutV xs (some (k : Int)) none = xs.drop k := by
  unfold cutV
  rw [HT.sIx_nat, HT.sIx_none]
  rcases Nat.le_total k xs.length with h | h
  · rw [Nat.min_eq_left h, List.take_of_length_le (by rw [List.length_drop]; exact Nat.le_refl _)]
  · rw [Nat.min_eq_right h, List.drop_length, List.drop_of_length_le h, List.take_nil]
theorem rep_ints (k : Nat) (ks : List Int) : (List.replicate k (ks.map V.int)).flatten = ((List.replicate k ks).flatten).map V.int := by
  rw [List.map_flatten, List.map_replicate]
theorem rep_len {α : Type} (k : Nat) (ks : List α) : ((List.replicate k ks).flatten).length = k * ks.length := by
  induction k with
  | zero => simp
  | succ k ih => rw [List.replicate_succ, List.flatten_cons, List.length_append, ih, Nat.succ_mul]; omega
theorem rep_mem {α : Type} {k : Nat} {ks : List α} {x : α} (h : x ∈ (List.replicate k ks).flatten) : x ∈ ks := by
  obtain ⟨l, hl, hx⟩ := List.mem_flatten.mp h
  rw [(List.mem_replicate.mp hl).2] at hx
  exact hx
end Pre

namespace My
open PySem PySem.Spec PyProof.Rows L2
def top (i : Nat) : Stmt := PySem.Challenge.pw_wholesound_k41_least_widths.main.body.getD i (.Pass ⟨0, 0, 0, 0⟩)
abbrev FnP (K : PySem.W.Frag) (x : Str) (st : Stmt) (f : Addr) (fd : FuncData) : Prop := FunD K x x (defArgs st) (defBody st) (defScope st) [] [] f fd
abbrev s_is_whole : Stmt := top 5
abbrev N_is_whole : List Str := ["value"]
theorem sc_is_whole : FnScope N_is_whole ["value"] (defScope s_is_whole) := ⟨rfl, rfl, rfl, by decide +kernel, rfl, by decide +kernel, by decide +kernel⟩
abbrev s_is_between : Stmt := top 6
abbrev N_is_between : List Str := ["value", "low", "high"]
theorem sc_is_between : FnScope N_is_between ["value", "low", "high"] (defScope s_is_between) := ⟨rfl, rfl, rfl, by decide +kernel, rfl, by decide +kernel, by decide +kernel⟩
abbrev s_check_folds : Stmt := top 9
abbrev N_check_folds : List Str := ["folds", "unit"]
theorem sc_check_folds : FnScope N_check_folds ["folds"] (defScope s_check_folds) := ⟨rfl, rfl, rfl, by decide +kernel, rfl, by decide +kernel, by decide +kernel⟩
abbrev s_check_width : Stmt := top 10
abbrev N_check_width : List Str := ["width"]
theorem sc_check_width : FnScope N_check_width ["width"] (defScope s_check_width) := ⟨rfl, rfl, rfl, by decide +kernel, rfl, by decide +kernel, by decide +kernel⟩
abbrev s_raw_price : Stmt := top 11
abbrev N_raw_price : List Str := ["folds", "width", "unit"]
theorem sc_raw_price : FnScope N_raw_price ["folds", "width"] (defScope s_raw_price) := ⟨rfl, rfl, rfl, by decide +kernel, rfl, by decide +kernel, by decide +kernel⟩
abbrev s_price : Stmt := top 12
abbrev N_price : List Str := ["folds", "width"]
theorem sc_price : FnScope N_price ["folds", "width"] (defScope s_price) := ⟨rfl, rfl, rfl, by decide +kernel, rfl, by decide +kernel, by decide +kernel⟩
abbrev s_told_least : Stmt := top 13
abbrev N_told_least : List Str := ["folds", "first", "last", "least", "unit"]
theorem sc_told_least : FnScope N_told_least ["folds"] (defScope s_told_least) := ⟨rfl, rfl, rfl, by decide +kernel, rfl, by decide +kernel, by decide +kernel⟩
abbrev s_least_width : Stmt := top 14
abbrev N_least_width : List Str := ["folds"]
theorem sc_least_width : FnScope N_least_width ["folds"] (defScope s_least_width) := ⟨rfl, rfl, rfl, by decide +kernel, rfl, by decide +kernel, by decide +kernel⟩
abbrev s_law_cell : Stmt := top 16
abbrev N_law_cell : List Str := ["_law_script", "_law_index"]
theorem sc_law_cell : FnScope N_law_cell ["_law_script", "_law_index"] (defScope s_law_cell) := ⟨rfl, rfl, rfl, by decide +kernel, rfl, by decide +kernel, by decide +kernel⟩
abbrev s_law_hash : Stmt := top 17
abbrev N_law_hash : List Str := ["_law_seed", "_law_index", "_law_mixed"]
theorem sc_law_hash : FnScope N_law_hash ["_law_seed", "_law_index"] (defScope s_law_hash) := ⟨rfl, rfl, rfl, by decide +kernel, rfl, by decide +kernel, by decide +kernel⟩
abbrev s_law_generator : Stmt := top 18
abbrev N_law_generator : List Str := ["_law_script", "_law_index", "_law_seed"]
theorem sc_law_generator : FnScope N_law_generator ["_law_script", "_law_index"] (defScope s_law_generator) := ⟨rfl, rfl, rfl, by decide +kernel, rfl, by decide +kernel, by decide +kernel⟩
abbrev s_law_random : Stmt := top 19
abbrev N_law_random : List Str := ["_law_generator_here", "_law_bound", "_law_drawn", "_law_turn"]
theorem sc_law_random : FnScope N_law_random ["_law_generator_here", "_law_bound"] (defScope s_law_random) := ⟨rfl, rfl, rfl, by decide +kernel, rfl, by decide +kernel, by decide +kernel⟩
abbrev s_law_price : Stmt := top 20
abbrev N_law_price : List Str := ["_law_folds_here", "_law_width", "_law_total", "_law_fold"]
theorem sc_law_price : FnScope N_law_price ["_law_folds_here", "_law_width"] (defScope s_law_price) := ⟨rfl, rfl, rfl, by decide +kernel, rfl, by decide +kernel, by decide +kernel⟩
abbrev s_law_least : Stmt := top 21
abbrev N_law_least : List Str := ["_law_folds_here", "_law_prices", "_law_widths", "_law_width"]
theorem sc_law_least : FnScope N_law_least ["_law_folds_here"] (defScope s_law_least) := ⟨rfl, rfl, rfl, by decide +kernel, rfl, by decide +kernel, by decide +kernel⟩
abbrev s_law_folds : Stmt := top 22
abbrev N_law_folds : List Str := ["_law_generator_here", "_law_most", "_law_turn", "_law_found", "_law_kind", "_law_far", "_law_small", "_law_deep"]
theorem sc_law_folds : FnScope N_law_folds ["_law_generator_here", "_law_most"] (defScope s_law_folds) := ⟨rfl, rfl, rfl, by decide +kernel, rfl, by decide +kernel, by decide +kernel⟩
abbrev s_law : Stmt := top 23
abbrev N_law : List Str := ["_law_script", "_law_generator_here", "_law_lots", "_law_folds_here", "_law_one", "_law_other", "_law_width", "_law_prices", "_law_at", "_law_kept", "_law_due"]
theorem sc_law : FnScope N_law ["_law_script"] (defScope s_law) := ⟨rfl, rfl, rfl, by decide +kernel, rfl, by decide +kernel, by decide +kernel⟩
/-- what the top has left -/
structure Top (K : PySem.W.Frag) (mg : Str → Option Value) where
  f_is_whole : Addr
  fd_is_whole : FuncData
  F_is_whole : FnP K "is_whole" s_is_whole f_is_whole fd_is_whole
  g_is_whole : mg "is_whole" = some (.ref f_is_whole)
  b_is_whole : Binds K fd_is_whole ["value"] []
  f_is_between : Addr
  fd_is_between : FuncData
  F_is_between : FnP K "is_between" s_is_between f_is_between fd_is_between
  g_is_between : mg "is_between" = some (.ref f_is_between)
  b_is_between : Binds K fd_is_between ["value", "low", "high"] []
  f_check_folds : Addr
  fd_check_folds : FuncData
  F_check_folds : FnP K "check_folds" s_check_folds f_check_folds fd_check_folds
  g_check_folds : mg "check_folds" = some (.ref f_check_folds)
  b_check_folds : Binds K fd_check_folds ["folds"] []
  f_check_width : Addr
  fd_check_width : FuncData
  F_check_width : FnP K "check_width" s_check_width f_check_width fd_check_width
  g_check_width : mg "check_width" = some (.ref f_check_width)
  b_check_width : Binds K fd_check_width ["width"] []
  f_raw_price : Addr
  fd_raw_price : FuncData
  F_raw_price : FnP K "raw_price" s_raw_price f_raw_price fd_raw_price
  g_raw_price : mg "raw_price" = some (.ref f_raw_price)
  b_raw_price : Binds K fd_raw_price ["folds", "width"] []
  f_price : Addr
  fd_price : FuncData
  F_price : FnP K "price" s_price f_price fd_price
  g_price : mg "price" = some (.ref f_price)
  b_price : Binds K fd_price ["folds", "width"] []
  f_told_least : Addr
  fd_told_least : FuncData
  F_told_least : FnP K "told_least" s_told_least f_told_least fd_told_least
  g_told_least : mg "told_least" = some (.ref f_told_least)
  b_told_least : Binds K fd_told_least ["folds"] []
  f_least_width : Addr
  fd_least_width : FuncData
  F_least_width : FnP K "least_width" s_least_width f_least_width fd_least_width
  g_least_width : mg "least_width" = some (.ref f_least_width)
  b_least_width : Binds K fd_least_width ["folds"] []
  f_law_cell : Addr
  fd_law_cell : FuncData
  F_law_cell : FnP K "_law_cell" s_law_cell f_law_cell fd_law_cell
  g_law_cell : mg "_law_cell" = some (.ref f_law_cell)
  b_law_cell : Binds K fd_law_cell ["_law_script", "_law_index"] []
  f_law_hash : Addr
  fd_law_hash : FuncData
  F_law_hash : FnP K "_law_hash" s_law_hash f_law_hash fd_law_hash
  g_law_hash : mg "_law_hash" = some (.ref f_law_hash)
  b_law_hash : Binds K fd_law_hash ["_law_seed", "_law_index"] []
  f_law_generator : Addr
  fd_law_generator : FuncData
  F_law_generator : FnP K "_law_generator" s_law_generator f_law_generator fd_law_generator
  g_law_generator : mg "_law_generator" = some (.ref f_law_generator)
  b_law_generator : Binds K fd_law_generator ["_law_script", "_law_index"] []
  f_law_random : Addr
  fd_law_random : FuncData
  F_law_random : FnP K "_law_random" s_law_random f_law_random fd_law_random
  g_law_random : mg "_law_random" = some (.ref f_law_random)
  b_law_random : Binds K fd_law_random ["_law_generator_here", "_law_bound"] []
  f_law_price : Addr
  fd_law_price : FuncData
  F_law_price : FnP K "_law_price" s_law_price f_law_price fd_law_price
  g_law_price : mg "_law_price" = some (.ref f_law_price)
  b_law_price : Binds K fd_law_price ["_law_folds_here", "_law_width"] []
  f_law_least : Addr
  fd_law_least : FuncData
  F_law_least : FnP K "_law_least" s_law_least f_law_least fd_law_least
  g_law_least : mg "_law_least" = some (.ref f_law_least)
  b_law_least : Binds K fd_law_least ["_law_folds_here"] []
  f_law_folds : Addr
  fd_law_folds : FuncData
  F_law_folds : FnP K "_law_folds" s_law_folds f_law_folds fd_law_folds
  g_law_folds : mg "_law_folds" = some (.ref f_law_folds)
  b_law_folds : Binds K fd_law_folds ["_law_generator_here", "_law_most"] []
  f_law : Addr
  fd_law : FuncData
  F_law : FnP K "law" s_law f_law fd_law
  g_law : mg "law" = some (.ref f_law)
  b_law : Binds K fd_law ["_law_script"] []
  n_len : mg "len" = none
  n_sum : mg "sum" = none
  n_max : mg "max" = none
  n_min : mg "min" = none
  n_int : mg "int" = none
  n_bool : mg "bool" = none
  n_list : mg "list" = none
  n_range : mg "range" = none
  n_isinstance : mg "isinstance" = none
  t_MOST_WIDTH : Tok
  m_MOST_WIDTH : mg "MOST_WIDTH" = some (.int 120 t_MOST_WIDTH)
def d_is_whole : He.DefD := ⟨("is_whole", none), "is_whole", "is_whole", defArgs s_is_whole, defBody s_is_whole, defScope s_is_whole, [], []⟩
def d_is_between : He.DefD := ⟨("is_between", none), "is_between", "is_between", defArgs s_is_between, defBody s_is_between, defScope s_is_between, [], []⟩
def d_check_folds : He.DefD := ⟨("check_folds", none), "check_folds", "check_folds", defArgs s_check_folds, defBody s_check_folds, defScope s_check_folds, [], []⟩
def d_check_width : He.DefD := ⟨("check_width", none), "check_width", "check_width", defArgs s_check_width, defBody s_check_width, defScope s_check_width, [], []⟩
def d_raw_price : He.DefD := ⟨("raw_price", none), "raw_price", "raw_price", defArgs s_raw_price, defBody s_raw_price, defScope s_raw_price, [], []⟩
def d_price : He.DefD := ⟨("price", none), "price", "price", defArgs s_price, defBody s_price, defScope s_price, [], []⟩
def d_told_least : He.DefD := ⟨("told_least", none), "told_least", "told_least", defArgs s_told_least, defBody s_told_least, defScope s_told_least, [], []⟩
def d_least_width : He.DefD := ⟨("least_width", none), "least_width", "least_width", defArgs s_least_width, defBody s_least_width, defScope s_least_width, [], []⟩
def d_law_cell : He.DefD := ⟨("_law_cell", none), "_law_cell", "_law_cell", defArgs s_law_cell, defBody s_law_cell, defScope s_law_cell, [], []⟩
def d_law_hash : He.DefD := ⟨("_law_hash", none), "_law_hash", "_law_hash", defArgs s_law_hash, defBody s_law_hash, defScope s_law_hash, [], []⟩
def d_law_generator : He.DefD := ⟨("_law_generator", none), "_law_generator", "_law_generator", defArgs s_law_generator, defBody s_law_generator, defScope s_law_generator, [], []⟩
def d_law_random : He.DefD := ⟨("_law_random", none), "_law_random", "_law_random", defArgs s_law_random, defBody s_law_random, defScope s_law_random, [], []⟩
def d_law_price : He.DefD := ⟨("_law_price", none), "_law_price", "_law_price", defArgs s_law_price, defBody s_law_price, defScope s_law_price, [], []⟩
def d_law_least : He.DefD := ⟨("_law_least", none), "_law_least", "_law_least", defArgs s_law_least, defBody s_law_least, defScope s_law_least, [], []⟩
def d_law_folds : He.DefD := ⟨("_law_folds", none), "_law_folds", "_law_folds", defArgs s_law_folds, defBody s_law_folds, defScope s_law_folds, [], []⟩
def d_law : He.DefD := ⟨("law", none), "law", "law", defArgs s_law, defBody s_law, defScope s_law, [], []⟩
def fn : List He.DefD := [d_is_whole, d_is_between, d_check_folds, d_check_width, d_raw_price, d_price, d_told_least, d_least_width, d_law_cell, d_law_hash, d_law_generator, d_law_random, d_law_price, d_law_least, d_law_folds, d_law]
def fa : List He.Fa := [.glo "is_whole", .glo "is_between", .glo "check_folds", .glo "check_width", .glo "raw_price", .glo "price", .glo "told_least", .glo "least_width", .glo "_law_cell", .glo "_law_hash", .glo "_law_generator", .glo "_law_random", .glo "_law_price", .glo "_law_least", .glo "_law_folds", .glo "law", .free "len", .free "sum", .free "max", .free "min", .free "int", .free "bool", .free "list", .free "range", .free "isinstance", .int "MOST_WIDTH" 120]
abbrev R : PySem.W.OpenRow := PySem.W.OpenLaw.row PySem.Challenge.rw_wholesound_k41_least_widths
abbrev hk : PySem.W.Hook := He.hookD 4 fa fn
def ob (s : PySem.W.SharedT) : He.AlD := He.obsDG 4 fa fn (HandSHeadRun.getT s)
theorem ob_eq (s : PySem.W.SharedT) : ob s = hk.obs s.abs := He.obsDG_eq (HandSHeadRun.getT_eq s)
def loose0 : List PySem.Str := ["SoundError", "InvalidFolds", "InvalidWidth", "is_whole", "is_between", "MOST_WIDTH", "check_folds", "check_width", "raw_price", "price", "told_least", "least_width", "_law_cell", "_law_hash", "_law_generator", "_law_random", "_law_price", "_law_least", "_law_folds"]
abbrev loose : List PySem.Str := loose0
theorem run (w : World) : HandSHeadRun.RunEq R (PySem.W.view R.prog [23]) hk ob 4000 loose w := by
  intro os
  kernel_rfl
noncomputable def top_mk {K : PySem.W.Frag} {h : Heap} {mg : Str → Option Value} (X : K.In h) (G : h.Ns mainGlobals mg) (c : He.SaysD fa fn K) : Top K mg :=
  let p0 := c.def_ 0 (d := d_is_whole) rfl
  let p1 := c.def_ 1 (d := d_is_between) rfl
  let p2 := c.def_ 2 (d := d_check_folds) rfl
  let p3 := c.def_ 3 (d := d_check_width) rfl
  let p4 := c.def_ 4 (d := d_raw_price) rfl
  let p5 := c.def_ 5 (d := d_price) rfl
  let p6 := c.def_ 6 (d := d_told_least) rfl
  let p7 := c.def_ 7 (d := d_least_width) rfl
  let p8 := c.def_ 8 (d := d_law_cell) rfl
  let p9 := c.def_ 9 (d := d_law_hash) rfl
  let p10 := c.def_ 10 (d := d_law_generator) rfl
  let p11 := c.def_ 11 (d := d_law_random) rfl
  let p12 := c.def_ 12 (d := d_law_price) rfl
  let p13 := c.def_ 13 (d := d_law_least) rfl
  let p14 := c.def_ 14 (d := d_law_folds) rfl
  let p15 := c.def_ 15 (d := d_law) rfl
  let q0 := He.int_ok X G (c.fact 25 (f := .int "MOST_WIDTH" 120) rfl)
  { f_is_whole := _, fd_is_whole := p0.choose, F_is_whole := p0.choose_spec, g_is_whole := He.glo_ok X G (c.fact 0 (f := .glo "is_whole") rfl), b_is_whole := p0.choose_spec.bindsN fun _ _ _ _ _ _ us hl => match us, hl with | [_], _ => rfl,
    f_is_between := _, fd_is_between := p1.choose, F_is_between := p1.choose_spec, g_is_between := He.glo_ok X G (c.fact 1 (f := .glo "is_between") rfl), b_is_between := p1.choose_spec.bindsN fun _ _ _ _ _ _ us hl => match us, hl with | [_, _, _], _ => rfl,
    f_check_folds := _, fd_check_folds := p2.choose, F_check_folds := p2.choose_spec, g_check_folds := He.glo_ok X G (c.fact 2 (f := .glo "check_folds") rfl), b_check_folds := p2.choose_spec.bindsN fun _ _ _ _ _ _ us hl => match us, hl with | [_], _ => rfl,
    f_check_width := _, fd_check_width := p3.choose, F_check_width := p3.choose_spec, g_check_width := He.glo_ok X G (c.fact 3 (f := .glo "check_width") rfl), b_check_width := p3.choose_spec.bindsN fun _ _ _ _ _ _ us hl => match us, hl with | [_], _ => rfl,
    f_raw_price := _, fd_raw_price := p4.choose, F_raw_price := p4.choose_spec, g_raw_price := He.glo_ok X G (c.fact 4 (f := .glo "raw_price") rfl), b_raw_price := p4.choose_spec.bindsN fun _ _ _ _ _ _ us hl => match us, hl with | [_, _], _ => rfl,
    f_price := _, fd_price := p5.choose, F_price := p5.choose_spec, g_price := He.glo_ok X G (c.fact 5 (f := .glo "price") rfl), b_price := p5.choose_spec.bindsN fun _ _ _ _ _ _ us hl => match us, hl with | [_, _], _ => rfl,
    f_told_least := _, fd_told_least := p6.choose, F_told_least := p6.choose_spec, g_told_least := He.glo_ok X G (c.fact 6 (f := .glo "told_least") rfl), b_told_least := p6.choose_spec.bindsN fun _ _ _ _ _ _ us hl => match us, hl with | [_], _ => rfl,
    f_least_width := _, fd_least_width := p7.choose, F_least_width := p7.choose_spec, g_least_width := He.glo_ok X G (c.fact 7 (f := .glo "least_width") rfl), b_least_width := p7.choose_spec.bindsN fun _ _ _ _ _ _ us hl => match us, hl with | [_], _ => rfl,
    f_law_cell := _, fd_law_cell := p8.choose, F_law_cell := p8.choose_spec, g_law_cell := He.glo_ok X G (c.fact 8 (f := .glo "_law_cell") rfl), b_law_cell := p8.choose_spec.bindsN fun _ _ _ _ _ _ us hl => match us, hl with | [_, _], _ => rfl,
    f_law_hash := _, fd_law_hash := p9.choose, F_law_hash := p9.choose_spec, g_law_hash := He.glo_ok X G (c.fact 9 (f := .glo "_law_hash") rfl), b_law_hash := p9.choose_spec.bindsN fun _ _ _ _ _ _ us hl => match us, hl with | [_, _], _ => rfl,
    f_law_generator := _, fd_law_generator := p10.choose, F_law_generator := p10.choose_spec, g_law_generator := He.glo_ok X G (c.fact 10 (f := .glo "_law_generator") rfl), b_law_generator := p10.choose_spec.bindsN fun _ _ _ _ _ _ us hl => match us, hl with | [_, _], _ => rfl,
    f_law_random := _, fd_law_random := p11.choose, F_law_random := p11.choose_spec, g_law_random := He.glo_ok X G (c.fact 11 (f := .glo "_law_random") rfl), b_law_random := p11.choose_spec.bindsN fun _ _ _ _ _ _ us hl => match us, hl with | [_, _], _ => rfl,
    f_law_price := _, fd_law_price := p12.choose, F_law_price := p12.choose_spec, g_law_price := He.glo_ok X G (c.fact 12 (f := .glo "_law_price") rfl), b_law_price := p12.choose_spec.bindsN fun _ _ _ _ _ _ us hl => match us, hl with | [_, _], _ => rfl,
    f_law_least := _, fd_law_least := p13.choose, F_law_least := p13.choose_spec, g_law_least := He.glo_ok X G (c.fact 13 (f := .glo "_law_least") rfl), b_law_least := p13.choose_spec.bindsN fun _ _ _ _ _ _ us hl => match us, hl with | [_], _ => rfl,
    f_law_folds := _, fd_law_folds := p14.choose, F_law_folds := p14.choose_spec, g_law_folds := He.glo_ok X G (c.fact 14 (f := .glo "_law_folds") rfl), b_law_folds := p14.choose_spec.bindsN fun _ _ _ _ _ _ us hl => match us, hl with | [_, _], _ => rfl,
    f_law := _, fd_law := p15.choose, F_law := p15.choose_spec, g_law := He.glo_ok X G (c.fact 15 (f := .glo "law") rfl), b_law := p15.choose_spec.bindsN fun _ _ _ _ _ _ us hl => match us, hl with | [_], _ => rfl,
    n_len := He.free_ok X G (c.fact 16 (f := .free "len") rfl),
    n_sum := He.free_ok X G (c.fact 17 (f := .free "sum") rfl),
    n_max := He.free_ok X G (c.fact 18 (f := .free "max") rfl),
    n_min := He.free_ok X G (c.fact 19 (f := .free "min") rfl),
    n_int := He.free_ok X G (c.fact 20 (f := .free "int") rfl),
    n_bool := He.free_ok X G (c.fact 21 (f := .free "bool") rfl),
    n_list := He.free_ok X G (c.fact 22 (f := .free "list") rfl),
    n_range := He.free_ok X G (c.fact 23 (f := .free "range") rfl),
    n_isinstance := He.free_ok X G (c.fact 24 (f := .free "isinstance") rfl),
    t_MOST_WIDTH := q0.choose, m_MOST_WIDTH := q0.choose_spec }
end My
namespace My
/-! ### the mathematics: prices by widths -/
def price (ns : List Int) (w : Nat) : Int := (ns.map fun n => n / 2 ^ w + 1 + (w : Int)).sum
def cc (ns : List Int) (w : Nat) : Int := (ns.map fun n => (n + 2 ^ w) / 2 ^ (w + 1)).sum
def Folds (ns : List Int) : Prop := ∀ n ∈ ns, 0 ≤ n ∧ n < 2 ^ 40
theorem pow_pos' (w : Nat) : (0 : Int) < 2 ^ w := Int.pow_pos (by decide)
theorem half_step (n : Int) (w : Nat) : n / 2 ^ w - n / 2 ^ (w + 1) = (n + 2 ^ w) / 2 ^ (w + 1) := by
  have hp := pow_pos' w
  have e1 : n / 2 ^ (w + 1) = n / 2 ^ w / 2 := by
    rw [Int.pow_succ, Int.ediv_ediv_of_nonneg (Int.le_of_lt hp)]
  have e2 : (n + 2 ^ w) / 2 ^ (w + 1) = (n / 2 ^ w + 1) / 2 := by
    rw [Int.pow_succ, ← Int.ediv_ediv_of_nonneg (Int.le_of_lt hp), Int.add_ediv_of_dvd_right (Int.dvd_refl _), Int.ediv_self (Int.ne_of_gt hp)]
  rw [e1, e2]
  omega
theorem price_step : ∀ (ns : List Int) (w : Nat), price ns (w + 1) = price ns w + ns.length - cc ns w
  | [], _ => rfl
  | n :: r, w => by
    have ih := price_step r w
    have h := half_step n w
    unfold price cc at ih ⊢
    simp only [List.map_cons, List.sum_cons, List.length_cons]
    rw [ih]
    push_cast
    omega
theorem cc_anti : ∀ (ns : List Int), (∀ n ∈ ns, 0 ≤ n) → ∀ w, cc ns (w + 1) ≤ cc ns w
  | [], _, _ => Int.le_refl _
  | n :: r, h, w => by
    have ih := cc_anti r (fun x hx => h x (List.mem_cons_of_mem _ hx)) w
    have hn := h n List.mem_cons_self
    have hp := pow_pos' w
    have e1 : (n + 2 ^ w) / 2 ^ (w + 1) = (n / 2 ^ w + 1) / 2 := by
      rw [Int.pow_succ, ← Int.ediv_ediv_of_nonneg (Int.le_of_lt hp), Int.add_ediv_of_dvd_right (Int.dvd_refl _), Int.ediv_self (Int.ne_of_gt hp)]
    have hp2 := pow_pos' (w + 1)
    have e2 : (n + 2 ^ (w + 1)) / 2 ^ (w + 1 + 1) = (n / 2 ^ (w + 1) + 1) / 2 := by
      rw [Int.pow_succ 2 (w + 1), ← Int.ediv_ediv_of_nonneg (Int.le_of_lt hp2), Int.add_ediv_of_dvd_right (Int.dvd_refl _), Int.ediv_self (Int.ne_of_gt hp2)]
    have e3 : n / 2 ^ (w + 1) = n / 2 ^ w / 2 := by
      rw [Int.pow_succ, Int.ediv_ediv_of_nonneg (Int.le_of_lt hp)]
    have hq : 0 ≤ n / 2 ^ w := Int.ediv_nonneg hn (Int.le_of_lt hp)
    unfold cc at ih ⊢
    simp only [List.map_cons, List.sum_cons]
    rw [e1, e2, e3]
    omega
theorem cc_le (ns : List Int) (h : ∀ n ∈ ns, 0 ≤ n) (v : Nat) : ∀ d, cc ns (v + d) ≤ cc ns v
  | 0 => Int.le_refl _
  | d + 1 => Int.le_trans (cc_anti ns h (v + d)) (cc_le ns h v d)
theorem cc_40 : ∀ (ns : List Int), Folds ns → cc ns 40 = 0
  | [], _ => rfl
  | n :: r, h => by
    have ih := cc_40 r fun x hx => h x (List.mem_cons_of_mem _ hx)
    have hn := h n List.mem_cons_self
    have e : (n + 2 ^ 40) / 2 ^ (40 + 1) = 0 := Int.ediv_eq_zero_of_lt (by omega) (by omega)
    unfold cc at ih ⊢
    simp only [List.map_cons, List.sum_cons]
    rw [ih, e]
    rfl
theorem Folds.nn {ns : List Int} (h : Folds ns) : ∀ n ∈ ns, 0 ≤ n := fun n hn => (h n hn).1
/-- m is the least price, f the first and l the last width that has it -/
structure IsLeast (ns : List Int) (m : Int) (f l : Nat) : Prop where
  fl : f ≤ l
  l40 : l ≤ 40
  at_ : ∀ w, f ≤ w → w ≤ l → price ns w = m
  lo : ∀ w, w < f → m < price ns w
  hi : ∀ w, l < w → m < price ns w
theorem IsLeast.le {ns : List Int} {m : Int} {f l : Nat} (h : IsLeast ns m f l) (w : Nat) : m ≤ price ns w := by
  by_cases h1 : w < f
  · exact Int.le_of_lt (h.lo w h1)
  · by_cases h2 : l < w
    · exact Int.le_of_lt (h.hi w h2)
    · exact Int.le_of_eq (h.at_ w (by omega) (by omega)).symm
theorem IsLeast.uniq {ns : List Int} {m m' : Int} {f l f' l' : Nat} (a : IsLeast ns m f l) (b : IsLeast ns m' f' l') : m = m' ∧ f = f' ∧ l = l' := by
  have e : m = m' := Int.le_antisymm (by rw [← b.at_ f' (Nat.le_refl _) b.fl]; exact a.le f') (by rw [← a.at_ f (Nat.le_refl _) a.fl]; exact b.le f)
  subst e
  have z : ∀ {f l f' l' : Nat}, IsLeast ns m f l → IsLeast ns m f' l' → f ≤ f' ∧ l' ≤ l := fun {f l f' l'} a b => by
    constructor
    · by_cases h : f ≤ f'
      · exact h
      · have h1 := a.lo f' (by omega)
        rw [b.at_ f' (Nat.le_refl _) b.fl] at h1
        omega
    · by_cases h : l' ≤ l
      · exact h
      · have h1 := a.hi l' (by omega)
        rw [b.at_ l' b.fl (Nat.le_refl _)] at h1
        omega
  have h1 := z a b
  have h2 := z b a
  omega
theorem fall (ns : List Int) (f : Nat) (h : ∀ w, w < f → (ns.length : Int) < cc ns w) : ∀ d, d ≤ f → 0 < d → price ns f < price ns (f - d)
  | 0, _, h0 => absurd h0 (by omega)
  | d + 1, hd, _ => by
    have e := price_step ns (f - (d + 1))
    have hw := h (f - (d + 1)) (by omega)
    have e2 : f - (d + 1) + 1 = f - d := by omega
    rw [e2] at e
    by_cases h0 : d = 0
    · subst h0
      rw [Nat.sub_zero] at e
      omega
    · have ih := fall ns f h d (by omega) (by omega)
      omega
theorem rise (ns : List Int) (nn : ∀ n ∈ ns, 0 ≤ n) (v : Nat) (h : cc ns v < ns.length) : ∀ d, price ns v < price ns (v + d + 1)
  | 0 => by
    have e := price_step ns v
    show price ns v < price ns (v + 1)
    omega
  | d + 1 => by
    have ih := rise ns nn v h d
    have e := price_step ns (v + d + 1)
    have c := cc_le ns nn v (d + 1)
    have c' : cc ns (v + d + 1) ≤ cc ns v := c
    show price ns v < price ns (v + d + 1 + 1)
    omega
/-- what the program's two loops find is the least price -/
theorem told_least (ns : List Int) (hF : Folds ns) (ne : ns ≠ []) (f l : Nat) (hf : cc ns f ≤ ns.length) (hlo : ∀ w, w < f → (ns.length : Int) < cc ns w) (hfl : f ≤ l) (hat : ∀ w, f ≤ w → w ≤ l → price ns w = price ns f)
    (hne : price ns (l + 1) ≠ price ns f) : IsLeast ns (price ns f) f l := by
  have hlen : 0 < ns.length := by cases ns with | nil => exact absurd rfl ne | cons _ _ => simp
  have c40 := cc_40 ns hF
  have hf40 : f ≤ 40 := by
    by_cases h : f ≤ 40
    · exact h
    · have := hlo 40 (by omega)
      omega
  have el := hat l hfl (Nat.le_refl _)
  have hcl : cc ns l < ns.length := by
    have e := price_step ns l
    obtain ⟨d, rfl⟩ : ∃ d, l = f + d := ⟨l - f, by omega⟩
    have c := cc_le ns hF.nn f d
    omega
  refine ⟨hfl, ?_, hat, fun w hw => ?_, fun w hw => ?_⟩
  · by_cases h : l ≤ 40
    · exact h
    · have e : price ns 41 = price ns 40 + ns.length - cc ns 40 := price_step ns 40
      have h1 := hat 40 hf40 (by omega)
      have h2 := hat 41 (by omega) (by omega)
      omega
  · have h := fall ns f hlo (f - w) (by omega) (by omega)
    rw [show f - (f - w) = w by omega] at h
    exact h
  · obtain ⟨d, rfl⟩ : ∃ d, w = l + d + 1 := ⟨w - l - 1, by omega⟩
    have h := rise ns hF.nn l hcl d
    omega
theorem least_ex (P : Nat → Prop) [DecidablePred P] : ∀ n, P n → ∃ k, P k ∧ k ≤ n ∧ ∀ w, w < k → ¬ P w := by
  intro n
  induction n using Nat.strongRecOn with
  | _ n ih =>
    intro hn
    by_cases h : ∃ w, w < n ∧ P w
    · obtain ⟨w, hw, pw⟩ := h
      obtain ⟨k, a, b, c⟩ := ih w hw pw
      exact ⟨k, a, by omega, c⟩
    · exact ⟨n, hn, Nat.le_refl _, fun w hw pw => h ⟨w, hw, pw⟩⟩
theorem least_is (ns : List Int) (hF : Folds ns) (ne : ns ≠ []) : ∃ m f l, IsLeast ns m f l := by
  have hlen : 0 < ns.length := by cases ns with | nil => exact absurd rfl ne | cons _ _ => simp
  have c40 := cc_40 ns hF
  obtain ⟨f, h1, h2, h3⟩ := least_ex (fun w => cc ns w ≤ ns.length) 40 (by show cc ns 40 ≤ ns.length; omega)
  obtain ⟨l, g1, g2, g3⟩ := least_ex (fun w => f ≤ w ∧ price ns (w + 1) ≠ price ns f) 40 ⟨h2, by
    have r := rise ns hF.nn 40 (by omega) 0
    have q : price ns f ≤ price ns 40 := by
      obtain ⟨d, hd⟩ : ∃ d, 40 = f + d := ⟨40 - f, by omega⟩
      have up : ∀ d, price ns f ≤ price ns (f + d) := fun d => by
        induction d with
        | zero => exact Int.le_refl _
        | succ d ih =>
          have e := price_step ns (f + d)
          have c := cc_le ns hF.nn f d
          show price ns f ≤ price ns (f + d + 1)
          omega
      rw [hd]
      exact up d
    have r' : price ns 40 < price ns 41 := r
    show price ns 41 ≠ price ns f
    omega⟩
  refine ⟨_, f, l, told_least ns hF ne f l h1 (fun w hw => by have := h3 w hw; omega) g1.1 (fun w hw hl => ?_) g1.2⟩
  have key : ∀ d, f + d ≤ l → price ns (f + d) = price ns f := fun d => by
    induction d with
    | zero => intro _; rfl
    | succ d ih =>
      intro hd
      have := g3 (f + d) (by omega)
      by_cases hq : price ns (f + d + 1) = price ns f
      · exact hq
      · exact absurd ⟨by omega, hq⟩ this
  have := key (w - f) (by omega)
  rw [show f + (w - f) = w by omega] at this
  exact this
/-- what the law finds over 45 widths -/
theorem law_least (ns : List Int) (m0 : Int) (f0 l0 : Nat) (h : IsLeast ns m0 f0 l0) (m : Int) (hm : m ∈ (List.range 45).map (price ns)) (hle : ∀ y ∈ (List.range 45).map (price ns), m ≤ y) :
    m = m0 ∧ ((List.range 45).filter fun w => decide (price ns w = m)) = (List.range (l0 + 1 - f0)).map (fun d => f0 + d) := by
  have e : m = m0 := by
    obtain ⟨w, hw, ew⟩ := List.mem_map.mp hm
    have a := h.le w
    have b := hle (price ns f0) (List.mem_map.mpr ⟨f0, List.mem_range.mpr (by have := h.fl; have := h.l40; omega), rfl⟩)
    rw [h.at_ f0 (Nat.le_refl _) h.fl] at b
    omega
  refine ⟨e, ?_⟩
  subst e
  have e1 : (List.range 45).filter (fun w => decide (price ns w = m)) = (List.range 45).filter (fun w => decide (f0 ≤ w ∧ w ≤ l0)) := by
    refine List.filter_congr fun w _ => ?_
    have : price ns w = m ↔ f0 ≤ w ∧ w ≤ l0 := by
      constructor
      · intro hp
        constructor
        · by_cases q : f0 ≤ w
          · exact q
          · have := h.lo w (by omega); omega
        · by_cases q : w ≤ l0
          · exact q
          · have := h.hi w (by omega); omega
      · rintro ⟨a, b⟩
        exact h.at_ w a b
    simp only [this]
  rw [e1]
  have hfl := h.fl
  have h40 := h.l40
  have key : ∀ n, (List.range n).filter (fun w => decide (f0 ≤ w ∧ w ≤ l0)) = (List.range (min n (l0 + 1) - f0)).map (fun d => f0 + d) := fun n => by
    induction n with
    | zero => simp
    | succ n ih =>
      rw [List.range_succ, List.filter_append, ih]
      by_cases c : f0 ≤ n ∧ n ≤ l0
      · rw [List.filter_cons_of_pos (by simpa using c)]
        rw [show min (n + 1) (l0 + 1) - f0 = (min n (l0 + 1) - f0) + 1 by omega, List.range_succ, List.map_append]
        simp
        omega
      · rw [List.filter_cons_of_neg (by simpa using c)]
        rw [show min (n + 1) (l0 + 1) - f0 = (min n (l0 + 1) - f0) by omega]
        simp
  rw [key 45, show min 45 (l0 + 1) - f0 = l0 + 1 - f0 by omega]
theorem price_app (a b : List Int) (w : Nat) : price (a ++ b) w = price a w + price b w := by
  unfold price
  rw [List.map_append, List.sum_append]
theorem price_rev (a : List Int) (w : Nat) : price a.reverse w = price a w := by
  unfold price
  rw [List.map_reverse, List.sum_reverse]
theorem IsLeast.rev {a : List Int} {m : Int} {f l : Nat} (h : IsLeast a m f l) : IsLeast a.reverse m f l :=
  ⟨h.fl, h.l40, fun w x y => by rw [price_rev]; exact h.at_ w x y, fun w x => by rw [price_rev]; exact h.lo w x, fun w x => by rw [price_rev]; exact h.hi w x⟩
theorem convex {ns : List Int} (h : Folds ns) (w : Nat) : ¬ price ns (w + 2) - price ns (w + 1) < price ns (w + 1) - price ns w := by
  have a := price_step ns w
  have b := price_step ns (w + 1)
  have c := cc_anti ns h.nn w
  have b' : price ns (w + 2) = price ns (w + 1) + ns.length - cc ns (w + 1) := b
  omega
/-- a sum of prices, as the program says it -/
theorem price_raw : ∀ (ns : List Int) (w : Nat), (ns.length : Int) * ((w : Int) + 1) + (ns.map fun n => n / 2 ^ w).sum = price ns w
  | [], w => by simp [price]
  | n :: r, w => by
    have ih := price_raw r w
    unfold price at ih ⊢
    simp only [List.map_cons, List.sum_cons, List.length_cons]
    rw [← ih]
    push_cast
    rw [Int.add_mul]
    omega
end My

namespace My
open PySem PySem.Spec PyProof.Rows L2 Pre
section
variable {P : Program} {w : World} {K : PySem.W.Frag} {mg : Str → Option Value} {base : Heap}
/-! ### is_whole, is_between -/
def sp_is_whole : Sp := fun vs H Q _ => ∃ i : Int, vs = [.int i] ∧ Q (.bl true) H
theorem G_is_whole (T : Top K mg) : FnOk P w K mg base CX0 1 T.f_is_whole T.fd_is_whole ["value"] sp_is_whole := by
  refine T.F_is_whole.ok sc_is_whole (fun vs H Q E h => by obtain ⟨i, rfl, _⟩ := h; rfl) (fun cdv A outer s H vs Q E hr h => ?_)
  obtain ⟨i, rfl, q⟩ := h
  refine ⟨_, PSs.nox (pss_one (ps_ret (pe_and (pe_callB call_isi (by rfl) T.n_isinstance (by decide +kernel) (pa_cons (pv 0) (pa_cons (pe_bltn (v := .ty "int") (by rfl) T.n_int (by decide +kernel) rfl) pa_nil))) (pe_one (pe_not (pe_callB call_isi (by rfl) T.n_isinstance (by decide +kernel) (pa_cons (pv 0) (pa_cons (pe_bltn (v := .ty "bool") (by rfl) T.n_bool (by decide +kernel) rfl) pa_nil)))))))), ?_⟩
  refine ⟨_, rfl, _, _, _, _, true, rfl, .ty _, .base (.int i), kit_ty (by decide +kernel), true, rfl, iteT ?_⟩
  exact ⟨_, rfl, _, _, _, _, false, rfl, .ty _, .base (.int i), kit_ty (by decide +kernel), false, rfl, q⟩
end
end My

namespace My
open PySem PySem.Spec PyProof.Rows L2 Pre
section
variable {P : Program} {w : World} {K : PySem.W.Frag} {mg : Str → Option Value} {base : Heap}
/-- value a whole number, low one, high None or one -/
def sp_is_between : Sp := fun vs H Q _ => ∃ (i lo : Int) (hi : Option Int), vs = [.int i, .int lo, (match hi with | some j => .int j | none => .non)] ∧ Q (.bl (decide (lo ≤ i ∧ ∀ j, hi = some j → i ≤ j))) H
theorem G_is_between (T : Top K mg) : FnOk P w K mg base CX0 2 T.f_is_between T.fd_is_between ["value", "low", "high"] sp_is_between := by
  refine T.F_is_between.ok sc_is_between (fun vs H Q E h => by obtain ⟨i, lo, hi, rfl, _⟩ := h; rfl) (fun cdv A outer s H vs Q E hr h => ?_)
  obtain ⟨i, lo, hi, rfl, q⟩ := h
  refine ⟨_, PSs.nox (pss_one (ps_ret (pe_and (pe_call (G_is_whole T) (hr.mono (by decide)) (by rfl) T.g_is_whole T.F_is_whole.kp T.b_is_whole .nil pass0 (pa_cons (pv 0) pa_nil)) (pe_and (pe_cmpR op_le (pv 1) (pv 0) (nomark _)) (pe_one (pe_or (pe_cmpR op_isN (pv 2) pe_non (nomark _)) (pe_one (pe_cmpR op_le (pv 0) (pv 2) (nomark _)))))))))
, ?_⟩
  refine ⟨_, rfl, i, rfl, true, rfl, iteT ?_⟩
  refine ⟨_, rfl, _, rfl, _, _, rfl, rfl, _, rfl, ite2 (fun e => ?_) (fun e => ?_)⟩
  · have e1 : lo ≤ i := of_decide_eq_true e
    cases hi with
    | none =>
      refine ⟨_, rfl, rfl, _, rfl, iteT ?_⟩
      rw [decide_eq_true ⟨e1, fun j h => nomatch h⟩] at q
      exact q
    | some j =>
      refine ⟨_, rfl, rfl, _, rfl, iteF ⟨_, rfl, _, rfl, _, _, rfl, rfl, ?_⟩⟩
      have e2 : decide (lo ≤ i ∧ ∀ j', some j = some j' → i ≤ j') = decide (i ≤ j) := by
        by_cases h : i ≤ j
        · rw [decide_eq_true h, decide_eq_true]
          exact ⟨e1, fun j' e => by cases e; exact h⟩
        · rw [decide_eq_false h, decide_eq_false]
          exact fun z => h (z.2 j rfl)
      rw [e2] at q
      exact q
  · have e1 : ¬ lo ≤ i := fun h => e (decide_eq_true h)
    rw [decide_eq_false fun z => e1 z.1] at q
    exact q
/-! ### check_folds, check_width -/
def sp_check_folds (K : PySem.W.Frag) : Sp := fun vs H Q _ => ∃ (a : Addr) (ns : List Int), vs = [.ref a] ∧ SqL K H a (ns.map V.int) ∧ (∃ u, Rd H a u ∧ ∃ xs, u = .lst xs) ∧ (∀ n ∈ ns, 0 ≤ n) ∧ ns.length < sizeLine ∧ ∀ H', Same H H' → Q .non H'
theorem rd_ty {H : Hp} {a : Addr} {u : HO} {xs : List V} (h : Rd H a u) (e : u = .lst xs) : TyX K H (.ref a) (.type "list") := by
  subst e
  rcases h with h | ⟨o, h⟩
  · exact .base (.lst h)
  · exact .base (.frz h)
theorem G_check_folds (T : Top K mg) : FnOk P w K mg base CX0 3 T.f_check_folds T.fd_check_folds ["folds"] (sp_check_folds K) := by
  refine T.F_check_folds.ok sc_check_folds (fun vs H Q E h => by obtain ⟨i, lo, rfl, _⟩ := h; rfl) (fun cdv A outer s H vs Q E hr h => ?_)
  obtain ⟨a, ns, rfl, hS, ⟨u, hu, xs, eu⟩, nn, hz, q⟩ := h
  refine ⟨_, PSs.nox (pss_one (ps_if (PW.pt (pw_or (pt_not (pt_val (pe_callB call_isi (by rfl) T.n_isinstance (by decide +kernel) (pa_cons (pv 0) (pa_cons (pe_bltn (v := .ty "list") (by rfl) T.n_list (by decide +kernel) rfl) pa_nil))))) (pw_or1 (pt_cmpR (op_neD hr.units) (pe_lc (own := [("unit", 1)]) (g := gName 1) (by rfl) sc_check_folds.nd (pi_list (pv 0)) (blkOk_by (own := [("unit", 1)]) (N := N_check_folds) (sc := defScope s_check_folds) (by decide +kernel)) (fun _ _ _ _ _ => (pg_name (i := 1) sc_check_folds.nd rfl (by first | exact Or.inl rfl | exact Or.inr rfl))) (fun _ _ _ _ _ => (pts_one (pt_not (pt_val (pe_call (G_is_between T) (hr.mono (by decide)) (by rfl) T.g_is_between T.F_is_between.kp T.b_is_between .nil pass0 (pa_cons (pv 1) (pa_cons pe_int (pa_cons pe_non pa_nil)))))))) (fun _ _ _ _ _ => (pv 1))) (pe_lst pa_nil) (nomark _)))))
    (pss_one ps_never)
    pss_nil)), ?_⟩
  refine ⟨_, rfl, _, _, _, _, true, rfl, .ty _, rd_ty hu eu, kit_ty (by decide +kernel), true, rfl, iteF ?_⟩
  refine ⟨_, rfl, a, rfl, ⟨_, hS⟩, fun D nD => ?_⟩
  refine lc_selL (K := K) (xs := ns.map V.int) (ns.map fun _ => none) nD hS (by rw [List.length_map, List.length_map]) (by rw [List.length_map]; exact hz) (fun x => rfl) ?_ ?_
  · intro i x o H' hx ho s Qt qt
    obtain ⟨n, hn, rfl⟩ : ∃ n, ns[i]? = some n ∧ V.int n = x := by
      rw [List.getElem?_map] at hx
      exact Option.map_eq_some_iff.mp hx
    obtain ⟨_, _, rfl⟩ : ∃ n, ns[i]? = some n ∧ none = o := by
      rw [List.getElem?_map] at ho
      exact Option.map_eq_some_iff.mp ho
    have h0 := nn n (List.mem_of_getElem? hn)
    refine ⟨_, rfl, n, 0, none, rfl, _, rfl, ?_⟩
    rw [decide_eq_true ⟨h0, fun j h => nomatch h⟩]
    exact iteF (qt _ (Same.refl _))
  · intro H' s hD
    have e0 : (ns.map fun _ => (none : Option V)).filterMap id = [] := by
      induction ns with
      | nil => rfl
      | cons n r ih => simp
    rw [e0] at hD
    refine ⟨Nat.zero_le _, fun p np => ?_⟩
    have hD' : (upd H' p (.lst [])) D = some (.lst []) := same_upd np _ _ hD
    refine ⟨.list [], .list [], .lst (.inl (.inl hD')) .nil, .lst (.inl (.inl upd_same)) .nil, by decide +kernel, by decide +kernel, _, rfl, iteF ?_⟩
    exact q _ (s.trans (same_upd np))
def sp_check_width : Sp := fun vs H Q _ => ∃ i : Int, vs = [.int i] ∧ 0 ≤ i ∧ i ≤ 120 ∧ Q .non H
theorem G_check_width (T : Top K mg) : FnOk P w K mg base CX0 3 T.f_check_width T.fd_check_width ["width"] sp_check_width := by
  refine T.F_check_width.ok sc_check_width (fun vs H Q E h => by obtain ⟨i, rfl, _⟩ := h; rfl) (fun cdv A outer s H vs Q E hr h => ?_)
  obtain ⟨i, rfl, h0, h1, q⟩ := h
  refine ⟨_, PSs.nox (pss_one (ps_if (pt_not (pt_val (pe_call (G_is_between T) (hr.mono (by decide)) (by rfl) T.g_is_between T.F_is_between.kp T.b_is_between .nil pass0 (pa_cons (pv 0) (pa_cons pe_int (pa_cons (pe_glob (v := .int 120) rfl T.m_MOST_WIDTH ⟨_, rfl⟩) pa_nil))))))
    (pss_one ps_never)
    pss_nil)), ?_⟩
  refine ⟨_, rfl, i, 0, some 120, rfl, _, rfl, ?_⟩
  rw [decide_eq_true ⟨h0, fun j h => by cases h; exact h1⟩]
  exact iteF q
/-! ### raw_price, price -/
def sp_raw_price (K : PySem.W.Frag) : Sp := fun vs H Q _ => ∃ (a : Addr) (ns : List Int) (i : Nat), vs = [.ref a, .int i] ∧ SqL K H a (ns.map V.int) ∧ ns.length ≤ 1000 ∧ ∀ H', Same H H' → Q (.int (price ns i)) H'
theorem G_raw_price (T : Top K mg) : FnOk P w K mg base CX0 1 T.f_raw_price T.fd_raw_price ["folds", "width"] (sp_raw_price K) := by
  refine T.F_raw_price.ok sc_raw_price (fun vs H Q E h => by obtain ⟨a, ns, i, rfl, _⟩ := h; rfl) (fun cdv A outer s H vs Q E hr h => ?_)
  obtain ⟨a, ns, i, rfl, hS, hl, q⟩ := h
  refine ⟨_, PSs.nox (pss_one (ps_ret (pe_op op_add (pe_op op_mul (pe_callB call_len_seq (by rfl) T.n_len (by decide +kernel) (pa_cons (pv 0) pa_nil)) (pe_op op_add (pv 1) pe_int)) (pe_callB (cr_sum rfl) (by rfl) T.n_sum (by decide +kernel) (pa_cons (pe_lc (own := [("unit", 2)]) (g := gName 2) (tt := tYes) (by rfl) sc_raw_price.nd (pi_list (pv 0)) (blkOk_by (own := [("unit", 2)]) (N := N_raw_price) (sc := defScope s_raw_price) (by decide +kernel)) (fun _ _ _ _ _ => (pg_name (i := 2) sc_raw_price.nd rfl (by first | exact Or.inl rfl | exact Or.inr rfl))) (fun _ _ _ _ _ => pts_nil) (fun _ _ _ _ _ => (pe_op op_shr (pv 2) (pv 1)))) pa_nil))))), ?_⟩
  have hlen : (ns.map V.int).length = ns.length := List.length_map ..
  refine ⟨_, rfl, a, _, rfl, .inl hS, _, rfl, _, _, rfl, rfl, _, _, rfl, rfl, .inl ⟨by rw [hlen]; omega, by rw [hlen]; omega⟩, ?_⟩
  refine ⟨_, rfl, a, rfl, ⟨_, hS⟩, fun D nD => ?_⟩
  refine lc_mapL (K := K) (xs := ns.map V.int) ((ns.map fun n => n / 2 ^ i).map V.int) nD hS (by simp) (by rw [hlen]; exact small1000 hl) (fun x => rfl) ?_ ?_
  · intro k x y H' hx hy s Qt qt
    obtain ⟨n, hn, rfl⟩ := int_at hx
    rw [List.getElem?_map, List.getElem?_map, hn] at hy
    cases hy
    exact ⟨_, rfl, _, rfl, _, _, rfl, rfl, Int.natCast_nonneg _, qt _ (Same.refl _)⟩
  · intro H' s hD
    refine ⟨D, _, rfl, .inl (.inl hD), _, _, rfl, rfl, ?_⟩
    show Q (.int ((((ns.map V.int).length : Nat) : Int) * ((i : Int) + 1) + (ns.map fun n => n / 2 ^ i).sum)) H'
    rw [hlen, price_raw]
    exact q _ s
/-- folds that the program may be asked -/
def FoldsAt (K : PySem.W.Frag) (H : Hp) (a : Addr) (ns : List Int) : Prop := Rd H a (.lst (ns.map V.int)) ∧ Folds ns ∧ ns.length ≤ 1000
theorem FoldsAt.sq {K : PySem.W.Frag} {H : Hp} {a : Addr} {ns : List Int} (h : FoldsAt K H a ns) : SqL K H a (ns.map V.int) := .inl h.1
theorem FoldsAt.same {K : PySem.W.Frag} {H H' : Hp} {a : Addr} {ns : List Int} (h : FoldsAt K H a ns) (s : Same H H') : FoldsAt K H' a ns := by
  obtain ⟨r, z⟩ := h
  refine ⟨?_, z⟩
  rcases r with r | ⟨o, r⟩
  · exact .inl (s _ _ r)
  · exact .inr ⟨o, s _ _ r⟩
def sp_price (K : PySem.W.Frag) : Sp := fun vs H Q _ => ∃ (a : Addr) (ns : List Int) (i : Nat), vs = [.ref a, .int i] ∧ FoldsAt K H a ns ∧ i ≤ 120 ∧ ∀ H', Same H H' → Q (.int (price ns i)) H'
theorem G_price (T : Top K mg) : FnOk P w K mg base CX0 4 T.f_price T.fd_price ["folds", "width"] (sp_price K) := by
  refine T.F_price.ok sc_price (fun vs H Q E h => by obtain ⟨a, ns, i, rfl, _⟩ := h; rfl) (fun cdv A outer s H vs Q E hr h => ?_)
  obtain ⟨a, ns, i, rfl, hA, hi, q⟩ := h
  refine ⟨_, PSs.nox (pss_cons (ps_expr (pe_call (G_check_folds T) (hr.mono (by decide)) (by rfl) T.g_check_folds T.F_check_folds.kp T.b_check_folds .nil pass0 (pa_cons (pv 0) pa_nil)))
  (pss_cons (ps_expr (pe_call (G_check_width T) (hr.mono (by decide)) (by rfl) T.g_check_width T.F_check_width.kp T.b_check_width .nil pass0 (pa_cons (pv 1) pa_nil)))
  (pss_one (ps_ret (pe_call (G_raw_price T) (hr.mono (by decide)) (by rfl) T.g_raw_price T.F_raw_price.kp T.b_raw_price .nil pass0 (pa_cons (pv 0) (pa_cons (pv 1) pa_nil))))))), ?_⟩
  refine ⟨_, rfl, a, ns, rfl, hA.sq, ⟨_, hA.1, _, rfl⟩, hA.2.1.nn, small1000 hA.2.2, fun H1 s1 => ?_⟩
  refine ⟨_, rfl, _, rfl, Int.natCast_nonneg _, by omega, ?_⟩
  exact ⟨_, rfl, _, rfl, a, ns, i, rfl, s1.seq hA.sq, hA.2.2, fun H2 s2 => q _ (s1.trans s2)⟩
/-! ### told_least, least_width -/
/-- the told tuple -/
def LeastV (ns : List Int) (xs : List V) : Prop := (ns = [] ∧ xs = [.int 0, .int 0, .non]) ∨ (ns ≠ [] ∧ ∃ (m : Int) (f l : Nat), IsLeast ns m f l ∧ xs = [.int m, .int f, .int l])
def sp_told_least (K : PySem.W.Frag) : Sp := fun vs H Q _ => ∃ (a : Addr) (ns : List Int), vs = [.ref a] ∧ FoldsAt K H a ns ∧ ∀ H' p xs, Same H H' → H' p = some (.tup xs) → LeastV ns xs → Q (.ref p) H'
theorem G_told_least (T : Top K mg) : FnOk P w K mg base CX0 2 T.f_told_least T.fd_told_least ["folds"] (sp_told_least K) := by
  refine T.F_told_least.ok sc_told_least (fun vs H Q E h => by obtain ⟨a, ns, rfl, _⟩ := h; rfl) (fun cdv A outer s H vs Q E hr h => ?_)
  obtain ⟨a, ns, rfl, hA, q⟩ := h
  refine ⟨_, PSs.nox (pss_cons (ps_if (pt_cmpR (op_eqD hr.units) (pv 0) (pe_lst pa_nil) (nomark _))
    (pss_one (ps_ret (pe_tup (pa_cons pe_int (pa_cons pe_int (pa_cons pe_non pa_nil))))))
    pss_nil)
  (pss_cons (ps_set (i := 1) sc_told_least.nd rfl (by first | exact Or.inl rfl | exact Or.inr rfl) pe_int)
  (pss_cons (ps_while PassesOwn.never (pt_cmpR op_gt (pe_callB (cr_sum rfl) (by rfl) T.n_sum (by decide +kernel) (pa_cons (pe_lc (own := [("unit", 4)]) (g := gName 4) (tt := tYes) (by rfl) sc_told_least.nd (pi_list (pv 0)) (blkOk_by (own := [("unit", 4)]) (N := N_told_least) (sc := defScope s_told_least) (by decide +kernel)) (fun _ _ _ _ _ => (pg_name (i := 4) sc_told_least.nd rfl (by first | exact Or.inl rfl | exact Or.inr rfl))) (fun _ _ _ _ _ => pts_nil) (fun _ _ _ _ _ => (pe_op op_shr (pe_op op_add (pv 4) (pe_op op_shl pe_int (pv 1))) (pe_op op_add (pv 1) pe_int)))) pa_nil)) (pe_callB call_len_seq (by rfl) T.n_len (by decide +kernel) (pa_cons (pv 0) pa_nil)) (nomark _))
    (pss_one (ps_set (i := 1) sc_told_least.nd rfl (by first | exact Or.inl rfl | exact Or.inr rfl) (pe_op op_add (pv 1) pe_int))))
  (pss_cons (ps_par (by rfl) sc_told_least.nd (i := 2) (j := 3) rfl rfl (by decide) rfl rfl (pa_cons (pv 1) (pa_cons (pe_call (G_raw_price T) (hr.mono (by decide)) (by rfl) T.g_raw_price T.F_raw_price.kp T.b_raw_price .nil pass0 (pa_cons (pv 0) (pa_cons (pv 1) pa_nil))) pa_nil)) (by rfl))
  (pss_cons (ps_while PassesOwn.never (pt_cmpR op_eq (pe_call (G_raw_price T) (hr.mono (by decide)) (by rfl) T.g_raw_price T.F_raw_price.kp T.b_raw_price .nil pass0 (pa_cons (pv 0) (pa_cons (pe_op op_add (pv 2) pe_int) pa_nil))) (pv 3) (nomark _))
    (pss_one (ps_set (i := 2) sc_told_least.nd rfl (by first | exact Or.inl rfl | exact Or.inr rfl) (pe_op op_add (pv 2) pe_int))))
  (pss_one (ps_ret (pe_tup (pa_cons (pv 3) (pa_cons (pv 1) (pa_cons (pv 2) pa_nil))))))))))), ?_⟩
  have hlen : (ns.map V.int).length = ns.length := List.length_map ..
  -- folds == []
  refine ⟨_, rfl, Nat.zero_le _, fun p np => ?_⟩
  have s1 : Same H (upd H p (.lst [])) := same_upd np
  generalize hH1 : upd H p (.lst []) = H1 at s1
  have hp : H1 p = some (.lst []) := by rw [← hH1]; exact upd_same
  refine ⟨.list (ns.map PyData.int), .list [], .lst (s1.seq hA.sq) (dp_ints ns), .lst (.inl (.inl hp)) .nil, ?_, by decide +kernel, _, rfl, ?_⟩
  · exact shaped_ints ns
  have eE : PyData.eqv (.list (ns.map PyData.int)) (.list []) = decide (ns = []) := by
    rw [PyData.eqv]
    exact eqv_ints ns []
  rw [eE]
  refine ite2 (fun e => ?_) (fun e => ?_)
  · have e0 : ns = [] := of_decide_eq_true e
    refine ⟨by decide, fun t nt => ?_⟩
    exact q _ t _ (s1.trans (same_upd nt)) upd_same (.inl ⟨e0, rfl⟩)
  · have ne : ns ≠ [] := fun z => e (decide_eq_true z)
    have hpos : 0 < ns.length := by cases ns with | nil => exact absurd rfl ne | cons _ _ => simp
    have hF := hA.2.1
    have c40 := cc_40 ns hF
    -- while: first
    refine ⟨fun m σ H2 => ∃ f : Nat, σ = [some (.ref a), some (.int f), none, none, none] ∧ m + f = 40 ∧ Same H H2 ∧ ∀ u, u < f → (ns.length : Int) < cc ns u, ⟨40, 0, rfl, rfl, s1, fun u hu => absurd hu (by omega)⟩, ?_⟩
    rintro m σ H2 ⟨f, rfl, hm, s2, hlo⟩
    have hA2 := hA.same s2
    refine ⟨_, rfl, a, rfl, ⟨_, hA2.sq⟩, fun D nD => ?_⟩
    refine lc_mapL (K := K) (xs := ns.map V.int) ((ns.map fun n => (n + 2 ^ f) / 2 ^ (f + 1)).map V.int) nD hA2.sq (by simp) (by rw [hlen]; exact small1000 hA.2.2) (fun x => rfl) ?_ ?_
    · intro k x y H' hx hy s Qt qt
      obtain ⟨n, hn, rfl⟩ := int_at hx
      rw [List.getElem?_map, List.getElem?_map, hn] at hy
      cases hy
      refine ⟨_, rfl, _, rfl, _, _, rfl, rfl, ⟨Int.natCast_nonneg _, by omega, by decide⟩, _, _, rfl, rfl, _, rfl, _, _, rfl, rfl, _, _, rfl, rfl, by omega, ?_⟩
      have e1 : V.int ((n + 1 * 2 ^ ((f : Int)).toNat) / 2 ^ ((f : Int) + 1).toNat) = V.int ((n + 2 ^ f) / 2 ^ (f + 1)) := by
        rw [show ((f : Int) + 1).toNat = f + 1 by omega, Int.toNat_natCast, Int.one_mul]
      show Qt (V.int ((n + 1 * 2 ^ ((f : Int)).toNat) / 2 ^ ((f : Int) + 1).toNat)) H'
      rw [e1]
      exact qt _ (Same.refl _)
    · intro H3 s3 hD
      refine ⟨D, _, rfl, .inl (.inl hD), _, rfl, a, _, rfl, .inl (s3.seq hA2.sq), _, _, rfl, rfl, _, rfl, ?_⟩
      rw [hlen]
      refine ite2 (fun c => ?_) (fun c => ?_)
      · have c1 : cc ns f > ns.length := of_decide_eq_true c
        have hf : f < 40 := by
          by_cases h : f < 40
          · exact h
          · have : f = 40 := by omega
            subst this
            omega
        refine ⟨fun σ' H' => ∃ f' : Nat, σ' = [some (.ref a), some (.int f'), none, none, none] ∧ f' = f + 1 ∧ Same H H', fun σ' H' ⟨f', e1, e2, e3⟩ => ⟨m - 1, by omega, f', e1, by omega, e3, fun u hu => ?_⟩, ?_⟩
        · by_cases h : u < f
          · exact hlo u h
          · have : u = f := by omega
            subst this
            exact c1
        · refine ⟨_, rfl, _, _, rfl, rfl, f + 1, ?_, rfl, s2.trans s3⟩
          show [some (V.ref a), some (.int ((f : Int) + 1)), none, none, none] = _
          rw [show ((f + 1 : Nat) : Int) = (f : Int) + 1 by omega]
      · have c1 : cc ns f ≤ ns.length := by
          have : ¬ cc ns f > ns.length := fun h => c (decide_eq_true h)
          omega
        have s4 := s2.trans s3
        have hA4 := hA.same s4
        -- last, least = first, raw_price(folds, first)
        refine ⟨_, rfl, _, rfl, _, rfl, a, ns, f, rfl, hA4.sq, hA.2.2, fun H5 s5 => ?_⟩
        refine ⟨_, _, rfl, ?_⟩
        -- while: last
        refine ⟨fun m σ H2 => ∃ l : Nat, σ = [some (.ref a), some (.int f), some (.int l), some (.int (price ns f)), none] ∧ m + l = 41 ∧ f ≤ l ∧ Same H H2 ∧ ∀ u, f ≤ u → u ≤ l → price ns u = price ns f, ⟨41 - f, f, rfl, by omega, Nat.le_refl _, s4.trans s5, fun u h1 h2 => by rw [show u = f by omega]⟩, ?_⟩
        rintro m σ H6 ⟨l, rfl, hm, hfl, s6, hat⟩
        refine ⟨_, rfl, _, rfl, _, _, rfl, rfl, a, ns, l + 1, rfl, (hA.same s6).sq, hA.2.2, fun H7 s7 => ?_⟩
        refine ⟨_, rfl, rfl, _, rfl, ite2 (fun c => ?_) (fun c => ?_)⟩
        · have c2 : price ns (l + 1) = price ns f := V.int.inj (of_decide_eq_true c)
          have hl : l < 41 := by
            by_cases h : l < 41
            · exact h
            · have : l = 41 := by omega
              subst this
              have e := price_step ns 41
              have h1 : cc ns 41 ≤ cc ns 40 := cc_le ns hF.nn 40 1
              have h2 := hat 41 hfl (Nat.le_refl _)
              omega
          refine ⟨fun σ' H' => ∃ l' : Nat, σ' = [some (.ref a), some (.int f), some (.int l'), some (.int (price ns f)), none] ∧ l' = l + 1 ∧ Same H H', fun σ' H' ⟨l', e1, e2, e3⟩ => ⟨m - 1, by omega, l', e1, by omega, by omega, e3, fun u h1 h2 => ?_⟩, ?_⟩
          · by_cases h : u ≤ l
            · exact hat u h1 h
            · rw [show u = l + 1 by omega]
              exact c2
          · refine ⟨_, rfl, _, _, rfl, rfl, l + 1, ?_, rfl, s6.trans s7⟩
            show [some (V.ref a), some (.int f), some (.int ((l : Int) + 1)), some (.int (price ns f)), none] = _
            rw [show ((l + 1 : Nat) : Int) = (l : Int) + 1 by omega]
        · have c2 : price ns (l + 1) ≠ price ns f := fun z => c (decide_eq_true (congrArg V.int z))
          refine ⟨_, rfl, _, rfl, _, rfl, (show 3 ≤ sizeLine by decide), fun t nt => ?_⟩
          exact q _ t _ ((s6.trans s7).trans (same_upd nt)) upd_same (.inr ⟨ne, _, f, l, My.told_least ns hF ne f l c1 hlo hfl hat c2, rfl⟩)
def sp_least_width (K : PySem.W.Frag) : Sp := sp_told_least K
theorem G_least_width (T : Top K mg) : FnOk P w K mg base CX0 4 T.f_least_width T.fd_least_width ["folds"] (sp_least_width K) := by
  refine T.F_least_width.ok sc_least_width (fun vs H Q E h => by obtain ⟨a, ns, rfl, _⟩ := h; rfl) (fun cdv A outer s H vs Q E hr h => ?_)
  obtain ⟨a, ns, rfl, hA, q⟩ := h
  refine ⟨_, PSs.nox (pss_cons (ps_expr (pe_call (G_check_folds T) (hr.mono (by decide)) (by rfl) T.g_check_folds T.F_check_folds.kp T.b_check_folds .nil pass0 (pa_cons (pv 0) pa_nil)))
  (pss_one (ps_ret (pe_call (G_told_least T) (hr.mono (by decide)) (by rfl) T.g_told_least T.F_told_least.kp T.b_told_least .nil pass0 (pa_cons (pv 0) pa_nil))))), ?_⟩
  refine ⟨_, rfl, a, ns, rfl, hA.sq, ⟨_, hA.1, _, rfl⟩, hA.2.1.nn, small1000 hA.2.2, fun H1 s1 => ?_⟩
  exact ⟨_, rfl, a, ns, rfl, hA.same s1, fun H2 p xs s2 hp hL => q _ _ _ (s1.trans s2) hp hL⟩
end
end My

set_option exponentiation.threshold 100000
namespace My
open PySem PySem.Spec PyProof.Rows L2 Pre
section
variable {P : Program} {w : World} {K : PySem.W.Frag} {mg : Str → Option Value} {base : Heap}
/-! ### the law's draws -/
/-- a generator: its count is at most n -/
def GenAt (H : Hp) (g : Addr) (n : Nat) : Prop := ∃ x y z : Int, H g = some (.lst [.int x, .int y, .int z]) ∧ 0 ≤ z ∧ z ≤ (n : Int)
/-- all but one thing stand as they stood -/
def But (g : Addr) (H H' : Hp) : Prop := ∀ b o, b ≠ g → H b = some o → H' b = some o
theorem But.refl {g : Addr} {H : Hp} : But g H H := fun _ _ _ h => h
theorem But.trans {g : Addr} {H H1 H2 : Hp} (a : But g H H1) (b : But g H1 H2) : But g H H2 := fun c o n h => b c o n (a c o n h)
theorem But.same {g : Addr} {H H1 H2 : Hp} (a : But g H H1) (b : Same H1 H2) : But g H H2 := fun c o n h => b c o (a c o n h)
theorem But.of {g : Addr} {H H1 : Hp} (b : Same H H1) : But g H H1 := fun c o _ h => b c o h
theorem But.upd {g : Addr} {H H1 : Hp} {o : HO} (a : But g H H1) : But g H (upd H1 g o) := fun c u n h => by
  rw [upd_ne n]
  exact a c u n h
theorem But.free {g : Addr} {H H1 : Hp} (a : But g H H1) {p : Addr} (n : p ≠ g) (h : H1 p = none) : H p = none := by
  cases e : H p with
  | none => rfl
  | some o => rw [a p o n e] at h; cases h
theorem GenAt.mono {H : Hp} {g : Addr} {n m : Nat} (h : GenAt H g n) (l : n ≤ m) : GenAt H g m := by
  obtain ⟨x, y, z, a, b, c⟩ := h
  exact ⟨x, y, z, a, b, by omega⟩
theorem GenAt.same {H H' : Hp} {g : Addr} {n : Nat} (h : GenAt H g n) (s : Same H H') : GenAt H' g n := by
  obtain ⟨x, y, z, a, b⟩ := h
  exact ⟨x, y, z, s _ _ a, b⟩
theorem GenAt.ne {H : Hp} {g : Addr} {n : Nat} {p : Addr} (h : GenAt H g n) (np : H p = none) : p ≠ g := by
  obtain ⟨x, y, z, a, _⟩ := h
  exact (ne_of_none a np).symm
def sp_law_cell (K : PySem.W.Frag) : Sp := fun vs H Q _ => ∃ (a : Addr) (ns : List Int) (i : Nat), vs = [.ref a, .int i] ∧ SqL K H a (ns.map V.int) ∧ ∀ (n : Int) H', Same H H' → Q (.int n) H'
theorem G_law_cell (T : Top K mg) : FnOk P w K mg base CX0 1 T.f_law_cell T.fd_law_cell ["_law_script", "_law_index"] (sp_law_cell K) := by
  refine T.F_law_cell.ok sc_law_cell (fun vs H Q E h => by obtain ⟨a, ns, i, rfl, _⟩ := h; rfl) (fun cdv A outer s H vs Q E hr h => ?_)
  obtain ⟨a, ns, i, rfl, hS, q⟩ := h
  refine ⟨_, PSs.nox (pss_cons (ps_if (pt_cmpR op_lt (pv 1) (pe_callB call_len_seq (by rfl) T.n_len (by decide +kernel) (pa_cons (pv 0) pa_nil)) (nomark _))
    (pss_one (ps_ret (pe_ix ix_list (pv 0) (pv 1) (fun _ _ => rfl))))
    pss_nil)
  (pss_one (ps_ret (pe_op op_mod (pe_callB (cr_sum rfl) (by rfl) T.n_sum (by decide +kernel) (pa_cons (pe_slice sl_list (pv 0) po_none (po_some pe_int)) pa_nil)) pe_int)))), ?_⟩
  refine ⟨_, rfl, _, rfl, a, _, rfl, .inl hS, _, _, rfl, rfl, _, rfl, ite2 (fun e => ?_) (fun e => ?_)⟩
  · have e1 : (i : Int) < (((ns.map V.int).length : Nat) : Int) := of_decide_eq_true e
    rw [List.length_map] at e1
    have hi : i < ns.length := by omega
    refine ⟨_, rfl, _, rfl, a, _, _, .int ns[i], rfl, rfl, hS, atI_nat (by rw [List.getElem?_map, List.getElem?_eq_getElem hi]; rfl), ?_⟩
    exact q _ _ (Same.refl _)
  · refine ⟨_, rfl, _, rfl, a, _, rfl, hS, fun p np => ?_⟩
    have ec : ∃ ms : List Int, cutV (ns.map V.int) none (some 1) = ms.map V.int := by
      unfold cutV
      exact ⟨(ns.drop (HT.sIx (ns.map V.int).length 0 none)).take (HT.sIx (ns.map V.int).length (ns.map V.int).length (some 1) - HT.sIx (ns.map V.int).length 0 none), by rw [List.map_take, List.map_drop]⟩
    obtain ⟨ms, em⟩ := ec
    refine ⟨p, ms, rfl, .inl (.inl (by rw [upd_same, em])), _, _, rfl, rfl, (by show (0 : Int) < 1000003; decide), ?_⟩
    exact q _ _ (same_upd np)
def sp_law_hash : Sp := fun vs H Q _ => ∃ i j : Int, vs = [.int i, .int j] ∧ 0 ≤ j ∧ j < 2 ^ 60 ∧ ∀ n : Int, Q (.int n) H
theorem G_law_hash (T : Top K mg) : FnOk P w K mg base CX0 1 T.f_law_hash T.fd_law_hash ["_law_seed", "_law_index"] sp_law_hash := by
  refine T.F_law_hash.ok sc_law_hash (fun vs H Q E h => by obtain ⟨i, j, rfl, _⟩ := h; rfl) (fun cdv A outer s H vs Q E hr h => ?_)
  obtain ⟨i, j, rfl, h0, h1, q⟩ := h
  refine ⟨_, PSs.nox (pss_cons (ps_set (i := 2) sc_law_hash.nd rfl (by first | exact Or.inl rfl | exact Or.inr rfl) (pe_op op_mod (pe_callTy call_int1 (by rfl) T.n_int (by decide +kernel) (pa_cons (pe_op op_add (pe_op op_add (pe_op op_add (pe_op op_mul (pv 0) pe_int) (pe_op op_mul (pe_op op_mul pe_int (pv 1)) (pv 1))) (pe_op op_mul pe_int (pv 1))) pe_int) pa_nil)) pe_int))
  (pss_cons (ps_set (i := 2) sc_law_hash.nd rfl (by first | exact Or.inl rfl | exact Or.inr rfl) (pe_op op_mod (pe_callTy call_int1 (by rfl) T.n_int (by decide +kernel) (pa_cons (pe_op op_add (pe_op op_add (pe_op op_mul (pv 2) (pv 2)) (pe_op op_mul pe_int (pv 1))) pe_int) pa_nil)) pe_int))
  (pss_one (ps_ret (pe_op op_mod (pe_callTy call_int1 (by rfl) T.n_int (by decide +kernel) (pa_cons (pe_op op_mul (pv 2) pe_int) pa_nil)) pe_int))))), ?_⟩
  refine ⟨_, rfl, _, _, rfl, rfl, .inr ⟨by decide, by decide⟩, _, rfl, _, _, rfl, rfl, .inl ⟨by decide, by decide⟩, _, rfl, _, _, rfl, rfl, .inr ⟨by omega, by omega⟩, _, _, rfl, rfl, _, rfl, _, _, rfl, rfl, .inl ⟨by decide, by decide⟩, _, _, rfl, rfl, _, _, rfl, rfl,
    .inl ⟨_, rfl, _, _, rfl, rfl, (by show (0 : Int) < _; decide), ?_⟩⟩
  generalize hm : (i * 1299709 + 104729 * j * j + 31 * j + 7) % 2147483629 = m
  have m0 : 0 ≤ m := by rw [← hm]; exact Int.emod_nonneg _ (by decide)
  have m1 : m < 2147483629 := by rw [← hm]; exact Int.emod_lt_of_pos _ (by decide)
  refine ⟨_, rfl, _, rfl, _, _, rfl, rfl, .inl ⟨by omega, by omega⟩, _, rfl, _, _, rfl, rfl, .inl ⟨by decide, by decide⟩, _, _, rfl, rfl, _, _, rfl, rfl, .inl ⟨_, rfl, _, _, rfl, rfl, (by show (0 : Int) < _; decide), ?_⟩⟩
  refine ⟨_, rfl, _, _, rfl, rfl, .inr ⟨by decide, by decide⟩, .inl ⟨_, rfl, _, _, rfl, rfl, (by show (0 : Int) < _; decide), ?_⟩⟩
  exact q _
def sp_law_generator (K : PySem.W.Frag) : Sp := fun vs H Q _ => ∃ (a : Addr) (ns : List Int) (i : Nat), vs = [.ref a, .int i] ∧ SqL K H a (ns.map V.int) ∧ ∀ H' g, Same H H' → H g = none → GenAt H' g (1000 * i) → Q (.ref g) H'
theorem G_law_generator (T : Top K mg) : FnOk P w K mg base CX0 2 T.f_law_generator T.fd_law_generator ["_law_script", "_law_index"] (sp_law_generator K) := by
  refine T.F_law_generator.ok sc_law_generator (fun vs H Q E h => by obtain ⟨a, ns, i, rfl, _⟩ := h; rfl) (fun cdv A outer s H vs Q E hr h => ?_)
  obtain ⟨a, ns, i, rfl, hS, q⟩ := h
  refine ⟨_, PSs.nox (pss_cons (ps_set (i := 2) sc_law_generator.nd rfl (by first | exact Or.inl rfl | exact Or.inr rfl) (pe_call (G_law_cell T) (hr.mono (by decide)) (by rfl) T.g_law_cell T.F_law_cell.kp T.b_law_cell .nil pass0 (pa_cons (pv 0) (pa_cons (pv 1) pa_nil))))
  (pss_one (ps_ret (pe_lst (pa_cons (pe_op op_mod (pe_callTy call_int1 (by rfl) T.n_int (by decide +kernel) (pa_cons (pe_callB (call_max2 rfl) (by rfl) T.n_max (by decide +kernel) (pa_cons (pe_op op_sub (pv 2) (pe_op op_powW pe_int pe_int)) (pa_cons pe_int pa_nil))) pa_nil)) (pe_op op_powW (pe_op op_powW pe_int pe_int) pe_int)) (pa_cons (pe_op op_mod (pe_callTy call_int1 (by rfl) T.n_int (by decide +kernel) (pa_cons (pv 2) pa_nil)) pe_int) (pa_cons (pe_op op_mul pe_int (pv 1)) pa_nil))))))), ?_⟩
  refine ⟨_, rfl, _, rfl, a, ns, i, rfl, hS, fun n H1 s1 => ?_⟩
  refine ⟨_, rfl, _, _, rfl, rfl, ⟨by decide, by decide +kernel⟩, _, _, rfl, rfl, _, _, rfl, .inl ⟨_, rfl, _, _, rfl, rfl, ⟨by decide, by decide +kernel⟩, _, _, rfl, rfl, ⟨by decide, by decide +kernel⟩, _, _, rfl, rfl, (by show (0 : Int) < _; decide +kernel), ?_⟩⟩
  refine ⟨_, rfl, .inl ⟨_, rfl, _, _, rfl, rfl, (by show (0 : Int) < _; decide), ?_⟩⟩
  refine ⟨_, rfl, _, _, rfl, rfl, .inl ⟨by decide, by decide⟩, (show 3 ≤ sizeLine by decide), fun g ng => ?_⟩
  exact q _ g (s1.trans (same_upd ng)) (s1.free ng) ⟨_, _, _, upd_same, by omega, by omega⟩
def sp_law_random : Sp := fun vs H Q _ => ∃ (g : Addr) (b : Int) (n : Nat), vs = [.ref g, .int b] ∧ GenAt H g n ∧ n ≤ 10 ^ 12 ∧ 0 < b ∧ b < 2 ^ 2900 ∧ ∀ (d : Int) H', 0 ≤ d → d < b → GenAt H' g (n + 100) → But g H H' → Q (.int d) H'
theorem G_law_random (T : Top K mg) : FnOk P w K mg base CX0 2 T.f_law_random T.fd_law_random ["_law_generator_here", "_law_bound"] sp_law_random := by
  refine T.F_law_random.ok sc_law_random (fun vs H Q E h => by obtain ⟨g, b, n, rfl, _⟩ := h; rfl) (fun cdv A outer s H vs Q E hr h => ?_)
  obtain ⟨g, b, n, rfl, ⟨x, y, z, hg, z0, z1⟩, hn, b0, b1, q⟩ := h
  refine ⟨_, PSs.nox (pss_cons (ps_if (pt_cmpR op_gt (pe_ix ix_list (pv 0) pe_int (fun _ _ => rfl)) pe_int (nomark _))
    (pss_cons (ps_set (i := 2) sc_law_random.nd rfl (by first | exact Or.inl rfl | exact Or.inr rfl) (pe_op op_mod (pe_callTy call_int1 (by rfl) T.n_int (by decide +kernel) (pa_cons (pe_ix ix_list (pv 0) pe_int (fun _ _ => rfl)) pa_nil)) (pv 1)))
  (pss_cons (ps_asg (pe_op op_fdivW (pe_ix ix_list (pv 0) pe_int (fun _ _ => rfl)) (pv 1)) (pg_sub (pv 0) pe_int set_list))
  (pss_one (ps_ret (pv 2)))))
    pss_nil)
  (pss_cons (ps_set (i := 2) sc_law_random.nd rfl (by first | exact Or.inl rfl | exact Or.inr rfl) pe_int)
  (pss_cons (ps_for PassesOwn.never rfl (pi_range1 (by rfl) T.n_range (pa_cons (pe_op op_add pe_int (pe_op op_fdivW (pe_bits (pv 1)) pe_int)) pa_nil)) (pg_name (i := 3) sc_law_random.nd rfl (by first | exact Or.inl rfl | exact Or.inr rfl))
    (pss_cons (ps_asg (pe_op op_add (pe_ix ix_list (pv 0) pe_int (fun _ _ => rfl)) pe_int) (pg_sub (pv 0) pe_int set_list))
  (pss_one (ps_set (i := 2) sc_law_random.nd rfl (by first | exact Or.inl rfl | exact Or.inr rfl) (pe_op op_add (pe_op op_mul (pv 2) pe_int) (pe_call (G_law_hash T) (hr.mono (by decide)) (by rfl) T.g_law_hash T.F_law_hash.kp T.b_law_hash .nil pass0 (pa_cons (pe_ix ix_list (pv 0) pe_int (fun _ _ => rfl)) (pa_cons (pe_ix ix_list (pv 0) pe_int (fun _ _ => rfl)) pa_nil))))))))
  (pss_one (ps_ret (pe_op op_mod (pe_callTy call_int1 (by rfl) T.n_int (by decide +kernel) (pa_cons (pv 2) pa_nil)) (pv 1))))))), ?_⟩
  have a0 : ∀ x y z : Int, atI [V.int x, .int y, .int z] 0 = some (.int x) := fun _ _ _ => rfl
  have a1 : ∀ x y z : Int, atI [V.int x, .int y, .int z] 1 = some (.int y) := fun _ _ _ => rfl
  have a2 : ∀ x y z : Int, atI [V.int x, .int y, .int z] 2 = some (.int z) := fun _ _ _ => rfl
  have hS : SqL K H g [.int x, .int y, .int z] := .inl (.inl hg)
  have nb : b.natAbs < 2 ^ 2900 := by
    have e : ((b.natAbs : Nat) : Int) < ((2 ^ 2900 : Nat) : Int) := by
      rw [Int.natCast_pow]
      omega
    exact Int.ofNat_lt.mp e
  refine ⟨_, rfl, g, _, 0, _, rfl, rfl, hS, a0 x y z, _, _, rfl, rfl, _, rfl, ite2 (fun e => ?_) (fun e => ?_)⟩
  · refine ⟨_, rfl, g, _, 0, _, rfl, rfl, hS, a0 x y z, .inl ⟨_, rfl, _, rfl, _, _, rfl, rfl, b0, ?_⟩⟩
    refine ⟨_, rfl, g, _, 0, _, rfl, rfl, hS, a0 x y z, _, rfl, _, _, rfl, rfl, wide_div b0 nb (by decide) (by decide), _, rfl, g, _, 0, 0, rfl, rfl, hg, rfl, _, rfl, ?_⟩
    exact q _ _ (Int.emod_nonneg _ (by omega)) (Int.emod_lt_of_pos _ b0) ⟨_, _, _, upd_same, z0, by omega⟩ (But.upd But.refl)
  · have hb : Builtin.Int.intBits b ≤ 2900 := PyProof.Rows.intBits_le nb
    have hq0 : (0 : Int) ≤ ((Builtin.Int.intBits b : Nat) : Int) / 30 := Int.ediv_nonneg (Int.natCast_nonneg _) (by decide)
    have hq1 : ((Builtin.Int.intBits b : Nat) : Int) / 30 ≤ 97 := by omega
    refine ⟨_, rfl, _, rfl, _, _, rfl, rfl, ⟨by decide, by decide +kernel⟩, _, _, rfl, rfl, _, rfl, by omega, by omega, ?_⟩
    refine for_range (lo := 0) (n := (1 + ((Builtin.Int.intBits b : Nat) : Int) / 30).toNat) (fun i σ H1 => ∃ (d z' : Int) (v : Option V), σ = [some (.ref g), some (.int b), some (.int d), v] ∧ H1 g = some (.lst [.int x, .int y, .int z']) ∧ 0 ≤ z' ∧ z' ≤ (n : Int) + (i : Int) ∧ But g H H1)
      ⟨0, z, none, rfl, hg, z0, by omega, But.refl⟩ ?_ ?_
    · rintro i σ H1 hi ⟨d, z', v, rfl, hg1, y0, y1, b1⟩
      have hS1 : SqL K H1 g [.int x, .int y, .int z'] := .inl (.inl hg1)
      refine ⟨_, rfl, g, _, 2, _, rfl, rfl, hS1, a2 x y z', _, _, rfl, rfl, _, rfl, g, _, 2, 2, rfl, rfl, hg1, rfl, ?_⟩
      have hS2 : SqL K (upd H1 g (.lst [.int x, .int y, .int (z' + 1)])) g [.int x, .int y, .int (z' + 1)] := .inl (.inl upd_same)
      refine ⟨_, rfl, _, _, rfl, rfl, .inr ⟨by decide, by decide⟩, _, rfl, g, _, 1, _, rfl, rfl, hS2, a1 _ _ _, _, rfl, g, _, 2, _, rfl, rfl, hS2, a2 _ _ _, _, _, rfl, by omega, by omega, fun r => ?_⟩
      exact ⟨_, _, rfl, rfl, _, z' + 1, _, rfl, upd_same, by omega, by omega, But.upd b1⟩
    · rintro σ H1 ⟨d, z', v, rfl, hg1, y0, y1, b1⟩
      refine ⟨_, rfl, .inl ⟨_, rfl, _, rfl, _, _, rfl, rfl, b0, ?_⟩⟩
      exact q _ _ (Int.emod_nonneg _ (by omega)) (Int.emod_lt_of_pos _ b0) ⟨_, _, _, hg1, y0, by omega⟩ b1
end
end My

namespace My
open PySem PySem.Spec PyProof.Rows L2 Pre
section
variable {P : Program} {w : World} {K : PySem.W.Frag} {mg : Str → Option Value} {base : Heap}
/-! ### the law's own reckoning -/
theorem two_pow_wide (i : Nat) (h : i ≤ 1000) (x : Int) : CDivW x (1 * 2 ^ ((i : Int)).toNat) := by
  rw [Int.toNat_natCast, Int.one_mul]
  refine wide_div (pow_pos' i) (b := i + 1) ?_ (by omega) (by omega)
  rw [Int.natAbs_pow]
  exact Nat.pow_lt_pow_succ (by decide)
theorem price_take {ns : List Int} {i : Nat} {n : Int} (h : ns[i]? = some n) (k : Nat) : price (ns.take (i + 1)) k = price (ns.take i) k + n / 2 ^ k + 1 + k := by
  rw [List.take_add_one, h, price_app]
  unfold price
  simp
  omega
def sp_law_price (K : PySem.W.Frag) : Sp := fun vs H Q _ => ∃ (a : Addr) (ns : List Int) (i : Nat), vs = [.ref a, .int i] ∧ SqL K H a (ns.map V.int) ∧ i ≤ 1000 ∧ Q (.int (price ns i)) H
theorem G_law_price (T : Top K mg) : FnOk P w K mg base CX0 1 T.f_law_price T.fd_law_price ["_law_folds_here", "_law_width"] (sp_law_price K) := by
  refine T.F_law_price.ok sc_law_price (fun vs H Q E h => by obtain ⟨a, ns, i, rfl, _⟩ := h; rfl) (fun cdv A outer s H vs Q E hr h => ?_)
  obtain ⟨a, ns, i, rfl, hS, hi, q⟩ := h
  refine ⟨_, PSs.nox (pss_cons (ps_set (i := 2) sc_law_price.nd rfl (by first | exact Or.inl rfl | exact Or.inr rfl) pe_int)
  (pss_cons (ps_for PassesOwn.never rfl (pi_list (pv 0)) (pg_name (i := 3) sc_law_price.nd rfl (by first | exact Or.inl rfl | exact Or.inr rfl))
    (pss_one (ps_set (i := 2) sc_law_price.nd rfl (by first | exact Or.inl rfl | exact Or.inr rfl) (pe_op op_add (pe_op op_add (pe_op op_add (pv 2) (pe_op op_fdivW (pv 3) (pe_op op_shl pe_int (pv 1)))) pe_int) (pv 1)))))
  (pss_one (ps_ret (pv 2))))), ?_⟩
  refine ⟨_, rfl, a, rfl, ⟨_, hS⟩, for_list (K := K) (a := a) (xs := ns.map V.int) (fun k σ H2 => ∃ v, σ = [some (.ref a), some (.int i), some (.int (price (ns.take k) i)), v] ∧ H2 = H) ⟨none, rfl, rfl⟩ (fun k σ H2 _ ⟨_, _, e⟩ => by rw [e]; exact hS) ?_ ?_⟩
  · rintro k x σ H2 hx ⟨v, rfl, rfl⟩
    obtain ⟨n, hn, rfl⟩ := int_at hx
    refine ⟨_, rfl, _, rfl, _, rfl, _, _, rfl, rfl, ⟨Int.natCast_nonneg _, by omega, by decide⟩, _, _, rfl, rfl, two_pow_wide i hi n, _, _, rfl, rfl, _, _, rfl, rfl, _, rfl, _, _, rfl, rfl, ?_⟩
    refine ⟨some (.int n), ?_, rfl⟩
    rw [price_take hn]
    show [some (V.ref a), some (.int i), some (.int (price (ns.take k) i + n / (1 * 2 ^ ((i : Int)).toNat) + 1 + i)), some (.int n)] = _
    rw [Int.toNat_natCast, Int.one_mul]
  · rintro σ H2 ⟨v, rfl, rfl⟩
    rw [List.length_map, List.take_length]
    exact ⟨_, rfl, q⟩
def sp_law_least (K : PySem.W.Frag) : Sp := sp_told_least K
theorem range_ints (f : Nat → Int) (n : Nat) : ((List.range n).map fun i => V.int (f i)) = ((List.range n).map f).map V.int := by rw [List.map_map]; rfl
theorem G_law_least (T : Top K mg) : FnOk P w K mg base CX0 2 T.f_law_least T.fd_law_least ["_law_folds_here"] (sp_law_least K) := by
  refine T.F_law_least.ok sc_law_least (fun vs H Q E h => by obtain ⟨a, ns, rfl, _⟩ := h; rfl) (fun cdv A outer s H vs Q E hr h => ?_)
  obtain ⟨a, ns, rfl, hA, q⟩ := h
  refine ⟨_, PSs.nox (pss_cons (ps_set (i := 1) sc_law_least.nd rfl (Or.inr rfl) (pe_lc (own := [("_law_width", 3)]) (g := gName 3) (tt := tYes) (by rfl) sc_law_least.nd (pi_range1 (by rfl) T.n_range (pa_cons pe_int pa_nil)) (blkOk_by (own := [("_law_width", 3)]) (N := N_law_least) (sc := defScope s_law_least) (by decide +kernel)) (fun _ _ _ _ _ => (pg_name (i := 3) sc_law_least.nd rfl (by first | exact Or.inl rfl | exact Or.inr rfl))) (fun _ _ _ _ _ => pts_nil) (fun _ _ _ _ _ => (pe_call (G_law_price T) (hr.mono (by decide)) (by rfl) T.g_law_price T.F_law_price.kp T.b_law_price .nil pass0 (pa_cons (pv 0) (pa_cons (pv 3) pa_nil))))))
  (pss_cons (ps_setLc (i := 2) (own := [("_law_width", 3)]) (g := gName 3) (by rfl) sc_law_least.nd rfl rfl (sw_true rfl rfl rfl (by decide +kernel)) (pi_range1 (by rfl) T.n_range (pa_cons pe_int pa_nil)) (blkOk_by (own := [("_law_width", 3)]) (N := N_law_least) (sc := defScope s_law_least) (by decide +kernel)) (fun _ _ _ _ _ => (pg_name (i := 3) sc_law_least.nd rfl (by first | exact Or.inl rfl | exact Or.inr rfl))) (fun _ _ _ _ _ => (pts_one (pt_cmpR op_eq (pe_ix (k_ixL K rfl) (pv 1) (pv 3) (fun _ _ => rfl)) (pe_callB (k_min K rfl rfl) (by rfl) T.n_min (by decide +kernel) (pa_cons (pv 1) pa_nil)) (nomark _)))) (fun _ _ _ _ _ => (pv 3)))
  (pss_one (ps_ret (pe_ifExp (pt_cmpR (op_neD hr.units) (pv 0) (pe_lst pa_nil) (nomark _)) (pe_tup (pa_cons (pe_callB (k_min K rfl rfl) (by rfl) T.n_min (by decide +kernel) (pa_cons (pv 1) pa_nil)) (pa_cons (pe_ix (k_ixL K rfl) (pv 2) pe_int (fun _ _ => rfl)) (pa_cons (pe_ix (k_ixL K rfl) (pv 2) (pe_un un_neg pe_int) (fun _ _ => rfl)) pa_nil)))) (pe_tup (pa_cons pe_int (pa_cons pe_int (pa_cons pe_non pa_nil))))))))), ?_⟩
  -- the prices
  refine ⟨_, rfl, by decide, by decide, fun D nD => ?_⟩
  refine lc_mapR (lo := 0) (n := 45) (((List.range 45).map (price ns)).map V.int) nD (by simp) (by decide) (fun x => rfl) ?_ ?_
  · intro i y H' hi hy s Qt qt
    rw [List.getElem?_map, List.getElem?_map, List.getElem?_range hi] at hy
    cases hy
    refine ⟨_, rfl, _, rfl, a, ns, i, ?_, s.seq hA.sq, by omega, qt _ (Same.refl _)⟩
    show [V.ref a, V.int (0 + (i : Int))] = _
    rw [Int.zero_add]
  intro H1 s1 hD
  -- the least of them
  have hm : ∃ m ∈ (List.range 45).map (price ns), ∀ y ∈ (List.range 45).map (price ns), m ≤ y := by
    have key : ∀ l : List Int, l ≠ [] → ∃ m ∈ l, ∀ y ∈ l, m ≤ y := fun l => by
      induction l with
      | nil => exact fun h => absurd rfl h
      | cons z r ih =>
        intro _
        cases r with
        | nil => exact ⟨z, List.mem_cons_self, fun y hy => by rw [List.mem_singleton.mp hy]; exact Int.le_refl _⟩
        | cons z' r' =>
          obtain ⟨m, h1, h2⟩ := ih (List.cons_ne_nil _ _)
          by_cases c : z ≤ m
          · refine ⟨z, List.mem_cons_self, fun y hy => ?_⟩
            rcases List.mem_cons.mp hy with rfl | hy
            · exact Int.le_refl _
            · exact Int.le_trans c (h2 y hy)
          · refine ⟨m, List.mem_cons_of_mem _ h1, fun y hy => ?_⟩
            rcases List.mem_cons.mp hy with rfl | hy
            · omega
            · exact h2 y hy
    exact key _ (by simp)
  obtain ⟨m, m1, m2⟩ := hm
  have mu : ∀ m', m' ∈ (List.range 45).map (price ns) → (∀ y ∈ (List.range 45).map (price ns), m' ≤ y) → m' = m := fun m' a b => by
    have := b m m1
    have := m2 m' a
    omega
  refine ⟨_, rfl, by decide, by decide, fun D2 nD2 => ?_⟩
  refine lc_selR (lo := 0) (n := 45) ((List.range 45).map fun i => if price ns i = m then some (V.int (i : Nat)) else none) nD2 (by simp) (by decide) (fun x => rfl) ?_ ?_
  · intro i o H' hi ho s Qt qt
    rw [List.getElem?_map, List.getElem?_range hi] at ho
    have hP : SqL K H' D (((List.range 45).map (price ns)).map V.int) := .inl (.inl (s _ _ hD))
    refine ⟨_, rfl, _, rfl, D, _, _, .int (price ns i), rfl, rfl, hP, at_of (j := i) (by omega) (by rw [List.getElem?_map, List.getElem?_map, List.getElem?_range hi]; rfl), _, rfl, D, _, rfl, hP, by simp, fun m' a b => ?_⟩
    rw [mu m' a b]
    refine ⟨rfl, _, rfl, ?_⟩
    have ho : (if price ns i = m then some (V.int (i : Nat)) else none) = o := Option.some.inj ho
    by_cases c : price ns i = m
    · rw [c, decide_eq_true rfl]
      rw [if_pos c] at ho
      refine iteT ⟨_, rfl, ?_⟩
      show Qt (some (.int (0 + (i : Int)))) H'
      rw [Int.zero_add, ho]
      exact qt _ (Same.refl _)
    · rw [decide_eq_false (fun z => c (V.int.inj z))]
      rw [if_neg c] at ho
      rw [← ho] at qt
      exact iteF (qt _ (Same.refl _))
  intro H2 s2 hD2
  have s12 := s1.trans s2
  refine ⟨_, rfl, Nat.zero_le _, fun p np => ?_⟩
  have s3 : Same H2 (upd H2 p (.lst [])) := same_upd np
  generalize hH3 : upd H2 p (.lst []) = H3 at s3
  have hp : H3 p = some (.lst []) := by rw [← hH3]; exact upd_same
  have eE : PyData.eqv (.list (ns.map PyData.int)) (.list []) = decide (ns = []) := by
    rw [PyData.eqv]
    exact eqv_ints ns []
  refine ⟨.list (ns.map PyData.int), .list [], .lst ((s12.trans s3).seq hA.sq) (dp_ints ns), .lst (.inl (.inl hp)) .nil, shaped_ints ns, by decide +kernel, _, rfl, ?_⟩
  rw [eE]
  by_cases ne : ns = []
  · rw [decide_eq_true ne]
    refine iteF ⟨by decide, fun t nt => ?_⟩
    exact q _ t _ ((s12.trans s3).trans (same_upd nt)) upd_same (.inl ⟨ne, rfl⟩)
  · rw [decide_eq_false ne]
    obtain ⟨m0, f, l, hL⟩ := least_is ns hA.2.1 ne
    obtain ⟨e1, e2⟩ := My.law_least ns m0 f l hL m m1 m2
    have hP3 : SqL K H3 D (((List.range 45).map (price ns)).map V.int) := .inl (.inl (s3 _ _ (s2 _ _ hD)))
    have hW : (((List.range 45).map fun i => if price ns i = m then some (V.int (i : Nat)) else none).filterMap id) = ((List.range (l + 1 - f)).map (fun d => f + d)).map fun (i : Nat) => V.int (i : Int) := by
      rw [← e2, List.filterMap_map]
      have key : ∀ L : List Nat, List.filterMap (id ∘ fun i => if price ns i = m then some (V.int (i : Nat)) else none) L = (L.filter fun w => decide (price ns w = m)).map fun (i : Nat) => V.int (i : Int) := fun L => by
        induction L with
        | nil => rfl
        | cons z r ih =>
          by_cases c : price ns z = m
          · rw [List.filterMap_cons_some (b := V.int (z : Nat)) (by simp [c]), List.filter_cons_of_pos (by simpa using c), List.map_cons, ih]
          · rw [List.filterMap_cons_none (by simp [c]), List.filter_cons_of_neg (by simpa using c), ih]
      exact key _
    rw [hW] at hD2
    have hW3 : SqL K H3 D2 (((List.range (l + 1 - f)).map (fun d => f + d)).map fun (i : Nat) => V.int (i : Int)) := .inl (.inl (s3 _ _ hD2))
    have hfl := hL.fl
    have w0 : atI (((List.range (l + 1 - f)).map (fun d => f + d)).map fun (i : Nat) => V.int (i : Int)) 0 = some (.int f) := by
      refine at_of (j := 0) rfl ?_
      rw [List.getElem?_map, List.getElem?_map, List.getElem?_range (by omega)]
      rfl
    have w1 : atI (((List.range (l + 1 - f)).map (fun d => f + d)).map fun (i : Nat) => V.int (i : Int)) (-1) = some (.int l) := by
      rw [show l + 1 - f = (l - f) + 1 by omega, List.range_succ, List.map_append, List.map_append]
      show atI (_ ++ [V.int ((f + (l - f) : Nat) : Int)]) (-1) = _
      rw [atI_last, show f + (l - f) = l by omega]
    refine iteT ⟨_, rfl, D, _, rfl, hP3, by simp, fun m' a b => ?_⟩
    rw [mu m' a b]
    refine ⟨_, rfl, D2, _, 0, _, rfl, rfl, hW3, w0, _, rfl, 1, rfl, D2, _, -1, _, rfl, rfl, hW3, w1, (show 3 ≤ sizeLine by decide), fun t nt => ?_⟩
    rw [e1]
    exact q _ t _ ((s12.trans s3).trans (same_upd nt)) upd_same (.inr ⟨ne, m0, f, l, hL, rfl⟩)
end
end My

set_option exponentiation.threshold 100000
namespace My
open PySem PySem.Spec PyProof.Rows L2 Pre
theorem pow2_le {k m : Nat} (h : k ≤ m) : (2 : Int) ^ k ≤ 2 ^ m := by
  have e := Nat.pow_le_pow_right (show 0 < 2 by decide) h
  have e2 : ((2 ^ k : Nat) : Int) ≤ ((2 ^ m : Nat) : Int) := Int.ofNat_le.mpr e
  rw [Int.natCast_pow, Int.natCast_pow] at e2
  exact e2
theorem small_2900 {b : Int} (h : b ≤ 2 ^ 60) : b < 2 ^ 2900 := by omega
section
variable {P : Program} {w : World} {K : PySem.W.Frag} {mg : Str → Option Value} {base : Heap}
def sp_law_folds : Sp := fun vs H Q _ => ∃ (g : Addr) (m : Int) (n : Nat), vs = [.ref g, .int m] ∧ GenAt H g n ∧ n ≤ 10 ^ 9 ∧ 0 ≤ m ∧ m ≤ 100 ∧
  ∀ H' p ns, But g H H' → H p = none → H' p = some (.lst (ns.map V.int)) → GenAt H' g (n + 100000) → Folds ns → ns.length ≤ 100 → Q (.ref p) H'
theorem G_law_folds (T : Top K mg) : FnOk P w K mg base CX0 3 T.f_law_folds T.fd_law_folds ["_law_generator_here", "_law_most"] sp_law_folds := by
  refine T.F_law_folds.ok sc_law_folds (fun vs H Q E h => by obtain ⟨g, m, n, rfl, _⟩ := h; rfl) (fun cdv A outer s H vs Q E hr h => ?_)
  obtain ⟨g, m, n, rfl, hG, hn, m0, m1, q⟩ := h
  refine ⟨_, PSs.nox (pss_cons (ps_par (by rfl) sc_law_folds.nd (i := 3) (j := 4) rfl rfl (by decide) rfl rfl (pa_cons (pe_lst pa_nil) (pa_cons (pe_call (G_law_random T) (hr.mono (by decide)) (by rfl) T.g_law_random T.F_law_random.kp T.b_law_random .nil pass0 (pa_cons (pv 0) (pa_cons pe_int pa_nil))) pa_nil)) (by rfl))
  (pss_cons (ps_for PassesOwn.never rfl (pi_range1 (by rfl) T.n_range (pa_cons (pe_call (G_law_random T) (hr.mono (by decide)) (by rfl) T.g_law_random T.F_law_random.kp T.b_law_random .nil pass0 (pa_cons (pv 0) (pa_cons (pe_op op_add (pv 1) pe_int) pa_nil))) pa_nil)) (pg_name (i := 2) sc_law_folds.nd rfl (by first | exact Or.inl rfl | exact Or.inr rfl))
    (pss_cons (ps_par (by rfl) sc_law_folds.nd (i := 6) (j := 7) rfl rfl (by decide) rfl rfl (pa_cons (pe_call (G_law_random T) (hr.mono (by decide)) (by rfl) T.g_law_random T.F_law_random.kp T.b_law_random .nil pass0 (pa_cons (pv 0) (pa_cons pe_int pa_nil))) (pa_cons (pe_call (G_law_random T) (hr.mono (by decide)) (by rfl) T.g_law_random T.F_law_random.kp T.b_law_random .nil pass0 (pa_cons (pv 0) (pa_cons pe_int pa_nil))) pa_nil)) (by rfl))
  (pss_cons (ps_set (i := 5) sc_law_folds.nd rfl (by first | exact Or.inl rfl | exact Or.inr rfl) (pe_op op_sub (pe_op op_add (pe_op op_shl pe_int (pe_call (G_law_random T) (hr.mono (by decide)) (by rfl) T.g_law_random T.F_law_random.kp T.b_law_random .nil pass0 (pa_cons (pv 0) (pa_cons pe_int pa_nil)))) (pe_call (G_law_random T) (hr.mono (by decide)) (by rfl) T.g_law_random T.F_law_random.kp T.b_law_random .nil pass0 (pa_cons (pv 0) (pa_cons pe_int pa_nil)))) pe_int))
  (pss_one (ps_expr (pe_bm PySem.F.plainAttrs_list PySem.F.slot_list_append PySem.F.type_list_append mt_append (pv 3) (pa_cons (pe_ix (k_ixL K rfl) (pe_lst (pa_cons (pv 6) (pa_cons (pv 6) (pa_cons (pe_call (G_law_random T) (hr.mono (by decide)) (by rfl) T.g_law_random T.F_law_random.kp T.b_law_random .nil pass0 (pa_cons (pv 0) (pa_cons (pe_op op_shl pe_int (pv 7)) pa_nil))) (pa_cons (pv 5) (pa_cons (pe_op op_mul (pv 6) (pe_callTy call_int1 (by rfl) T.n_int (by decide +kernel) (pa_cons (pe_cmpR op_lt (pv 7) pe_int (nomark _)) pa_nil))) pa_nil)))))) (pv 4) (fun _ _ => rfl)) pa_nil)))))))
  (pss_one (ps_ret (pv 3))))), ?_⟩
  refine ⟨Nat.zero_le _, fun p np => ?_⟩
  have npg : p ≠ g := hG.ne np
  have s0 : Same H (upd H p (.lst [])) := same_upd np
  refine ⟨_, rfl, g, _, n, rfl, hG.same s0, by omega, by decide, small_2900 (by decide), fun kd H1 k0 k1 g1 b1 => ?_⟩
  have hp1 : H1 p = some (.lst []) := b1 _ _ npg upd_same
  have b1' : But g H H1 := fun b o z h => b1 b o z (s0 _ _ h)
  refine ⟨_, _, rfl, ?_⟩
  refine ⟨_, rfl, _, rfl, _, _, rfl, rfl, g, _, n + 100, rfl, g1, by omega, by omega, small_2900 (by omega), fun tn H2 t0 t1 g2 b2 => ?_⟩
  refine ⟨_, rfl, by omega, by omega, ?_⟩
  refine for_range (lo := 0) (n := tn.toNat) (fun i σ H3 => ∃ (v2 v5 v6 v7 : Option V) (ns : List Int), σ = [some (.ref g), some (.int m), v2, some (.ref p), some (.int kd), v5, v6, v7] ∧ But g H H3 ∧ H3 p = some (.lst (ns.map V.int)) ∧ Folds ns ∧ ns.length = i ∧ GenAt H3 g (n + 200 + 500 * i))
    ⟨none, none, none, none, [], rfl, b1'.trans b2, b2 _ _ npg hp1, fun _ h => (nomatch h), rfl, g2⟩ ?_ ?_
  · rintro i σ H3 hi ⟨v2, v5, v6, v7, ns, rfl, b3, hp3, hF, hl, g3⟩
    have hi' : i ≤ 100 := by omega
    -- small, deep
    refine ⟨_, rfl, g, _, _, rfl, g3, by omega, by decide, small_2900 (by decide), fun sm H4 sm0 sm1 g4 b4 => ?_⟩
    refine ⟨_, rfl, g, _, _, rfl, g4, by omega, by decide, small_2900 (by decide), fun de H5 de0 de1 g5 b5 => ?_⟩
    refine ⟨_, _, rfl, ?_⟩
    -- far
    refine ⟨_, rfl, g, _, _, rfl, g5, by omega, by decide, small_2900 (by decide), fun fr H6 fr0 fr1 g6 b6 => ?_⟩
    refine ⟨_, _, rfl, rfl, ⟨fr0, by omega, by decide⟩, _, rfl, g, _, _, rfl, g6, by omega, by decide, small_2900 (by decide), fun th H7 th0 th1 g7 b7 => ?_⟩
    refine ⟨_, _, rfl, rfl, _, _, rfl, rfl, ?_⟩
    have hfar0 : (0 : Int) < 2 ^ fr.toNat := pow_pos' _
    have hfar1 : (2 : Int) ^ fr.toNat ≤ 2 ^ 38 := pow2_le (by omega)
    have hde1 : (2 : Int) ^ de.toNat ≤ 2 ^ 12 := pow2_le (by omega)
    have hde0 : (0 : Int) < 2 ^ de.toNat := pow_pos' _
    have b37 := ((((b3.trans b4).trans b5).trans b6).trans b7)
    have hp7 : H7 p = some (.lst (ns.map V.int)) := b7 _ _ npg (b6 _ _ npg (b5 _ _ npg (b4 _ _ npg hp3)))
    refine ⟨_, rfl, .inl ⟨rfl, _, .inl (.inl hp7)⟩, ?_⟩
    refine ⟨_, rfl, _, rfl, _, rfl, _, rfl, _, _, rfl, rfl, ⟨de0, by omega, by decide⟩, g, _, _, rfl, g7, by omega, by omega, small_2900 (by omega), fun rn H8 rn0 rn1 g8 b8 => ?_⟩
    refine ⟨_, rfl, _, rfl, _, rfl, _, _, rfl, rfl, .inr ⟨_, rfl, _, _, rfl, rfl, .inl ⟨by omega, by omega⟩, (show 5 ≤ sizeLine by decide), fun c nc => ?_⟩⟩
    have hp8 : H8 p = some (.lst (ns.map V.int)) := b8 _ _ npg hp7
    have hx : ∃ y : Int, atI [V.int sm, .int sm, .int rn, .int (1 * 2 ^ fr.toNat + th - 1), .int (sm * (if decide (de < 3) = true then 1 else 0))] kd = some (.int y) ∧ 0 ≤ y ∧ y < 2 ^ 40 := by
      have hk : kd = 0 ∨ kd = 1 ∨ kd = 2 ∨ kd = 3 ∨ kd = 4 := by omega
      rcases hk with rfl | rfl | rfl | rfl | rfl
      · exact ⟨_, rfl, by omega, by omega⟩
      · exact ⟨_, rfl, by omega, by omega⟩
      · exact ⟨_, rfl, by omega, by omega⟩
      · exact ⟨_, rfl, by omega, by omega⟩
      · refine ⟨_, rfl, ?_, ?_⟩ <;> split <;> omega
    obtain ⟨y, ay, y0, y1⟩ := hx
    have s9 : Same H8 (upd H8 c (.lst [V.int sm, .int sm, .int rn, .int (1 * 2 ^ fr.toNat + th - 1), .int (sm * (if decide (de < 3) = true then 1 else 0))])) := same_upd nc
    have npc : p ≠ c := ne_of_none hp8 nc
    refine ⟨_, rfl, c, _, _, _, rfl, rfl, .inl (.inl upd_same), ay, p, _, _, rfl, rfl, s9 _ _ hp8, by rw [List.length_map]; exact small1000 (by omega), ?_⟩
    refine ⟨_, _, _, _, ns ++ [y], rfl, ?_, ?_, ?_, ?_, ?_⟩
    · intro b o z h
      have nb : b ≠ p := ne_of_none h np
      rw [upd_ne nb]
      exact s9 _ _ (b8 _ _ z (b37 _ _ z h))
    · rw [upd_same, List.map_append]
      rfl
    · intro x hx
      rcases List.mem_append.mp hx with hx | hx
      · exact hF x hx
      · rw [List.mem_singleton.mp hx]
        exact ⟨y0, y1⟩
    · rw [List.length_append, hl]
      rfl
    · obtain ⟨x1, x2, x3, e, a1, a2⟩ := g8
      refine ⟨x1, x2, x3, ?_, a1, by omega⟩
      rw [upd_ne npg.symm]
      exact s9 _ _ e
  · rintro σ H3 ⟨v2, v5, v6, v7, ns, rfl, b3, hp3, hF, hl, g3⟩
    exact ⟨_, rfl, q _ p ns b3 np hp3 (g3.mono (by omega)) hF (by omega)⟩
end
end My

set_option exponentiation.threshold 100000
namespace My
open PySem PySem.Spec PyProof.Rows L2 Pre
/-! ### small lists -/
theorem folds_nil : Folds [] := fun _ h => nomatch h
theorem folds_cons {n : Int} {r : List Int} (h0 : 0 ≤ n) (h1 : n < 2 ^ 40) (h : Folds r) : Folds (n :: r) := fun x hx => by
  rcases List.mem_cons.mp hx with rfl | hx
  · exact ⟨h0, h1⟩
  · exact h x hx
theorem Folds.app {a b : List Int} (ha : Folds a) (hb : Folds b) : Folds (a ++ b) := fun x hx => by
  rcases List.mem_append.mp hx with hx | hx
  · exact ha x hx
  · exact hb x hx
theorem Folds.rev {a : List Int} (ha : Folds a) : Folds a.reverse := fun x hx => ha x (List.mem_reverse.mp hx)
theorem least13 : IsLeast [1, 3] 5 1 1 := by
  refine told_least [1, 3] (folds_cons (by decide) (by decide) (folds_cons (by decide) (by decide) folds_nil)) (by decide) 1 1 (by decide) (fun w hw => ?_) (by decide) (fun w h1 h2 => ?_) (by decide)
  · rw [show w = 0 by omega]; decide
  · rw [show w = 1 by omega]
theorem least22 : IsLeast [2, 2] 6 0 2 := by
  refine told_least [2, 2] (folds_cons (by decide) (by decide) (folds_cons (by decide) (by decide) folds_nil)) (by decide) 0 2 (by decide) (fun w hw => absurd hw (by omega)) (by decide) (fun w h1 h2 => ?_) (by decide)
  have : w = 0 ∨ w = 1 ∨ w = 2 := by omega
  rcases this with rfl | rfl | rfl <;> decide
theorem LeastV.uniq {ns : List Int} {xs ys : List V} (a : LeastV ns xs) (b : LeastV ns ys) : xs = ys := by
  rcases a with ⟨e, rfl⟩ | ⟨ne, m, f, l, h, rfl⟩ <;> rcases b with ⟨e', rfl⟩ | ⟨ne', m', f', l', h', rfl⟩
  · rfl
  · exact absurd e ne'
  · exact absurd e' ne
  · obtain ⟨rfl, rfl, rfl⟩ := h.uniq h'
    rfl
theorem LeastV.rev {ns : List Int} {xs : List V} (a : LeastV ns.reverse xs) : LeastV ns xs := by
  rcases a with ⟨e, rfl⟩ | ⟨ne, m, f, l, h, rfl⟩
  · exact .inl ⟨List.reverse_eq_nil_iff.mp e, rfl⟩
  · refine .inr ⟨fun e => ne (by rw [e]; rfl), m, f, l, ?_, rfl⟩
    have := h.rev
    rw [List.reverse_reverse] at this
    exact this
/-- the told tuple as data -/
theorem LeastV.data {K : PySem.W.Frag} {H : Hp} {ns : List Int} {xs : List V} (a : LeastV ns xs) : ∃ ds, DpAll K H xs ds ∧ SeqAt.shaped (.tuple ds) = true ∧ PyData.eqv (.tuple ds) (.tuple ds) = true := by
  rcases a with ⟨e, rfl⟩ | ⟨ne, m, f, l, h, rfl⟩
  · exact ⟨[.int 0, .int 0, .none], .cons (.int _) (.cons (.int _) (.cons .non .nil)), by decide +kernel, by decide +kernel⟩
  · refine ⟨[.int m, .int f, .int l], .cons (.int _) (.cons (.int _) (.cons (.int _) .nil)), rfl, ?_⟩
    rw [PyData.eqv]
    exact (eqv_ints [m, f, l] [m, f, l]).trans (decide_eq_true rfl)
/-- the least price, 0 of none -/
theorem LeastV.first {ns : List Int} {xs : List V} (a : LeastV ns xs) : ∃ (m : Int), atI xs 0 = some (.int m) ∧ (∃ u, m = price ns u) ∧ ∀ u, m ≤ price ns u := by
  rcases a with ⟨rfl, rfl⟩ | ⟨ne, m, f, l, h, rfl⟩
  · exact ⟨0, rfl, ⟨0, rfl⟩, fun u => Int.le_refl _⟩
  · exact ⟨m, rfl, ⟨f, (h.at_ f (Nat.le_refl _) h.fl).symm⟩, h.le⟩
section
variable {P : Program} {w : World} {K : PySem.W.Frag} {mg : Str → Option Value} {base : Heap}
def sp_law (K : PySem.W.Frag) : Sp := fun vs H Q _ => ∃ (a : Addr) (ns : List Int), vs = [.ref a] ∧ SqL K H a (ns.map V.int) ∧ ns.length ≤ 63 ∧ ∀ H', Q (.bl true) H'
theorem foldsAt_of {H : Hp} {a : Addr} {ns : List Int} (h : H a = some (.lst (ns.map V.int))) (hF : Folds ns) (hl : ns.length ≤ 1000) : FoldsAt K H a ns := ⟨.inl h, hF, hl⟩
theorem G_law (T : Top K mg) : FnOk P w K mg base CX0 5 T.f_law T.fd_law ["_law_script"] (sp_law K) := by
  refine T.F_law.ok sc_law (fun vs H Q E h => by obtain ⟨a, ns, rfl, _⟩ := h; rfl) (fun cdv A outer s H vs Q E hr h => ?_)
  obtain ⟨a, ns, rfl, hS, hn, q⟩ := h
  refine ⟨_, PSs.nox 
(pss_cons (ps_set (i := 1) sc_law.nd rfl (by first | exact Or.inl rfl | exact Or.inr rfl) (pe_call (G_law_generator T) (hr.mono (by decide)) (by rfl) T.g_law_generator T.F_law_generator.kp T.b_law_generator .nil pass0 (pa_cons (pv 0) (pa_cons pe_int pa_nil))))
  (pss_cons (ps_par (by rfl) sc_law.nd (i := 4) (j := 5) rfl rfl (by decide) rfl rfl (pa_cons (pe_call (G_law_folds T) (hr.mono (by decide)) (by rfl) T.g_law_folds T.F_law_folds.kp T.b_law_folds .nil pass0 (pa_cons (pv 1) (pa_cons pe_int pa_nil))) (pa_cons (pe_call (G_law_folds T) (hr.mono (by decide)) (by rfl) T.g_law_folds T.F_law_folds.kp T.b_law_folds .nil pass0 (pa_cons (pv 1) (pa_cons pe_int pa_nil))) pa_nil)) (by rfl))
  (pss_cons (ps_set (i := 2) sc_law.nd rfl (by first | exact Or.inl rfl | exact Or.inr rfl) (pe_lst (pa_cons (pv 4) (pa_cons (pv 5) (pa_cons (pe_op op_cat (pv 4) (pv 5)) (pa_cons (pe_op op_rep (pe_slice (k_slL K rfl) (pe_op op_cat (pv 4) (pe_lst (pa_cons pe_int pa_nil))) po_none (po_some pe_int)) (pe_op op_add pe_int (pe_call (G_law_random T) (hr.mono (by decide)) (by rfl) T.g_law_random T.F_law_random.kp T.b_law_random .nil pass0 (pa_cons (pv 1) (pa_cons pe_int pa_nil))))) (pa_cons (pe_lst pa_nil) (pa_cons (pe_lst (pa_cons pe_int pa_nil)) (pa_cons (pe_lst (pa_cons pe_int pa_nil)) (pa_cons (pe_lst (pa_cons pe_int (pa_cons pe_int pa_nil))) (pa_cons (pe_lst (pa_cons pe_int (pa_cons pe_int pa_nil))) pa_nil)))))))))))
  (pss_cons (ps_for PassesOwn.never rfl (k_piL K rfl (pe_op op_cat (pv 2) (pe_lst (pa_cons (pe_lst (pa_cons (pe_op op_add (pe_op op_shl pe_int pe_int) pe_int) (pa_cons pe_int pa_nil))) (pa_cons (pe_lst (pa_cons pe_int (pa_cons pe_int (pa_cons pe_int pa_nil)))) pa_nil))))) (pg_name (i := 3) sc_law.nd rfl (by first | exact Or.inl rfl | exact Or.inr rfl))
    (pss_cons (ps_par (by rfl) sc_law.nd (i := 9) (j := 10) rfl rfl (by decide) rfl rfl (pa_cons (pe_callTy (k_listOf K rfl) (by rfl) T.n_list (by decide +kernel) (pa_cons (pv 3) pa_nil)) (pa_cons (pe_call (G_law_least T) (hr.mono (by decide)) (by rfl) T.g_law_least T.F_law_least.kp T.b_law_least .nil pass0 (pa_cons (pv 3) pa_nil)) pa_nil)) (by rfl))
  (pss_cons (ps_if (PW.pt (pw_or (pt_cmpR (k_neD K rfl hr.units) (pe_call (G_least_width T) (hr.mono (by decide)) (by rfl) T.g_least_width T.F_least_width.kp T.b_least_width .nil pass0 (pa_cons (pv 3) pa_nil)) (pv 10) (nomark _)) (pw_or (pt_cmpR (k_neD K rfl hr.units) (pe_call (G_least_width T) (hr.mono (by decide)) (by rfl) T.g_least_width T.F_least_width.kp T.b_least_width .nil pass0 (pa_cons (pe_revL (pv 3)) pa_nil)) (pv 10) (nomark _)) (pw_or1 (pt_cmpR (k_neD K rfl hr.units) (pv 3) (pv 9) (nomark _))))))
    (pss_one (ps_ret pe_bl))
    pss_nil)
  (pss_cons (ps_for PassesOwn.never rfl (pi_range2 (by rfl) T.n_range (pa_cons (pe_ix (k_ixT K rfl) (pv 10) pe_int (fun _ _ => rfl)) (pa_cons (pe_ifExp (pt_cmpR op_isN (pe_ix (k_ixT K rfl) (pv 10) pe_int (fun _ _ => rfl)) pe_non (nomark _)) (pe_ix (k_ixT K rfl) (pv 10) pe_int (fun _ _ => rfl)) (pe_op op_add (pe_ix (k_ixT K rfl) (pv 10) pe_int (fun _ _ => rfl)) pe_int)) pa_nil))) (pg_name (i := 6) sc_law.nd rfl (by first | exact Or.inl rfl | exact Or.inr rfl))
    (pss_one (ps_if (pt_cmpR op_ne (pe_call (G_price T) (hr.mono (by decide)) (by rfl) T.g_price T.F_price.kp T.b_price .nil pass0 (pa_cons (pv 3) (pa_cons (pv 6) pa_nil))) (pe_ix (k_ixT K rfl) (pv 10) pe_int (fun _ _ => rfl)) (nomark _))
    (pss_one (ps_ret pe_bl))
    pss_nil)))
  (pss_cons (ps_setLc (i := 7) (own := [("_law_width", 6)]) (g := gName 6) (tt := tYes) (by rfl) sc_law.nd rfl rfl (sw_true rfl rfl rfl (by decide +kernel)) (pi_range1 (by rfl) T.n_range (pa_cons pe_int pa_nil)) (blkOk_by (own := [("_law_width", 6)]) (N := N_law) (sc := defScope s_law) (by decide +kernel)) (fun _ _ _ _ _ => (pg_name (i := 6) sc_law.nd rfl (by first | exact Or.inl rfl | exact Or.inr rfl))) (fun _ _ _ _ _ => pts_nil) (fun _ _ _ _ _ => (pe_call (G_price T) (hr.mono (by decide)) (by rfl) T.g_price T.F_price.kp T.b_price .nil pass0 (pa_cons (pv 3) (pa_cons (pv 6) pa_nil)))))
  (pss_one (ps_for PassesOwn.never rfl (pi_range1 (by rfl) T.n_range (pa_cons pe_int pa_nil)) (pg_name (i := 8) sc_law.nd rfl (by first | exact Or.inl rfl | exact Or.inr rfl))
    (pss_one (ps_if (pt_cmpR op_lt (pe_op op_sub (pe_ix (k_ixL K rfl) (pv 7) (pe_op op_add (pv 8) pe_int) (fun _ _ => rfl)) (pe_ix (k_ixL K rfl) (pv 7) (pe_op op_add (pv 8) pe_int) (fun _ _ => rfl))) (pe_op op_sub (pe_ix (k_ixL K rfl) (pv 7) (pe_op op_add (pv 8) pe_int) (fun _ _ => rfl)) (pe_ix (k_ixL K rfl) (pv 7) (pv 8) (fun _ _ => rfl))) (nomark _))
    (pss_one (ps_ret pe_bl))
    pss_nil)))))))))
  (pss_cons (ps_if (pt_cmpR op_lt (pe_ix (k_ixT K rfl) (pe_call (G_least_width T) (hr.mono (by decide)) (by rfl) T.g_least_width T.F_least_width.kp T.b_least_width .nil pass0 (pa_cons (pe_op op_cat (pv 4) (pv 5)) pa_nil)) pe_int (fun _ _ => rfl)) (pe_op op_add (pe_ix (k_ixT K rfl) (pe_call (G_least_width T) (hr.mono (by decide)) (by rfl) T.g_least_width T.F_least_width.kp T.b_least_width .nil pass0 (pa_cons (pv 4) pa_nil)) pe_int (fun _ _ => rfl)) (pe_ix (k_ixT K rfl) (pe_call (G_least_width T) (hr.mono (by decide)) (by rfl) T.g_least_width T.F_least_width.kp T.b_least_width .nil pass0 (pa_cons (pv 5) pa_nil)) pe_int (fun _ _ => rfl))) (nomark _))
    (pss_one (ps_ret pe_bl))
    pss_nil)
  (pss_one (ps_ret (pe_cmpR (k_eqD K rfl hr.units) (pe_lst (pa_cons (pe_call (G_least_width T) (hr.mono (by decide)) (by rfl) T.g_least_width T.F_least_width.kp T.b_least_width .nil pass0 (pa_cons (pe_lst (pa_cons pe_int (pa_cons pe_int pa_nil))) pa_nil)) (pa_cons (pe_call (G_least_width T) (hr.mono (by decide)) (by rfl) T.g_least_width T.F_least_width.kp T.b_least_width .nil pass0 (pa_cons (pe_lst (pa_cons pe_int (pa_cons pe_int pa_nil))) pa_nil)) (pa_cons (pe_call (G_least_width T) (hr.mono (by decide)) (by rfl) T.g_least_width T.F_least_width.kp T.b_least_width .nil pass0 (pa_cons (pe_lst pa_nil) pa_nil)) pa_nil)))) (pe_lst (pa_cons (pe_tup (pa_cons pe_int (pa_cons pe_int (pa_cons pe_int pa_nil)))) (pa_cons (pe_tup (pa_cons pe_int (pa_cons pe_int (pa_cons pe_int pa_nil)))) (pa_cons (pe_tup (pa_cons pe_int (pa_cons pe_int (pa_cons pe_non pa_nil)))) pa_nil)))) (nomark _)))))))))
  , ?_⟩
  refine ⟨_, rfl, a, ns, 0, rfl, hS, fun H1 g s1 ng g1 => ?_⟩
  refine ⟨_, rfl, g, 7, 0, rfl, g1, by decide, by decide, by decide, fun H2 p1 l1 b2 np1 hp1 g2 F1 z1 => ?_⟩
  refine ⟨_, rfl, g, 5, _, rfl, g2, by decide, by decide, by decide, fun H3 p2 l2 b3 np2 hp2 g3 F2 z2 => ?_⟩
  refine ⟨_, _, rfl, ?_⟩
  have n1g : p1 ≠ g := g1.ne np1
  have hp1' : H3 p1 = some (.lst (l1.map V.int)) := b3 _ _ n1g hp1
  have n2g : p2 ≠ g := g2.ne np2
  -- lots
  refine ⟨_, rfl, _, rfl, _, rfl, _, rfl, p1, p2, _, _, rfl, rfl, hp1', hp2, by rw [List.length_map, List.length_map, sizeLine_eq]; omega, fun p3 np3 => ?_⟩
  rw [← List.map_append]
  obtain ⟨H4, e4, s4, h4⟩ := fresh (.lst ((l1 ++ l2).map V.int)) np3
  rw [e4]
  -- (one + [3])[:1] * (1 + ..)
  refine ⟨_, rfl, (show 1 ≤ sizeLine by decide), fun c1 nc1 => ?_⟩
  obtain ⟨H5, e5, s5, h5⟩ := fresh (.lst [V.int 3]) nc1
  rw [e5]
  have s35 := s4.trans s5
  refine ⟨p1, c1, _, _, rfl, rfl, s35 _ _ hp1', h5, by rw [List.length_map, sizeLine_eq]; simp; omega, fun c2 nc2 => ?_⟩
  have e33 : l1.map V.int ++ [V.int 3] = (l1 ++ [3]).map V.int := by rw [List.map_append]; rfl
  rw [e33]
  obtain ⟨H6, e6, s6, h6⟩ := fresh (.lst ((l1 ++ [3]).map V.int)) nc2
  rw [e6]
  have s36 := s35.trans s6
  refine ⟨_, rfl, c2, _, rfl, .inl (.inl h6), fun c3 nc3 => ?_⟩
  have ec : cutV ((l1 ++ [3]).map V.int) none (some 1) = ((l1 ++ [3]).take 1).map V.int := (cut_take _ 1).trans (List.map_take ..).symm
  rw [ec]
  obtain ⟨H7, e7, s7, h7⟩ := fresh (.lst (((l1 ++ [3]).take 1).map V.int)) nc3
  rw [e7]
  have s37 := s36.trans s7
  have F3 : Folds (l1 ++ [3]) := F1.app (folds_cons (by decide) (by decide) folds_nil)
  refine ⟨_, rfl, g, 60, _, rfl, g3.same s37, by decide, by decide, small_2900 (by decide), fun rn H8 rn0 rn1 g8 b8 => ?_⟩
  have nc3g : c3 ≠ g := (g3.same s36).ne nc3
  refine ⟨_, _, rfl, rfl, c3, _, _, rfl, rfl, b8 _ _ nc3g h7, by omega, by omega, ?_, fun p4 np4 => ?_⟩
  · rw [List.length_map, List.length_take, sizeLine_eq]
    have : min 1 (l1 ++ [3]).length * (1 + rn).toNat ≤ 1 * (1 + rn).toNat := Nat.mul_le_mul_right _ (Nat.min_le_left _ _)
    omega
  rw [rep_ints]
  generalize hl4 : (List.replicate (1 + rn).toNat (List.take 1 (l1 ++ [3]))).flatten = l4
  have F4 : Folds l4 := fun x hx => by
    rw [← hl4] at hx
    exact F3 x (List.mem_of_mem_take (rep_mem hx))
  have z4 : l4.length ≤ 1000 := by
    rw [← hl4, rep_len, List.length_take]
    have : (1 + rn).toNat * min 1 (l1 ++ [3]).length ≤ (1 + rn).toNat * 1 := Nat.mul_le_mul_left _ (Nat.min_le_left _ _)
    omega
  obtain ⟨H9, e9, s9, h9⟩ := fresh (.lst (l4.map V.int)) np4
  rw [e9]
  have b39 : But g H3 H9 := ((But.of s37).trans b8).same s9
  refine ⟨Nat.zero_le _, fun p5 np5 => ?_⟩
  obtain ⟨H10, e10, s10, h10⟩ := fresh (.lst []) np5
  rw [e10]
  refine ⟨(show 1 ≤ sizeLine by decide), fun p6 np6 => ?_⟩
  obtain ⟨H11, e11, s11, h11⟩ := fresh (.lst [V.int 0]) np6
  rw [e11]
  refine ⟨(show 1 ≤ sizeLine by decide), fun p7 np7 => ?_⟩
  obtain ⟨H12, e12, s12, h12⟩ := fresh (.lst [V.int 2]) np7
  rw [e12]
  refine ⟨(show 2 ≤ sizeLine by decide), fun p8 np8 => ?_⟩
  obtain ⟨H13, e13, s13, h13⟩ := fresh (.lst [V.int 2, V.int 2]) np8
  rw [e13]
  refine ⟨(show 2 ≤ sizeLine by decide), fun p9 np9 => ?_⟩
  obtain ⟨H14, e14, s14, h14⟩ := fresh (.lst [V.int 1, V.int 3]) np9
  rw [e14]
  refine ⟨(show 9 ≤ sizeLine by decide), fun p10 np10 => ?_⟩
  obtain ⟨H15, e15, s15, h15⟩ := fresh (.lst [V.ref p1, .ref p2, .ref p3, .ref p4, .ref p5, .ref p6, .ref p7, .ref p8, .ref p9]) np10
  rw [e15]
  -- lots + [..]
  refine ⟨_, rfl, _, _, rfl, rfl, ⟨by decide, by decide, by decide⟩, _, _, rfl, rfl, (show 2 ≤ sizeLine by decide), fun p11 np11 => ?_⟩
  obtain ⟨H16, e16, s16, h16⟩ := fresh (.lst [V.int (1 * 2 ^ (39 : Int).toNat + 1), V.int 0]) np11
  rw [e16]
  refine ⟨(show 3 ≤ sizeLine by decide), fun p12 np12 => ?_⟩
  obtain ⟨H17, e17, s17, h17⟩ := fresh (.lst [V.int 5, V.int 5, V.int 5]) np12
  rw [e17]
  refine ⟨(show 2 ≤ sizeLine by decide), fun p13 np13 => ?_⟩
  obtain ⟨H18, e18, s18, h18⟩ := fresh (.lst [V.ref p11, V.ref p12]) np13
  rw [e18]
  have s1518 := (s16.trans s17).trans s18
  refine ⟨p10, p13, _, _, rfl, rfl, s1518 _ _ h15, h18, (show 9 + 2 ≤ sizeLine by decide), fun p14 np14 => ?_⟩
  obtain ⟨H19, e19, s19, h19⟩ := fresh (.lst ([V.ref p1, .ref p2, .ref p3, .ref p4, .ref p5, .ref p6, .ref p7, .ref p8, .ref p9] ++ [V.ref p11, V.ref p12])) np14
  rw [e19]
  -- what stands
  have t19 := s19
  have t18 := s18.trans t19
  have t17 := s17.trans t18
  have t16 := s16.trans t17
  have t15 := s15.trans t16
  have t14 := s14.trans t15
  have t13 := s13.trans t14
  have t12 := s12.trans t13
  have t11 := s11.trans t12
  have t10 := s10.trans t11
  have b319 : But g H3 H19 := b39.same t10
  have n3g : p3 ≠ g := g3.ne np3
  have k1 : FoldsAt K H19 p1 l1 := foldsAt_of (b319 _ _ n1g hp1') F1 (by omega)
  have k2 : FoldsAt K H19 p2 l2 := foldsAt_of (b319 _ _ n2g hp2) F2 (by omega)
  have hp3 : H19 p3 = some (.lst ((l1 ++ l2).map V.int)) := t10 _ _ (s9 _ _ (b8 _ _ n3g (s7 _ _ (s6 _ _ (s5 _ _ h4)))))
  have k3 : FoldsAt K H19 p3 (l1 ++ l2) := foldsAt_of hp3 (F1.app F2) (by rw [List.length_append]; omega)
  have k4 : FoldsAt K H19 p4 l4 := foldsAt_of (t10 _ _ h9) F4 z4
  have k5 : FoldsAt K H19 p5 [] := foldsAt_of (t11 _ _ h10) folds_nil (by decide)
  have k6 : FoldsAt K H19 p6 [0] := foldsAt_of (t12 _ _ h11) (folds_cons (by decide) (by decide) folds_nil) (by decide)
  have k7 : FoldsAt K H19 p7 [2] := foldsAt_of (t13 _ _ h12) (folds_cons (by decide) (by decide) folds_nil) (by decide)
  have k8 : FoldsAt K H19 p8 [2, 2] := foldsAt_of (t14 _ _ h13) (folds_cons (by decide) (by decide) (folds_cons (by decide) (by decide) folds_nil)) (by decide)
  have k9 : FoldsAt K H19 p9 [1, 3] := foldsAt_of (t15 _ _ h14) (folds_cons (by decide) (by decide) (folds_cons (by decide) (by decide) folds_nil)) (by decide)
  have k11 : FoldsAt K H19 p11 [1 * 2 ^ (39 : Int).toNat + 1, 0] := foldsAt_of (t17 _ _ h16) (folds_cons (by decide) (by decide) (folds_cons (by decide) (by decide) folds_nil)) (by decide)
  have k12 : FoldsAt K H19 p12 [5, 5, 5] := foldsAt_of (t18 _ _ h17) (folds_cons (by decide) (by decide) (folds_cons (by decide) (by decide) (folds_cons (by decide) (by decide) folds_nil))) (by decide)
  have all : ∀ x ∈ [V.ref p1, .ref p2, .ref p3, .ref p4, .ref p5, .ref p6, .ref p7, .ref p8, .ref p9] ++ [V.ref p11, V.ref p12], ∃ p ks, x = .ref p ∧ FoldsAt K H19 p ks := by
    intro x hx
    simp only [List.cons_append, List.nil_append, List.mem_cons, List.not_mem_nil, or_false] at hx
    rcases hx with rfl | rfl | rfl | rfl | rfl | rfl | rfl | rfl | rfl | rfl | rfl
    · exact ⟨_, _, rfl, k1⟩
    · exact ⟨_, _, rfl, k2⟩
    · exact ⟨_, _, rfl, k3⟩
    · exact ⟨_, _, rfl, k4⟩
    · exact ⟨_, _, rfl, k5⟩
    · exact ⟨_, _, rfl, k6⟩
    · exact ⟨_, _, rfl, k7⟩
    · exact ⟨_, _, rfl, k8⟩
    · exact ⟨_, _, rfl, k9⟩
    · exact ⟨_, _, rfl, k11⟩
    · exact ⟨_, _, rfl, k12⟩
  generalize [V.ref p1, .ref p2, .ref p3, .ref p4, .ref p5, .ref p6, .ref p7, .ref p8, .ref p9] ++ [V.ref p11, V.ref p12] = xs at h19 all
  refine ⟨p14, rfl, ⟨_, .inl (.inl h19)⟩, for_list (K := K) (a := p14) (xs := xs) (fun i σ H2 => ∃ v3 v6 v7 v8 v9 v10, σ = [some (.ref a), some (.ref g), some (.ref p10), v3, some (.ref p1), some (.ref p2), v6, v7, v8, v9, v10] ∧ Same H19 H2)
    ⟨none, none, none, none, none, none, rfl, Same.refl _⟩ (fun i σ H2 _ ⟨_, _, _, _, _, _, _, s⟩ => .inl (.inl (s _ _ h19))) ?_ ?_⟩
  · rintro i x σ H20 hx ⟨v3, v6, v7, v8, v9, v10, rfl, s20⟩
    obtain ⟨p, ks, rfl, kp⟩ := all x (List.mem_of_getElem? hx)
    have kp20 := kp.same s20
    -- kept, due
    refine ⟨_, rfl, p, _, rfl, .inl kp20.sq, fun c nc => ?_⟩
    obtain ⟨H21, e21, s21, h21⟩ := fresh (.lst (ks.map V.int)) nc
    rw [e21]
    refine ⟨_, rfl, p, ks, rfl, kp20.same s21, fun H22 t ts s22 ht hL => ?_⟩
    refine ⟨_, _, rfl, ?_⟩
    have kp22 := (kp20.same s21).same s22
    -- least_width(folds) != due
    refine ⟨_, rfl, p, ks, rfl, kp22, fun H23 t2 ts2 s23 ht2 hL2 => ?_⟩
    obtain rfl := hL.uniq hL2
    obtain ⟨ds, d1, d2, d3⟩ := hL.data (K := K) (H := H23)
    refine ⟨_, rfl, .tuple ds, .tuple ds, .tup (.inl (.inl ht2)) d1, .tup (.inl (.inl (s23 _ _ ht))) d1, d2, d2, _, rfl, ?_⟩
    rw [d3]
    refine iteF ?_
    -- least_width(folds[::-1]) != due
    have kp23 := kp22.same s23
    refine ⟨_, rfl, p, _, rfl, kp23.sq, fun c2 nc2 => ?_⟩
    rw [← List.map_reverse]
    obtain ⟨H24, e24, s24, h24⟩ := fresh (.lst (ks.reverse.map V.int)) nc2
    rw [e24]
    refine ⟨c2, ks.reverse, rfl, foldsAt_of h24 kp.2.1.rev (by rw [List.length_reverse]; exact kp.2.2), fun H25 t3 ts3 s25 ht3 hL3 => ?_⟩
    obtain rfl := hL.uniq hL3.rev
    obtain ⟨ds', d1', d2', d3'⟩ := hL.data (K := K) (H := H25)
    refine ⟨_, rfl, .tuple ds', .tuple ds', .tup (.inl (.inl ht3)) d1', .tup (.inl (.inl (s25 _ _ (s24 _ _ (s23 _ _ ht))))) d1', d2', d2', _, rfl, ?_⟩
    rw [d3']
    refine iteF ?_
    -- folds != kept
    have s2225 := (s23.trans s24).trans s25
    have kp25 := kp22.same s2225
    have h25 : H25 c = some (.lst (ks.map V.int)) := s2225 _ _ (s22 _ _ h21)
    refine ⟨_, rfl, _, rfl, .list (ks.map PyData.int), .list (ks.map PyData.int), .lst kp25.sq (dp_ints ks), .lst (.inl (.inl h25)) (dp_ints ks), shaped_ints ks, shaped_ints ks, _, rfl, ?_⟩
    rw [PyData.eqv, eqv_ints, decide_eq_true rfl]
    refine iteF ?_
    -- prices of the widths from the first to the last one
    have s1925 : Same H19 H25 := (((s20.trans s21).trans s22).trans s2225)
    have ht25 : SqT K H25 t ts := .inl (.inl (s2225 _ _ ht))
    obtain ⟨m, lo, v2, ets, hv2⟩ : ∃ (m : Int) (lo : Nat) (v2 : V), ts = [.int m, .int lo, v2] ∧ (lo ≤ 40 ∧ (v2 = .non ∨ ∃ l : Nat, v2 = .int l ∧ l ≤ 40 ∧ ∀ u, lo ≤ u → u ≤ l → price ks u = m)) := by
      rcases hL with ⟨_, rfl⟩ | ⟨_, m, f, l, hI, rfl⟩
      · exact ⟨0, 0, .non, rfl, by decide, .inl rfl⟩
      · exact ⟨m, f, .int l, rfl, Nat.le_trans hI.fl hI.l40, .inr ⟨l, rfl, hI.l40, hI.at_⟩⟩
    subst ets
    obtain ⟨hlo, hv2⟩ := hv2
    refine ⟨_, rfl, t, _, 1, _, rfl, rfl, ht25, rfl, ?_⟩
    refine ⟨_, rfl, t, _, 2, _, rfl, rfl, ht25, rfl, rfl, _, rfl, ?_⟩
    rcases hv2 with rfl | ⟨l, rfl, hl40, hat⟩
    · refine iteT ⟨_, rfl, t, _, 1, _, rfl, rfl, ht25, rfl, _, _, rfl, ⟨by omega, by omega, by omega, by omega⟩, ?_⟩
      have hN : ∀ i : Nat, i < ((lo : Int) - lo).toNat → price ks (lo + i) = m ∧ lo + i ≤ 120 := fun i hi => absurd hi (by omega)
      generalize ((lo : Int) - lo).toNat = N at hN ⊢
      refine for_range (lo := (lo : Int)) (n := N) (fun i σ H2 => ∃ v6, σ = [some (.ref a), some (.ref g), some (.ref p10), some (.ref p), some (.ref p1), some (.ref p2), v6, v7, v8, some (.ref c), some (.ref t)] ∧ Same H25 H2)
        ⟨_, rfl, Same.refl _⟩ ?_ ?_
      · rintro i σ H26 hi ⟨v6, rfl, s26⟩
        obtain ⟨pe, ple⟩ := hN i hi
        refine ⟨_, rfl, _, rfl, p, ks, lo + i, rfl, kp25.same s26, ple, fun H27 s27 => ?_⟩
        refine ⟨_, rfl, t, _, 0, _, rfl, rfl, Same.tup (s26.trans s27) ht25, rfl, rfl, _, rfl, ?_⟩
        rw [pe]
        exact iteNS rfl ⟨_, rfl, s26.trans s27⟩
      · rintro σ H26 ⟨v6, rfl, s26⟩
        have kp26 := kp25.same s26
        -- prices
        refine ⟨_, rfl, by decide, by decide, fun D nD => ?_⟩
        refine lc_mapR (lo := 0) (n := 9) (((List.range 9).map (price ks)).map V.int) nD (by simp) (by decide) (fun x => rfl) ?_ ?_
        · intro i y H' hi hy s Qt qt
          rw [List.getElem?_map, List.getElem?_map, List.getElem?_range hi] at hy
          cases hy
          refine ⟨_, rfl, _, rfl, p, ks, i, ?_, kp26.same s, by omega, fun H'' s'' => qt _ s''⟩
          show [V.ref p, V.int (0 + (i : Int))] = _
          rw [Int.zero_add]
        · intro H27 s27 hD
          refine ⟨_, rfl, by decide, by decide, ?_⟩
          have hP : SqL K H27 D (((List.range 9).map (price ks)).map V.int) := .inl (.inl hD)
          have pick : ∀ (z : Int) (k : Nat), z = (k : Int) → k < 9 → atI (((List.range 9).map (price ks)).map V.int) z = some (.int (price ks k)) := fun z k e hk => at_of e (by rw [List.getElem?_map, List.getElem?_map, List.getElem?_range hk]; rfl)
          refine for_range (lo := 0) (n := 7) (fun i σ H2 => ∃ v8, σ = [some (.ref a), some (.ref g), some (.ref p10), some (.ref p), some (.ref p1), some (.ref p2), v6, some (.ref D), v8, some (.ref c), some (.ref t)] ∧ H2 = H27)
            ⟨_, rfl, rfl⟩ ?_ ?_
          · rintro i σ H28 hi ⟨v8, rfl, rfl⟩
            refine ⟨_, rfl, _, rfl, _, _, rfl, rfl, D, _, _, _, rfl, rfl, hP, pick _ (i + 2) (by omega) (by omega), _, rfl, _, rfl, _, _, rfl, rfl, D, _, _, _, rfl, rfl, hP, pick _ (i + 1) (by omega) (by omega), _, _, rfl, rfl, ?_⟩
            refine ⟨_, rfl, _, rfl, _, _, rfl, rfl, D, _, _, _, rfl, rfl, hP, pick _ (i + 1) (by omega) (by omega), _, rfl, _, rfl, D, _, _, _, rfl, rfl, hP, pick _ i (by omega) (by omega), _, _, rfl, rfl, ?_⟩
            refine ⟨_, _, rfl, rfl, _, rfl, ?_⟩
            rw [decide_eq_false (convex kp.2.1 i)]
            exact iteF ⟨_, rfl, rfl⟩
          · rintro σ H28 ⟨v8, rfl, rfl⟩
            exact ⟨_, _, _, _, _, _, rfl, ((s1925.trans s26).trans s27)⟩
    · refine iteF ⟨_, rfl, t, _, 2, _, rfl, rfl, ht25, rfl, _, _, rfl, rfl, _, _, rfl, ⟨by omega, by omega, by omega, by omega⟩, ?_⟩
      have hN : ∀ i : Nat, i < ((l : Int) + 1 - lo).toNat → price ks (lo + i) = m ∧ lo + i ≤ 120 := fun i hi => ⟨hat _ (by omega) (by omega), by omega⟩
      generalize ((l : Int) + 1 - lo).toNat = N at hN ⊢
      refine for_range (lo := (lo : Int)) (n := N) (fun i σ H2 => ∃ v6, σ = [some (.ref a), some (.ref g), some (.ref p10), some (.ref p), some (.ref p1), some (.ref p2), v6, v7, v8, some (.ref c), some (.ref t)] ∧ Same H25 H2)
        ⟨_, rfl, Same.refl _⟩ ?_ ?_
      · rintro i σ H26 hi ⟨v6, rfl, s26⟩
        obtain ⟨pe, ple⟩ := hN i hi
        refine ⟨_, rfl, _, rfl, p, ks, lo + i, rfl, kp25.same s26, ple, fun H27 s27 => ?_⟩
        refine ⟨_, rfl, t, _, 0, _, rfl, rfl, Same.tup (s26.trans s27) ht25, rfl, rfl, _, rfl, ?_⟩
        rw [pe]
        exact iteNS rfl ⟨_, rfl, s26.trans s27⟩
      · rintro σ H26 ⟨v6, rfl, s26⟩
        have kp26 := kp25.same s26
        -- prices
        refine ⟨_, rfl, by decide, by decide, fun D nD => ?_⟩
        refine lc_mapR (lo := 0) (n := 9) (((List.range 9).map (price ks)).map V.int) nD (by simp) (by decide) (fun x => rfl) ?_ ?_
        · intro i y H' hi hy s Qt qt
          rw [List.getElem?_map, List.getElem?_map, List.getElem?_range hi] at hy
          cases hy
          refine ⟨_, rfl, _, rfl, p, ks, i, ?_, kp26.same s, by omega, fun H'' s'' => qt _ s''⟩
          show [V.ref p, V.int (0 + (i : Int))] = _
          rw [Int.zero_add]
        · intro H27 s27 hD
          refine ⟨_, rfl, by decide, by decide, ?_⟩
          have hP : SqL K H27 D (((List.range 9).map (price ks)).map V.int) := .inl (.inl hD)
          have pick : ∀ (z : Int) (k : Nat), z = (k : Int) → k < 9 → atI (((List.range 9).map (price ks)).map V.int) z = some (.int (price ks k)) := fun z k e hk => at_of e (by rw [List.getElem?_map, List.getElem?_map, List.getElem?_range hk]; rfl)
          refine for_range (lo := 0) (n := 7) (fun i σ H2 => ∃ v8, σ = [some (.ref a), some (.ref g), some (.ref p10), some (.ref p), some (.ref p1), some (.ref p2), v6, some (.ref D), v8, some (.ref c), some (.ref t)] ∧ H2 = H27)
            ⟨_, rfl, rfl⟩ ?_ ?_
          · rintro i σ H28 hi ⟨v8, rfl, rfl⟩
            refine ⟨_, rfl, _, rfl, _, _, rfl, rfl, D, _, _, _, rfl, rfl, hP, pick _ (i + 2) (by omega) (by omega), _, rfl, _, rfl, _, _, rfl, rfl, D, _, _, _, rfl, rfl, hP, pick _ (i + 1) (by omega) (by omega), _, _, rfl, rfl, ?_⟩
            refine ⟨_, rfl, _, rfl, _, _, rfl, rfl, D, _, _, _, rfl, rfl, hP, pick _ (i + 1) (by omega) (by omega), _, rfl, _, rfl, D, _, _, _, rfl, rfl, hP, pick _ i (by omega) (by omega), _, _, rfl, rfl, ?_⟩
            refine ⟨_, _, rfl, rfl, _, rfl, ?_⟩
            rw [decide_eq_false (convex kp.2.1 i)]
            exact iteF ⟨_, rfl, rfl⟩
          · rintro σ H28 ⟨v8, rfl, rfl⟩
            exact ⟨_, _, _, _, _, _, rfl, ((s1925.trans s26).trans s27)⟩
  · rintro σ H20 ⟨v3, v6, v7, v8, v9, v10, rfl, s20⟩
    have j1 := k1.same s20
    have j2 := k2.same s20
    -- least_width(one + other)[0] < least_width(one)[0] + least_width(other)[0]
    refine ⟨_, rfl, _, rfl, p1, p2, _, _, rfl, rfl, s20 _ _ (b319 _ _ n1g hp1'), s20 _ _ (b319 _ _ n2g hp2), by rw [List.length_map, List.length_map, sizeLine_eq]; omega, fun c nc => ?_⟩
    rw [← List.map_append]
    obtain ⟨H21, e21, s21, h21⟩ := fresh (.lst ((l1 ++ l2).map V.int)) nc
    rw [e21]
    refine ⟨c, l1 ++ l2, rfl, foldsAt_of h21 (F1.app F2) (by rw [List.length_append]; omega), fun H22 t1 ts1 s22 ht1 hL1 => ?_⟩
    obtain ⟨m1, a1, ⟨u1, x1⟩, y1⟩ := hL1.first
    refine ⟨t1, _, 0, _, rfl, rfl, .inl (.inl ht1), a1, _, rfl, p1, l1, rfl, (j1.same s21).same s22, fun H23 t2 ts2 s23 ht2 hL2 => ?_⟩
    obtain ⟨m2, a2, ⟨u2, x2⟩, y2⟩ := hL2.first
    refine ⟨t2, _, 0, _, rfl, rfl, .inl (.inl ht2), a2, _, rfl, p2, l2, rfl, ((j2.same s21).same s22).same s23, fun H24 t3 ts3 s24 ht3 hL3 => ?_⟩
    obtain ⟨m3, a3, ⟨u3, x3⟩, y3⟩ := hL3.first
    refine ⟨t3, _, 0, _, rfl, rfl, .inl (.inl ht3), a3, _, _, rfl, rfl, _, _, rfl, rfl, _, rfl, ?_⟩
    have key : ¬ m1 < m2 + m3 := by
      have := y2 u1
      have := y3 u1
      have e := price_app l1 l2 u1
      omega
    rw [decide_eq_false key]
    refine iteF ?_
    -- the three written ones
    refine ⟨(show 2 ≤ sizeLine by decide), fun c1 nc1 => ?_⟩
    obtain ⟨H25, e25, s25, h25⟩ := fresh (.lst [V.int 1, V.int 3]) nc1
    rw [e25]
    refine ⟨c1, [1, 3], rfl, foldsAt_of h25 (folds_cons (by decide) (by decide) (folds_cons (by decide) (by decide) folds_nil)) (by decide), fun H26 t4 ts4 s26 ht4 hL4 => ?_⟩
    refine ⟨(show 2 ≤ sizeLine by decide), fun c2 nc2 => ?_⟩
    obtain ⟨H27, e27, s27, h27⟩ := fresh (.lst [V.int 2, V.int 2]) nc2
    rw [e27]
    refine ⟨c2, [2, 2], rfl, foldsAt_of h27 (folds_cons (by decide) (by decide) (folds_cons (by decide) (by decide) folds_nil)) (by decide), fun H28 t5 ts5 s28 ht5 hL5 => ?_⟩
    refine ⟨Nat.zero_le _, fun c3 nc3 => ?_⟩
    obtain ⟨H29, e29, s29, h29⟩ := fresh (.lst []) nc3
    rw [e29]
    refine ⟨c3, [], rfl, foldsAt_of h29 folds_nil (by decide), fun H30 t6 ts6 s30 ht6 hL6 => ?_⟩
    refine ⟨(show 3 ≤ sizeLine by decide), fun c4 nc4 => ?_⟩
    obtain ⟨H31, e31, s31, h31⟩ := fresh (.lst [V.ref t4, .ref t5, .ref t6]) nc4
    rw [e31]
    refine ⟨(show 3 ≤ sizeLine by decide), fun c5 nc5 => ?_⟩
    obtain ⟨H32, e32, s32, h32⟩ := fresh (.tup [V.int 5, .int 1, .int 1]) nc5
    rw [e32]
    refine ⟨(show 3 ≤ sizeLine by decide), fun c6 nc6 => ?_⟩
    obtain ⟨H33, e33, s33, h33⟩ := fresh (.tup [V.int 6, .int 0, .int 2]) nc6
    rw [e33]
    refine ⟨(show 3 ≤ sizeLine by decide), fun c7 nc7 => ?_⟩
    obtain ⟨H34, e34, s34, h34⟩ := fresh (.tup [V.int 0, .int 0, .non]) nc7
    rw [e34]
    refine ⟨(show 3 ≤ sizeLine by decide), fun c8 nc8 => ?_⟩
    obtain ⟨H35, e35, s35, h35⟩ := fresh (.lst [V.ref c5, .ref c6, .ref c7]) nc8
    rw [e35]
    obtain rfl : ts4 = [.int 5, .int 1, .int 1] := hL4.uniq (.inr ⟨by decide, 5, 1, 1, least13, rfl⟩)
    obtain rfl : ts5 = [.int 6, .int 0, .int 2] := hL5.uniq (.inr ⟨by decide, 6, 0, 2, least22, rfl⟩)
    obtain rfl : ts6 = [.int 0, .int 0, .non] := hL6.uniq (.inl ⟨rfl, rfl⟩)
    have q35 := s35
    have q34 := s34.trans q35
    have q33 := s33.trans q34
    have q32 := s32.trans q33
    have q31 := s31.trans q32
    have q29 := (s29.trans s30).trans q31
    have q27 := (s27.trans s28).trans q29
    have D3 : ∀ {p : Addr} {x y : Int} {H : Hp} {v : V} {d : PyData}, H p = some (.tup [.int x, .int y, v]) → Dp K H v d → Dp K H (.ref p) (.tuple [.int x, .int y, d]) := fun h hd => .tup (.inl (.inl h)) (.cons (.int _) (.cons (.int _) (.cons hd .nil)))
    refine ⟨.list [.tuple [.int 5, .int 1, .int 1], .tuple [.int 6, .int 0, .int 2], .tuple [.int 0, .int 0, .none]], .list [.tuple [.int 5, .int 1, .int 1], .tuple [.int 6, .int 0, .int 2], .tuple [.int 0, .int 0, .none]],
      .lst (.inl (.inl (q32 _ _ h31))) (.cons (D3 (q27 _ _ ht4) (.int _)) (.cons (D3 (q29 _ _ ht5) (.int _)) (.cons (D3 (q31 _ _ ht6) .non) .nil))),
      .lst (.inl (.inl h35)) (.cons (D3 (q33 _ _ h32) (.int _)) (.cons (D3 (q34 _ _ h33) (.int _)) (.cons (D3 (q35 _ _ h34) .non) .nil))), by decide +kernel, by decide +kernel, ?_⟩
    exact q _
end
end My

open PySem PySem.W PySem.Calls PyProof.Rows
set_option maxRecDepth 100000 in
set_option maxHeartbeats 0 in
theorem PySem.Challenge.cw_wholesound_k41_least_widths_holds : PySem.Challenge.rw_wholesound_k41_least_widths.Holds := by
  w_on; o_law
  refine HandSHeadRun.head_any (r := OpenLaw.row PySem.Challenge.rw_wholesound_k41_least_widths) (q := view (OpenLaw.row PySem.Challenge.rw_wholesound_k41_least_widths).prog [23]) (H := My.hk) (ob := My.ob) (M := 4000) (loose := My.loose) (d := HandSHeadRun.topDef (OpenLaw.row PySem.Challenge.rw_wholesound_k41_least_widths).prog 23) (kwd := []) My.ob_eq
    (by kernel_rfl) (fun s => by kernel_rfl) My.run (by kernel_rfl) (by kernel_rfl) (by kernel_rfl) (by rfl) (by first | assumption | decide +kernel) (by decide +kernel) ⟨rfl, rfl, rfl, rfl, rfl, by decide +kernel⟩ ?hw ?hc
  case hw => w_witness2
  case hc =>
    refine L2.walk_ofE (l := PySem.Challenge.rw_wholesound_k41_least_widths) (n := 63) (k := 5) (x := "_law_script") (CX := L2.CX0) rfl (by decide) (by kernel_rfl) ⟨rfl, by decide, by decide⟩ ?F (fun _ _ _ _ z => z)
    intro w mg fa h Y G hmg0
    obtain ⟨K, KX, c⟩ := Y
    have hmg : mg ("law" : PySem.Str) = some (.ref fa) := by
      have e : (HandSHeadRun.topDef (OpenLaw.row PySem.Challenge.rw_wholesound_k41_least_widths).prog 23).name = ("law" : PySem.Str) := by kernel_rfl
      rw [← e]
      exact hmg0
    have T : My.Top K mg := My.top_mk KX G c
    have e := hmg.symm.trans T.g_law
    cases e
    have b := L2.FunD.bindsA (ps := ["_law_script"]) T.F_law fun _ _ _ _ _ _ us hl => match us, hl with | [_], _ => rfl
    exact ⟨K, T.fd_law, My.sp_law K, KX, fun s v => b s [v] rfl, fun H a ns hl _ hS => ⟨a, ns, rfl, hS, hl, fun _ => rfl⟩, fun base _ _ => My.G_law T⟩
