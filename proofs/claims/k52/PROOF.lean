import PyProof.Rows.All
import Wide.All
import OpenK.AllK
import Wide.FinOn
import KE.KStateDown
import Lean
import HandS.ForMost
import HandS.Exc
import HandS.Flow
import HandS.Style
import HandS.Wide
import HandS.WideBits
import HandS.IsInst
import HandS.Words
import HandS.WordsExc
import HandS.Defaults
import HandS.Head0
import HandS.Head1
import HandS.Head2
import HandS.HeadEnd
import HandS.HeadHook1
import HandS.HeadHook2
import PySem.Challenge.RW_wholesound_k52_shares_means_and_gaps
set_option Elab.async false
set_option linter.all false
set_option maxRecDepth 100000
set_option maxHeartbeats 4000000
set_option exponentiation.threshold 100000
namespace Pre
open PySem PySem.Spec PyProof.Rows L2
/-! ### heaps -/
theorem same_upd {H : Hp} {p : Addr} {o : HO} (h : H p = none) : Same H (upd H p o) := fun b x e => by
  rw [upd_ne (ne_of_none e h)]
  exact e
/-- a fresh thing that is then changed is no change of what was -/
theorem same_over {H H' : Hp} {p : Addr} {o : HO} (n : H p = none) (s : Same H H') : Same H (upd H' p o) := fun b x e => by
  rw [upd_ne (ne_of_none e n)]
  exact s b x e
theorem Same.tup {K : PySem.W.Frag} {H H' : Hp} {a : Addr} {xs : List V} (e : Same H H') (h : SqT K H a xs) : SqT K H' a xs := by
  rcases h with (h | ⟨o, h⟩) | h
  · exact .inl (.inl (e _ _ h))
  · exact .inl (.inr ⟨o, e _ _ h⟩)
  · exact .inr h
mutual
theorem dp_same {K : PySem.W.Frag} {H H' : Hp} (s : Same H H') : ∀ (d : PyData) (v : V), Dp K H v d → Dp K H' v d
  | .none, _, h => by cases h; exact .non
  | .bool _, _, h => by cases h; exact .bl _
  | .int _, _, h => by cases h; exact .int _
  | .str _, _, h => by cases h; exact .str _
  | .list ds, _, h => by cases h with | lst a b => exact .lst (s.seq a) (dps_same s ds _ b)
  | .tuple ds, _, h => by cases h with | tup a b => exact .tup (Same.tup s a) (dps_same s ds _ b)
  | .dict _, _, h => nomatch h
theorem dps_same {K : PySem.W.Frag} {H H' : Hp} (s : Same H H') : ∀ (ds : List PyData) (vs : List V), DpAll K H vs ds → DpAll K H' vs ds
  | [], _, h => by cases h; exact .nil
  | d :: ds, _, h => by cases h with | cons a b => exact .cons (dp_same s d _ a) (dps_same s ds _ b)
end
theorem dp_ints {K : PySem.W.Frag} {H : Hp} : ∀ ns : List Int, DpAll K H (ns.map V.int) (ns.map PyData.int)
  | [] => .nil
  | n :: r => .cons (.int n) (dp_ints r)
theorem eqv_ints : ∀ ns ms : List Int, PyData.eqvAll (ns.map PyData.int) (ms.map PyData.int) = decide (ns = ms)
  | [], [] => rfl
  | [], _ :: _ => rfl
  | _ :: _, [] => rfl
  | n :: r, m :: q => by
    show (PyData.eqv (.int n) (.int m) && PyData.eqvAll (r.map PyData.int) (q.map PyData.int)) = decide (n :: r = m :: q)
    rw [eqv_ints r q]
    show ((n == m) && decide (r = q)) = decide (n :: r = m :: q)
    by_cases h : n = m
    · subst h; simp
    · simp [h]
theorem lay_ints : ∀ ns : List Int, PyData.canLayAll0 (ns.map PyData.int) = true
  | [] => rfl
  | n :: r => by
    show (PyData.canLay0 (.int n) && PyData.canLayAll0 (r.map PyData.int)) = true
    rw [lay_ints r]
    rfl
theorem depth_ints : ∀ ns : List Int, PyData.depthAll (ns.map PyData.int) = 0
  | [] => by simp [PyData.depthAll]
  | n :: r => by
    show PyData.depthAll (.int n :: r.map PyData.int) = 0
    rw [PyData.depthAll, depth_ints r]
    simp [PyData.depth]
theorem shaped_ints (ns : List Int) : SeqAt.shaped (.list (ns.map PyData.int)) = true := by
  unfold SeqAt.shaped
  rw [PyData.canLay0, lay_ints, PyData.depth, depth_ints]
  rfl
theorem shaped_tup (ns : List Int) : SeqAt.shaped (.tuple (ns.map PyData.int)) = true := by
  unfold SeqAt.shaped
  rw [PyData.canLay0, lay_ints, PyData.depth, depth_ints]
  rfl
/-! ### comparisons of lists and tuples of whole numbers that are told alike -/
theorem ne_tup {K : PySem.W.Frag} {H : Hp} {a b : Addr} {ns : List Int} {Q : V → Hp → Prop} (ha : SqT K H a (ns.map V.int)) (hb : SqT K H b (ns.map V.int)) (q : Q (.bl false) H) : rNeD K (.ref a) (.ref b) H Q := by
  refine ⟨.tuple (ns.map PyData.int), .tuple (ns.map PyData.int), .tup ha (dp_ints ns), .tup hb (dp_ints ns), shaped_tup ns, shaped_tup ns, ?_⟩
  rw [PyData.eqv, eqv_ints, decide_eq_true rfl]
  exact q
theorem eq_tup {K : PySem.W.Frag} {H : Hp} {a b : Addr} {ns : List Int} {Q : V → Hp → Prop} (ha : SqT K H a (ns.map V.int)) (hb : SqT K H b (ns.map V.int)) (q : Q (.bl true) H) : rEqD K (.ref a) (.ref b) H Q := by
  refine ⟨.tuple (ns.map PyData.int), .tuple (ns.map PyData.int), .tup ha (dp_ints ns), .tup hb (dp_ints ns), shaped_tup ns, shaped_tup ns, ?_⟩
  rw [PyData.eqv, eqv_ints, decide_eq_true rfl]
  exact q
/-- lists of whole numbers, compared -/
theorem eqD_lst {K : PySem.W.Frag} {H : Hp} {a b : Addr} {ns ms : List Int} {Q : V → Hp → Prop} (ha : SqL K H a (ns.map V.int)) (hb : SqL K H b (ms.map V.int)) (q : Q (.bl (decide (ns = ms))) H) : rEqD K (.ref a) (.ref b) H Q := by
  refine ⟨.list (ns.map PyData.int), .list (ms.map PyData.int), .lst ha (dp_ints ns), .lst hb (dp_ints ms), shaped_ints ns, shaped_ints ms, ?_⟩
  rw [PyData.eqv, eqv_ints]
  exact q
theorem neD_lst {K : PySem.W.Frag} {H : Hp} {a b : Addr} {ns ms : List Int} {Q : V → Hp → Prop} (ha : SqL K H a (ns.map V.int)) (hb : SqL K H b (ms.map V.int)) (q : Q (.bl (!decide (ns = ms))) H) : rNeD K (.ref a) (.ref b) H Q := by
  refine ⟨.list (ns.map PyData.int), .list (ms.map PyData.int), .lst ha (dp_ints ns), .lst hb (dp_ints ms), shaped_ints ns, shaped_ints ms, ?_⟩
  rw [PyData.eqv, eqv_ints]
  exact q
theorem ne_lst {K : PySem.W.Frag} {H : Hp} {a b : Addr} {ns : List Int} {Q : V → Hp → Prop} (ha : SqL K H a (ns.map V.int)) (hb : SqL K H b (ns.map V.int)) (q : Q (.bl false) H) : rNeD K (.ref a) (.ref b) H Q :=
  neD_lst ha hb (by rw [decide_eq_true rfl]; exact q)
theorem eq_lst {K : PySem.W.Frag} {H : Hp} {a b : Addr} {ns : List Int} {Q : V → Hp → Prop} (ha : SqL K H a (ns.map V.int)) (hb : SqL K H b (ns.map V.int)) (q : Q (.bl true) H) : rEqD K (.ref a) (.ref b) H Q :=
  eqD_lst ha hb (by rw [decide_eq_true rfl]; exact q)
/-! ### powers -/
def CPowW (i j : Int) : Prop := 0 ≤ j ∧ (Builtin.Int.intBits i : Int) * j ≤ 2 ^ 27
theorem op_powW {X : Cx} : OpR X (binaryOp .Pow) (rI CPowW fun i j => .int (i ^ j.toNat)) := opI fun _ _ _ _ _ _ _ hc q => pow_int hc.1 hc.2 q
/-! ### comprehensions whose parts leave what is tracked as it is: sel tells of each item what comes of it -/
theorem take_fm {α : Type} {l : List (Option α)} {i : Nat} {o : Option α} (h : l[i]? = some o) : (l.take (i + 1)).filterMap id = (l.take i).filterMap id ++ o.toList := by
  rw [List.take_add_one, h, List.filterMap_append]
  cases o <;> rfl
theorem fm_len {α : Type} (l : List (Option α)) (i : Nat) : ((l.take i).filterMap id).length ≤ l.length :=
  Nat.le_trans (List.length_filterMap_le _ _) (by rw [List.length_take]; omega)
theorem lc_selL {K : PySem.W.Frag} {a : Addr} {xs : List V} {j : Nat} {tt : TT} {te : TE} {vs : List Nat} {σ : L2.St} {H1 : Hp} {D : Addr} {Qd : Hp → Prop} (sel : List (Option V)) (nD : H1 D = none) (hS : SqL K H1 a xs) (hlen : sel.length = xs.length) (hz : xs.length < sizeLine)
    (hw : ∀ x, wipe ((wipe σ vs).set j (some x)) vs = wipe σ vs)
    (hs : ∀ (i : Nat) (x : V) (o : Option V) (H' : Hp), xs[i]? = some x → sel[i]? = some o → Same H1 H' → ∀ Qt : Option V → Hp → Prop, (∀ H'', Same H' H'' → Qt o H'') →
      tt ((wipe σ vs).set j (some x)) H' fun b H3 => if b = true then te ((wipe σ vs).set j (some x)) H3 fun y H4 => Qt (some y) H4 else Qt none H3)
    (hd : ∀ H', Same H1 H' → H' D = some (.lst (sel.filterMap id)) → Qd H') :
    ∃ W : Nat → Nat → Hp → Prop, (∃ m, W 0 m (upd H1 D (.lst []))) ∧ ∀ i m H, W i m H →
      ((Itl K a).stop i H ∧ Qd H) ∨ ((Itl K a).go i H ∧ ∃ Nx : Hp → Prop, (∀ H', Nx H' → ∃ m', m' < m ∧ W (i + 1) m' H') ∧ ∀ x H', (Itl K a).yld i H x H' → gName j x (wipe σ vs) H' fun σ2 H2 => wipe σ2 vs = wipe σ vs ∧ tt σ2 H2 fun b H3 =>
        if b = true then te σ2 H3 fun y H4 => ∃ acc, H4 D = some (.lst acc) ∧ acc.length < sizeLine ∧ Nx (upd H4 D (.lst (acc ++ [y]))) else Nx H3) := by
  refine lc_list (K := K) (a := a) (xs := xs) (fun i H => Same H1 H ∧ H D = some (.lst ((sel.take i).filterMap id))) ⟨same_upd nD, upd_same⟩ (fun i H _ p => p.1.seq hS) ?_ ?_
  · rintro i x H hx ⟨s, hD⟩
    refine ⟨hw x, ?_⟩
    have hi : i < sel.length := by rw [hlen]; exact (List.getElem?_eq_some_iff.mp hx).1
    have ho : sel[i]? = some sel[i] := List.getElem?_eq_getElem hi
    have hl : ((sel.take i).filterMap id).length < sizeLine := Nat.lt_of_le_of_lt (fm_len sel i) (by omega)
    refine hs i x sel[i] H hx ho s (fun o H4 => match o with
      | some y => ∃ acc, H4 D = some (.lst acc) ∧ acc.length < sizeLine ∧ (Same H1 (upd H4 D (.lst (acc ++ [y]))) ∧ (upd H4 D (.lst (acc ++ [y]))) D = some (.lst ((sel.take (i + 1)).filterMap id)))
      | none => Same H1 H4 ∧ H4 D = some (.lst ((sel.take (i + 1)).filterMap id))) fun H4 s4 => ?_
    generalize sel[i] = o at ho ⊢
    cases o with
    | some y =>
      refine ⟨_, s4 _ _ hD, hl, same_over nD (s.trans s4), ?_⟩
      rw [upd_same, take_fm ho]
      rfl
    | none =>
      refine ⟨s.trans s4, ?_⟩
      rw [take_fm ho, s4 _ _ hD]
      simp
  · rintro H ⟨s, hD⟩
    refine hd H s ?_
    rw [hD, ← hlen, List.take_length]
/-- the items of a range -/
def rgV (lo : Int) (n : Nat) : List V := (List.range n).map fun (i : Nat) => V.int (lo + (i : Int))
theorem lc_selR {lo : Int} {n : Nat} {j : Nat} {tt : TT} {te : TE} {vs : List Nat} {σ : L2.St} {H1 : Hp} {D : Addr} {Qd : Hp → Prop} (sel : List (Option V)) (nD : H1 D = none) (hlen : sel.length = n) (hz : n < sizeLine)
    (hw : ∀ x, wipe ((wipe σ vs).set j (some x)) vs = wipe σ vs)
    (hs : ∀ (i : Nat) (o : Option V) (H' : Hp), i < n → sel[i]? = some o → Same H1 H' → ∀ Qt : Option V → Hp → Prop, (∀ H'', Same H' H'' → Qt o H'') →
      tt ((wipe σ vs).set j (some (.int (lo + (i : Int))))) H' fun b H3 => if b = true then te ((wipe σ vs).set j (some (.int (lo + (i : Int))))) H3 fun y H4 => Qt (some y) H4 else Qt none H3)
    (hd : ∀ H', Same H1 H' → H' D = some (.lst (sel.filterMap id)) → Qd H') :
    ∃ W : Nat → Nat → Hp → Prop, (∃ m, W 0 m (upd H1 D (.lst []))) ∧ ∀ i m H, W i m H →
      ((Itr lo n).stop i H ∧ Qd H) ∨ ((Itr lo n).go i H ∧ ∃ Nx : Hp → Prop, (∀ H', Nx H' → ∃ m', m' < m ∧ W (i + 1) m' H') ∧ ∀ x H', (Itr lo n).yld i H x H' → gName j x (wipe σ vs) H' fun σ2 H2 => wipe σ2 vs = wipe σ vs ∧ tt σ2 H2 fun b H3 =>
        if b = true then te σ2 H3 fun y H4 => ∃ acc, H4 D = some (.lst acc) ∧ acc.length < sizeLine ∧ Nx (upd H4 D (.lst (acc ++ [y]))) else Nx H3) := by
  refine lc_range (lo := lo) (n := n) (fun i H => Same H1 H ∧ H D = some (.lst ((sel.take i).filterMap id))) ⟨same_upd nD, upd_same⟩ ?_ ?_
  · rintro i H hi' ⟨s, hD⟩
    refine ⟨hw _, ?_⟩
    have hi : i < sel.length := by rw [hlen]; exact hi'
    have ho : sel[i]? = some sel[i] := List.getElem?_eq_getElem hi
    have hl : ((sel.take i).filterMap id).length < sizeLine := Nat.lt_of_le_of_lt (fm_len sel i) (by omega)
    refine hs i sel[i] H hi' ho s (fun o H4 => match o with
      | some y => ∃ acc, H4 D = some (.lst acc) ∧ acc.length < sizeLine ∧ (Same H1 (upd H4 D (.lst (acc ++ [y]))) ∧ (upd H4 D (.lst (acc ++ [y]))) D = some (.lst ((sel.take (i + 1)).filterMap id)))
      | none => Same H1 H4 ∧ H4 D = some (.lst ((sel.take (i + 1)).filterMap id))) fun H4 s4 => ?_
    generalize sel[i] = o at ho ⊢
    cases o with
    | some y =>
      refine ⟨_, s4 _ _ hD, hl, same_over nD (s.trans s4), ?_⟩
      rw [upd_same, take_fm ho]
      rfl
    | none =>
      refine ⟨s.trans s4, ?_⟩
      rw [take_fm ho, s4 _ _ hD]
      simp
  · rintro H ⟨s, hD⟩
    refine hd H s ?_
    rw [hD, ← hlen, List.take_length]
theorem fm_some {α : Type} (ys : List α) : (ys.map some).filterMap id = ys := by
  rw [List.filterMap_map]
  show List.filterMap (fun y => some y) ys = ys
  exact List.filterMap_some
/-- no test: ys tells what comes of each item -/
theorem lc_mapL {K : PySem.W.Frag} {a : Addr} {xs : List V} {j : Nat} {te : TE} {vs : List Nat} {σ : L2.St} {H1 : Hp} {D : Addr} {Qd : Hp → Prop} (ys : List V) (nD : H1 D = none) (hS : SqL K H1 a xs) (hlen : ys.length = xs.length) (hz : xs.length < sizeLine)
    (hw : ∀ x, wipe ((wipe σ vs).set j (some x)) vs = wipe σ vs)
    (hs : ∀ (i : Nat) (x y : V) (H' : Hp), xs[i]? = some x → ys[i]? = some y → Same H1 H' → ∀ Qt : V → Hp → Prop, (∀ H'', Same H' H'' → Qt y H'') → te ((wipe σ vs).set j (some x)) H' Qt)
    (hd : ∀ H', Same H1 H' → H' D = some (.lst ys) → Qd H') :
    ∃ W : Nat → Nat → Hp → Prop, (∃ m, W 0 m (upd H1 D (.lst []))) ∧ ∀ i m H, W i m H →
      ((Itl K a).stop i H ∧ Qd H) ∨ ((Itl K a).go i H ∧ ∃ Nx : Hp → Prop, (∀ H', Nx H' → ∃ m', m' < m ∧ W (i + 1) m' H') ∧ ∀ x H', (Itl K a).yld i H x H' → gName j x (wipe σ vs) H' fun σ2 H2 => wipe σ2 vs = wipe σ vs ∧ tYes σ2 H2 fun b H3 =>
        if b = true then te σ2 H3 fun y H4 => ∃ acc, H4 D = some (.lst acc) ∧ acc.length < sizeLine ∧ Nx (upd H4 D (.lst (acc ++ [y]))) else Nx H3) := by
  refine lc_selL (K := K) (a := a) (xs := xs) (tt := tYes) (ys.map some) nD hS (by rw [List.length_map]; exact hlen) hz hw ?_ ?_
  · intro i x o H' hx ho s Qt qt
    rw [List.getElem?_map] at ho
    obtain ⟨y, hy, rfl⟩ := Option.map_eq_some_iff.mp ho
    show if true = true then te ((wipe σ vs).set j (some x)) H' (fun y H4 => Qt (some y) H4) else Qt none H'
    exact iteT (hs i x y H' hx hy s (fun y H4 => Qt (some y) H4) qt)
  · intro H' s hD
    rw [fm_some] at hD
    exact hd H' s hD
theorem lc_mapR {lo : Int} {n : Nat} {j : Nat} {te : TE} {vs : List Nat} {σ : L2.St} {H1 : Hp} {D : Addr} {Qd : Hp → Prop} (ys : List V) (nD : H1 D = none) (hlen : ys.length = n) (hz : n < sizeLine)
    (hw : ∀ x, wipe ((wipe σ vs).set j (some x)) vs = wipe σ vs)
    (hs : ∀ (i : Nat) (y : V) (H' : Hp), i < n → ys[i]? = some y → Same H1 H' → ∀ Qt : V → Hp → Prop, (∀ H'', Same H' H'' → Qt y H'') → te ((wipe σ vs).set j (some (.int (lo + (i : Int))))) H' Qt)
    (hd : ∀ H', Same H1 H' → H' D = some (.lst ys) → Qd H') :
    ∃ W : Nat → Nat → Hp → Prop, (∃ m, W 0 m (upd H1 D (.lst []))) ∧ ∀ i m H, W i m H →
      ((Itr lo n).stop i H ∧ Qd H) ∨ ((Itr lo n).go i H ∧ ∃ Nx : Hp → Prop, (∀ H', Nx H' → ∃ m', m' < m ∧ W (i + 1) m' H') ∧ ∀ x H', (Itr lo n).yld i H x H' → gName j x (wipe σ vs) H' fun σ2 H2 => wipe σ2 vs = wipe σ vs ∧ tYes σ2 H2 fun b H3 =>
        if b = true then te σ2 H3 fun y H4 => ∃ acc, H4 D = some (.lst acc) ∧ acc.length < sizeLine ∧ Nx (upd H4 D (.lst (acc ++ [y]))) else Nx H3) := by
  refine lc_selR (lo := lo) (n := n) (tt := tYes) (ys.map some) nD (by rw [List.length_map]; exact hlen) hz hw ?_ ?_
  · intro i o H' hi ho s Qt qt
    rw [List.getElem?_map] at ho
    obtain ⟨y, hy, rfl⟩ := Option.map_eq_some_iff.mp ho
    show if true = true then te ((wipe σ vs).set j (some (.int (lo + (i : Int))))) H' (fun y H4 => Qt (some y) H4) else Qt none H'
    exact iteT (hs i y H' hi hy s (fun y H4 => Qt (some y) H4) qt)
  · intro H' s hD
    rw [fm_some] at hD
    exact hd H' s hD
/-- an item of a list of whole numbers -/
theorem int_at {ns : List Int} {i : Nat} {x : V} (h : (ns.map V.int)[i]? = some x) : ∃ n, ns[i]? = some n ∧ x = .int n := by
  rw [List.getElem?_map] at h
  obtain ⟨n, hn, e⟩ := Option.map_eq_some_iff.mp h
  exact ⟨n, hn, e.symm⟩
/-! ### rules with the written part named (within a comprehension Lean doesn't find it) -/
section
variable {X : Cx}
theorem k_len (K : PySem.W.Frag) (h : X.K = K) : CallR X (.builtin "len") (fun xs H Q => ∃ p ys, xs = [.ref p] ∧ (SqL K H p ys ∨ SqT K H p ys) ∧ Q (.int ys.length) H) := by subst h; exact call_len_seq
theorem k_sum (K : PySem.W.Frag) (h : X.K = K) (hc : X.calm = true) : CallR X (.builtin "sum") (rSum K) := by subst h; exact cr_sum hc
theorem k_max (K : PySem.W.Frag) (h : X.K = K) (hc : X.calm = true) : CallR X (.builtin "max") (rMax K) := by subst h; exact cr_max hc
theorem k_min (K : PySem.W.Frag) (h : X.K = K) (hc : X.calm = true) : CallR X (.builtin "min") (rMin K) := by subst h; exact cr_min hc
theorem k_isi (K : PySem.W.Frag) (h : X.K = K) : CallR X (.builtin "isinstance") (rIsi K) := by subst h; exact call_isi
theorem k_listOf (K : PySem.W.Frag) (h : X.K = K) : CallR X (.type "list") (fun xs H Q => ∃ p ys, xs = [.ref p] ∧ (SqL K H p ys ∨ SqT K H p ys) ∧ ∀ l, H l = none → Q (.ref l) (upd H l (.lst ys))) := by subst h; exact call_list_of
theorem k_tupleOf (K : PySem.W.Frag) (h : X.K = K) : CallR X (.type "tuple") (fun xs H Q => ∃ p ys, xs = [.ref p] ∧ ((SqL K H p ys ∧ ∀ l, H l = none → Q (.ref l) (upd H l (.tup ys))) ∨ (SqT K H p ys ∧ Q (.ref p) H))) := by subst h; exact call_tuple_of
theorem k_ixL (K : PySem.W.Frag) (h : X.K = K) : IxR X (rIxL K) := by subst h; exact ix_list
theorem k_ixT (K : PySem.W.Frag) (h : X.K = K) : IxR X (rIxT K) := by subst h; exact ix_tup
theorem k_slL (K : PySem.W.Frag) (h : X.K = K) : SlR X (rSlL K) := by subst h; exact sl_list
theorem k_slT (K : PySem.W.Frag) (h : X.K = K) : SlR X (rSlT K) := by subst h; exact sl_tup
theorem k_eqD (K : PySem.W.Frag) (h : X.K = K) (hu : X.A.units + 64 < cLine) : OpR X (compareOp .Eq) (rEqD K) := by subst h; exact op_eqD hu
theorem k_neD (K : PySem.W.Frag) (h : X.K = K) (hu : X.A.units + 64 < cLine) : OpR X (compareOp .NotEq) (rNeD K) := by subst h; exact op_neD hu
theorem k_in (K : PySem.W.Frag) (h : X.K = K) : OpR X (compareOp .In) (rIn K false) := by subst h; exact op_in_seq
theorem k_notIn (K : PySem.W.Frag) (h : X.K = K) : OpR X (compareOp .NotIn) (rIn K true) := by subst h; exact op_notIn_seq
theorem k_piL (K : PySem.W.Frag) (h : X.K = K) {tg l : Expr} {tl : TE} (hl : PE X l tl) : PI X tg l (iList K tl) := by subst h; exact pi_list hl
theorem k_piT (K : PySem.W.Frag) (h : X.K = K) {tg l : Expr} {tl : TE} (hl : PE X l tl) : PI X tg l (iTup K tl) := by subst h; exact pi_tup hl
theorem k_index (K : PySem.W.Frag) (h : X.K = K) : MtR X "list.index" (rIndex K) := by subst h; exact mt_index
end
/-! ### small things -/
theorem fresh {H : Hp} {p : Addr} (o : HO) (np : H p = none) : ∃ H', upd H p o = H' ∧ Same H H' ∧ H' p = some o := ⟨_, rfl, same_upd np, upd_same⟩
theorem cut_take (xs : List V) (k : Nat) : cutV xs none (some (k : Int)) = xs.take k := by
  unfold cutV
  rw [HT.sIx_nat, HT.sIx_none, List.drop_zero, Nat.sub_zero]
  rcases Nat.le_total k xs.length with h | h
  · rw [Nat.min_eq_left h]
  · rw [Nat.min_eq_right h, List.take_of_length_le h, List.take_length]
theorem cut_drop (xs : List V) (k : Nat) : cutV xs (some (k : Int)) none = xs.drop k := by
  unfold cutV
  rw [HT.sIx_nat, HT.sIx_none]
  rcases Nat.le_total k xs.length with h | h
  · rw [Nat.min_eq_left h, List.take_of_length_le (by rw [List.length_drop]; exact Nat.le_refl _)]
  · rw [Nat.min_eq_right h, List.drop_length, List.drop_of_length_le h, List.take_nil]
theorem rep_ints (k : Nat) (ks : List Int) : (List.replicate k (ks.map V.int)).flatten = ((List.replicate k ks).flatten).map V.int := by
  rw [List.map_flatten, List.map_replicate]
theorem rep_len {α : Type} (k : Nat) (ks : List α) : ((List.replicate k ks).flatten).length = k * ks.length := by
  induction k with
  | zero => simp
  | succ k ih => rw [List.replicate_succ, List.flatten_cons, List.length_append, ih, Nat.succ_mul]; omega
theorem rep_mem {α : Type} {k : Nat} {ks : List α} {x : α} (h : x ∈ (List.replicate k ks).flatten) : x ∈ ks := by
  obtain ⟨l, hl, hx⟩ := List.mem_flatten.mp h
  rw [(List.mem_replicate.mp hl).2] at hx
  exact hx
end Pre

namespace My
open PySem PySem.Spec PyProof.Rows L2
theorem nil_binds {K : PySem.W.Frag} {fd : FuncData} {ps : List Str} (h : ∃ ds, Vals [] ds ∧ Binds K fd ps ds) : Binds K fd ps [] := by
  obtain ⟨ds, v, b⟩ := h
  cases v
  exact b
def top (i : Nat) : Stmt := PySem.Challenge.pw_wholesound_k52_shares_means_and_gaps.main.body.getD i (.Pass ⟨0, 0, 0, 0⟩)
abbrev FnP (K : PySem.W.Frag) (x : Str) (st : Stmt) (f : Addr) (fd : FuncData) : Prop := FunD K x x (defArgs st) (defBody st) (defScope st) [] [] f fd
abbrev s_is_whole : Stmt := top 6
abbrev N_is_whole : List Str := ["value"]
theorem sc_is_whole : FnScope N_is_whole ["value"] (defScope s_is_whole) := ⟨rfl, rfl, rfl, by decide +kernel, rfl, by decide +kernel, by decide +kernel⟩
abbrev s_is_between : Stmt := top 7
abbrev N_is_between : List Str := ["value", "low", "high"]
theorem sc_is_between : FnScope N_is_between ["value", "low", "high"] (defScope s_is_between) := ⟨rfl, rfl, rfl, by decide +kernel, rfl, by decide +kernel, by decide +kernel⟩
abbrev s_common_divisor : Stmt := top 8
abbrev N_common_divisor : List Str := ["one", "other"]
theorem sc_common_divisor : FnScope N_common_divisor ["one", "other"] (defScope s_common_divisor) := ⟨rfl, rfl, rfl, by decide +kernel, rfl, by decide +kernel, by decide +kernel⟩
abbrev s_fraction : Stmt := top 9
abbrev N_fraction : List Str := ["top", "under", "common"]
theorem sc_fraction : FnScope N_fraction ["top", "under"] (defScope s_fraction) := ⟨rfl, rfl, rfl, by decide +kernel, rfl, by decide +kernel, by decide +kernel⟩
abbrev s_check_depth : Stmt := top 10
abbrev N_check_depth : List Str := ["depth", "most"]
theorem sc_check_depth : FnScope N_check_depth ["depth", "most"] (defScope s_check_depth) := ⟨rfl, rfl, rfl, by decide +kernel, rfl, by decide +kernel, by decide +kernel⟩
abbrev s_check_width : Stmt := top 13
abbrev N_check_width : List Str := ["width", "depth"]
theorem sc_check_width : FnScope N_check_width ["width", "depth"] (defScope s_check_width) := ⟨rfl, rfl, rfl, by decide +kernel, rfl, by decide +kernel, by decide +kernel⟩
abbrev s_fair : Stmt := top 14
abbrev N_fair : List Str := ["depth", "width", "whole"]
theorem sc_fair : FnScope N_fair ["depth", "width"] (defScope s_fair) := ⟨rfl, rfl, rfl, by decide +kernel, rfl, by decide +kernel, by decide +kernel⟩
abbrev s_twice_mean : Stmt := top 15
abbrev N_twice_mean : List Str := ["depth", "width"]
theorem sc_twice_mean : FnScope N_twice_mean ["depth", "width"] (defScope s_twice_mean) := ⟨rfl, rfl, rfl, by decide +kernel, rfl, by decide +kernel, by decide +kernel⟩
abbrev s_mean : Stmt := top 16
abbrev N_mean : List Str := ["depth", "width"]
theorem sc_mean : FnScope N_mean ["depth", "width"] (defScope s_mean) := ⟨rfl, rfl, rfl, by decide +kernel, rfl, by decide +kernel, by decide +kernel⟩
abbrev s_least_means : Stmt := top 17
abbrev N_least_means : List Str := ["depth", "means", "width"]
theorem sc_least_means : FnScope N_least_means ["depth"] (defScope s_least_means) := ⟨rfl, rfl, rfl, by decide +kernel, rfl, by decide +kernel, by decide +kernel⟩
abbrev s_gap : Stmt := top 18
abbrev N_gap : List Str := ["one", "other", "depth"]
theorem sc_gap : FnScope N_gap ["one", "other", "depth"] (defScope s_gap) := ⟨rfl, rfl, rfl, by decide +kernel, rfl, by decide +kernel, by decide +kernel⟩
abbrev s_law_cell : Stmt := top 20
abbrev N_law_cell : List Str := ["_law_script", "_law_index"]
theorem sc_law_cell : FnScope N_law_cell ["_law_script", "_law_index"] (defScope s_law_cell) := ⟨rfl, rfl, rfl, by decide +kernel, rfl, by decide +kernel, by decide +kernel⟩
abbrev s_law_hash : Stmt := top 21
abbrev N_law_hash : List Str := ["_law_seed", "_law_index", "_law_mixed"]
theorem sc_law_hash : FnScope N_law_hash ["_law_seed", "_law_index"] (defScope s_law_hash) := ⟨rfl, rfl, rfl, by decide +kernel, rfl, by decide +kernel, by decide +kernel⟩
abbrev s_law_generator : Stmt := top 22
abbrev N_law_generator : List Str := ["_law_script", "_law_index", "_law_seed"]
theorem sc_law_generator : FnScope N_law_generator ["_law_script", "_law_index"] (defScope s_law_generator) := ⟨rfl, rfl, rfl, by decide +kernel, rfl, by decide +kernel, by decide +kernel⟩
abbrev s_law_random : Stmt := top 23
abbrev N_law_random : List Str := ["_law_generator_here", "_law_bound", "_law_drawn", "_law_turn"]
theorem sc_law_random : FnScope N_law_random ["_law_generator_here", "_law_bound"] (defScope s_law_random) := ⟨rfl, rfl, rfl, by decide +kernel, rfl, by decide +kernel, by decide +kernel⟩
abbrev s_law_common : Stmt := top 24
abbrev N_law_common : List Str := ["_law_one", "_law_other"]
theorem sc_law_common : FnScope N_law_common ["_law_one", "_law_other"] (defScope s_law_common) := ⟨rfl, rfl, rfl, by decide +kernel, rfl, by decide +kernel, by decide +kernel⟩
abbrev s_law_lowest : Stmt := top 25
abbrev N_law_lowest : List Str := ["_law_over", "_law_under", "_law_common_here"]
theorem sc_law_lowest : FnScope N_law_lowest ["_law_over", "_law_under"] (defScope s_law_lowest) := ⟨rfl, rfl, rfl, by decide +kernel, rfl, by decide +kernel, by decide +kernel⟩
abbrev s_law_prices : Stmt := top 26
abbrev N_law_prices : List Str := ["_law_depth", "_law_width", "_law_fold"]
theorem sc_law_prices : FnScope N_law_prices ["_law_depth", "_law_width"] (defScope s_law_prices) := ⟨rfl, rfl, rfl, by decide +kernel, rfl, by decide +kernel, by decide +kernel⟩
abbrev s_law_right : Stmt := top 27
abbrev N_law_right : List Str := ["_law_depth", "_law_width", "_law_other", "_law_told", "_law_greatest", "_law_more", "_law_gaps", "_law_fold", "_law_price"]
theorem sc_law_right : FnScope N_law_right ["_law_depth", "_law_width", "_law_other"] (defScope s_law_right) := ⟨rfl, rfl, rfl, by decide +kernel, rfl, by decide +kernel, by decide +kernel⟩
abbrev s_law_least_right : Stmt := top 28
abbrev N_law_least_right : List Str := ["_law_depth", "_law_sums", "_law_width"]
theorem sc_law_least_right : FnScope N_law_least_right ["_law_depth"] (defScope s_law_least_right) := ⟨rfl, rfl, rfl, by decide +kernel, rfl, by decide +kernel, by decide +kernel⟩
abbrev s_law : Stmt := top 29
abbrev N_law : List Str := ["_law_script", "_law_index", "_law_generator_here", "_law_depth", "_law_width", "_law_other"]
theorem sc_law : FnScope N_law ["_law_script"] (defScope s_law) := ⟨rfl, rfl, rfl, by decide +kernel, rfl, by decide +kernel, by decide +kernel⟩
/-- what the top has left -/
structure Top (K : PySem.W.Frag) (mg : Str → Option Value) where
  f_is_whole : Addr
  fd_is_whole : FuncData
  F_is_whole : FunD K "is_whole" "is_whole" (defArgs s_is_whole) (defBody s_is_whole) (defScope s_is_whole) [] [] f_is_whole fd_is_whole
  g_is_whole : mg "is_whole" = some (.ref f_is_whole)
  b_is_whole : Binds K fd_is_whole ["value"] []
  f_is_between : Addr
  fd_is_between : FuncData
  F_is_between : FunD K "is_between" "is_between" (defArgs s_is_between) (defBody s_is_between) (defScope s_is_between) [] [] f_is_between fd_is_between
  g_is_between : mg "is_between" = some (.ref f_is_between)
  b_is_between : Binds K fd_is_between ["value", "low", "high"] []
  f_common_divisor : Addr
  fd_common_divisor : FuncData
  F_common_divisor : FunD K "common_divisor" "common_divisor" (defArgs s_common_divisor) (defBody s_common_divisor) (defScope s_common_divisor) [] [] f_common_divisor fd_common_divisor
  g_common_divisor : mg "common_divisor" = some (.ref f_common_divisor)
  b_common_divisor : Binds K fd_common_divisor ["one", "other"] []
  f_fraction : Addr
  fd_fraction : FuncData
  F_fraction : FunD K "fraction" "fraction" (defArgs s_fraction) (defBody s_fraction) (defScope s_fraction) [] [] f_fraction fd_fraction
  g_fraction : mg "fraction" = some (.ref f_fraction)
  b_fraction : Binds K fd_fraction ["top", "under"] []
  f_check_depth : Addr
  fd_check_depth : FuncData
  F_check_depth : FunD K "check_depth" "check_depth" (defArgs s_check_depth) (defBody s_check_depth) (defScope s_check_depth) [.int 24] [] f_check_depth fd_check_depth
  g_check_depth : mg "check_depth" = some (.ref f_check_depth)
  b_check_depth : Binds K fd_check_depth ["depth", "most"] []
  e0_check_depth : List Value
  v0_check_depth : Vals [.int 24] e0_check_depth
  b0_check_depth : Binds K fd_check_depth ["depth", "most"] e0_check_depth
  f_check_width : Addr
  fd_check_width : FuncData
  F_check_width : FunD K "check_width" "check_width" (defArgs s_check_width) (defBody s_check_width) (defScope s_check_width) [] [] f_check_width fd_check_width
  g_check_width : mg "check_width" = some (.ref f_check_width)
  b_check_width : Binds K fd_check_width ["width", "depth"] []
  f_fair : Addr
  fd_fair : FuncData
  F_fair : FunD K "fair" "fair" (defArgs s_fair) (defBody s_fair) (defScope s_fair) [] [] f_fair fd_fair
  g_fair : mg "fair" = some (.ref f_fair)
  b_fair : Binds K fd_fair ["depth", "width"] []
  f_twice_mean : Addr
  fd_twice_mean : FuncData
  F_twice_mean : FunD K "twice_mean" "twice_mean" (defArgs s_twice_mean) (defBody s_twice_mean) (defScope s_twice_mean) [] [] f_twice_mean fd_twice_mean
  g_twice_mean : mg "twice_mean" = some (.ref f_twice_mean)
  b_twice_mean : Binds K fd_twice_mean ["depth", "width"] []
  f_mean : Addr
  fd_mean : FuncData
  F_mean : FunD K "mean" "mean" (defArgs s_mean) (defBody s_mean) (defScope s_mean) [] [] f_mean fd_mean
  g_mean : mg "mean" = some (.ref f_mean)
  b_mean : Binds K fd_mean ["depth", "width"] []
  f_least_means : Addr
  fd_least_means : FuncData
  F_least_means : FunD K "least_means" "least_means" (defArgs s_least_means) (defBody s_least_means) (defScope s_least_means) [] [] f_least_means fd_least_means
  g_least_means : mg "least_means" = some (.ref f_least_means)
  b_least_means : Binds K fd_least_means ["depth"] []
  f_gap : Addr
  fd_gap : FuncData
  F_gap : FunD K "gap" "gap" (defArgs s_gap) (defBody s_gap) (defScope s_gap) [] [] f_gap fd_gap
  g_gap : mg "gap" = some (.ref f_gap)
  b_gap : Binds K fd_gap ["one", "other", "depth"] []
  f_law_cell : Addr
  fd_law_cell : FuncData
  F_law_cell : FunD K "_law_cell" "_law_cell" (defArgs s_law_cell) (defBody s_law_cell) (defScope s_law_cell) [] [] f_law_cell fd_law_cell
  g_law_cell : mg "_law_cell" = some (.ref f_law_cell)
  b_law_cell : Binds K fd_law_cell ["_law_script", "_law_index"] []
  f_law_hash : Addr
  fd_law_hash : FuncData
  F_law_hash : FunD K "_law_hash" "_law_hash" (defArgs s_law_hash) (defBody s_law_hash) (defScope s_law_hash) [] [] f_law_hash fd_law_hash
  g_law_hash : mg "_law_hash" = some (.ref f_law_hash)
  b_law_hash : Binds K fd_law_hash ["_law_seed", "_law_index"] []
  f_law_generator : Addr
  fd_law_generator : FuncData
  F_law_generator : FunD K "_law_generator" "_law_generator" (defArgs s_law_generator) (defBody s_law_generator) (defScope s_law_generator) [] [] f_law_generator fd_law_generator
  g_law_generator : mg "_law_generator" = some (.ref f_law_generator)
  b_law_generator : Binds K fd_law_generator ["_law_script", "_law_index"] []
  f_law_random : Addr
  fd_law_random : FuncData
  F_law_random : FunD K "_law_random" "_law_random" (defArgs s_law_random) (defBody s_law_random) (defScope s_law_random) [] [] f_law_random fd_law_random
  g_law_random : mg "_law_random" = some (.ref f_law_random)
  b_law_random : Binds K fd_law_random ["_law_generator_here", "_law_bound"] []
  f_law_common : Addr
  fd_law_common : FuncData
  F_law_common : FunD K "_law_common" "_law_common" (defArgs s_law_common) (defBody s_law_common) (defScope s_law_common) [] [] f_law_common fd_law_common
  g_law_common : mg "_law_common" = some (.ref f_law_common)
  b_law_common : Binds K fd_law_common ["_law_one", "_law_other"] []
  f_law_lowest : Addr
  fd_law_lowest : FuncData
  F_law_lowest : FunD K "_law_lowest" "_law_lowest" (defArgs s_law_lowest) (defBody s_law_lowest) (defScope s_law_lowest) [] [] f_law_lowest fd_law_lowest
  g_law_lowest : mg "_law_lowest" = some (.ref f_law_lowest)
  b_law_lowest : Binds K fd_law_lowest ["_law_over", "_law_under"] []
  f_law_prices : Addr
  fd_law_prices : FuncData
  F_law_prices : FunD K "_law_prices" "_law_prices" (defArgs s_law_prices) (defBody s_law_prices) (defScope s_law_prices) [] [] f_law_prices fd_law_prices
  g_law_prices : mg "_law_prices" = some (.ref f_law_prices)
  b_law_prices : Binds K fd_law_prices ["_law_depth", "_law_width"] []
  f_law_right : Addr
  fd_law_right : FuncData
  F_law_right : FunD K "_law_right" "_law_right" (defArgs s_law_right) (defBody s_law_right) (defScope s_law_right) [] [] f_law_right fd_law_right
  g_law_right : mg "_law_right" = some (.ref f_law_right)
  b_law_right : Binds K fd_law_right ["_law_depth", "_law_width", "_law_other"] []
  f_law_least_right : Addr
  fd_law_least_right : FuncData
  F_law_least_right : FunD K "_law_least_right" "_law_least_right" (defArgs s_law_least_right) (defBody s_law_least_right) (defScope s_law_least_right) [] [] f_law_least_right fd_law_least_right
  g_law_least_right : mg "_law_least_right" = some (.ref f_law_least_right)
  b_law_least_right : Binds K fd_law_least_right ["_law_depth"] []
  f_law : Addr
  fd_law : FuncData
  F_law : FunD K "law" "law" (defArgs s_law) (defBody s_law) (defScope s_law) [] [] f_law fd_law
  g_law : mg "law" = some (.ref f_law)
  b_law : Binds K fd_law ["_law_script"] []
  n_len : mg "len" = none
  n_sum : mg "sum" = none
  n_max : mg "max" = none
  n_min : mg "min" = none
  n_int : mg "int" = none
  n_bool : mg "bool" = none
  n_range : mg "range" = none
  n_isinstance : mg "isinstance" = none
  n_abs : mg "abs" = none
  t_MOST_DEPTH : Tok
  m_MOST_DEPTH : mg "MOST_DEPTH" = some (.int 24 t_MOST_DEPTH)
  t_MOST_FAIR : Tok
  m_MOST_FAIR : mg "MOST_FAIR" = some (.int 10 t_MOST_FAIR)
def d_is_whole : He.DefD := ⟨("is_whole", none), "is_whole", "is_whole", defArgs s_is_whole, defBody s_is_whole, defScope s_is_whole, [], []⟩
def d_is_between : He.DefD := ⟨("is_between", none), "is_between", "is_between", defArgs s_is_between, defBody s_is_between, defScope s_is_between, [], []⟩
def d_common_divisor : He.DefD := ⟨("common_divisor", none), "common_divisor", "common_divisor", defArgs s_common_divisor, defBody s_common_divisor, defScope s_common_divisor, [], []⟩
def d_fraction : He.DefD := ⟨("fraction", none), "fraction", "fraction", defArgs s_fraction, defBody s_fraction, defScope s_fraction, [], []⟩
def d_check_depth : He.DefD := ⟨("check_depth", none), "check_depth", "check_depth", defArgs s_check_depth, defBody s_check_depth, defScope s_check_depth, [.int 24], []⟩
def d_check_width : He.DefD := ⟨("check_width", none), "check_width", "check_width", defArgs s_check_width, defBody s_check_width, defScope s_check_width, [], []⟩
def d_fair : He.DefD := ⟨("fair", none), "fair", "fair", defArgs s_fair, defBody s_fair, defScope s_fair, [], []⟩
def d_twice_mean : He.DefD := ⟨("twice_mean", none), "twice_mean", "twice_mean", defArgs s_twice_mean, defBody s_twice_mean, defScope s_twice_mean, [], []⟩
def d_mean : He.DefD := ⟨("mean", none), "mean", "mean", defArgs s_mean, defBody s_mean, defScope s_mean, [], []⟩
def d_least_means : He.DefD := ⟨("least_means", none), "least_means", "least_means", defArgs s_least_means, defBody s_least_means, defScope s_least_means, [], []⟩
def d_gap : He.DefD := ⟨("gap", none), "gap", "gap", defArgs s_gap, defBody s_gap, defScope s_gap, [], []⟩
def d_law_cell : He.DefD := ⟨("_law_cell", none), "_law_cell", "_law_cell", defArgs s_law_cell, defBody s_law_cell, defScope s_law_cell, [], []⟩
def d_law_hash : He.DefD := ⟨("_law_hash", none), "_law_hash", "_law_hash", defArgs s_law_hash, defBody s_law_hash, defScope s_law_hash, [], []⟩
def d_law_generator : He.DefD := ⟨("_law_generator", none), "_law_generator", "_law_generator", defArgs s_law_generator, defBody s_law_generator, defScope s_law_generator, [], []⟩
def d_law_random : He.DefD := ⟨("_law_random", none), "_law_random", "_law_random", defArgs s_law_random, defBody s_law_random, defScope s_law_random, [], []⟩
def d_law_common : He.DefD := ⟨("_law_common", none), "_law_common", "_law_common", defArgs s_law_common, defBody s_law_common, defScope s_law_common, [], []⟩
def d_law_lowest : He.DefD := ⟨("_law_lowest", none), "_law_lowest", "_law_lowest", defArgs s_law_lowest, defBody s_law_lowest, defScope s_law_lowest, [], []⟩
def d_law_prices : He.DefD := ⟨("_law_prices", none), "_law_prices", "_law_prices", defArgs s_law_prices, defBody s_law_prices, defScope s_law_prices, [], []⟩
def d_law_right : He.DefD := ⟨("_law_right", none), "_law_right", "_law_right", defArgs s_law_right, defBody s_law_right, defScope s_law_right, [], []⟩
def d_law_least_right : He.DefD := ⟨("_law_least_right", none), "_law_least_right", "_law_least_right", defArgs s_law_least_right, defBody s_law_least_right, defScope s_law_least_right, [], []⟩
def d_law : He.DefD := ⟨("law", none), "law", "law", defArgs s_law, defBody s_law, defScope s_law, [], []⟩
def fn : List He.DefD := [d_is_whole, d_is_between, d_common_divisor, d_fraction, d_check_depth, d_check_width, d_fair, d_twice_mean, d_mean, d_least_means, d_gap, d_law_cell, d_law_hash, d_law_generator, d_law_random, d_law_common, d_law_lowest, d_law_prices, d_law_right, d_law_least_right, d_law]
def fa : List He.Fa := [.glo "is_whole", .glo "is_between", .glo "common_divisor", .glo "fraction", .glo "check_depth", .glo "check_width", .glo "fair", .glo "twice_mean", .glo "mean", .glo "least_means", .glo "gap", .glo "_law_cell", .glo "_law_hash", .glo "_law_generator", .glo "_law_random", .glo "_law_common", .glo "_law_lowest", .glo "_law_prices", .glo "_law_right", .glo "_law_least_right", .glo "law", .free "len", .free "sum", .free "max", .free "min", .free "int", .free "bool", .free "range", .free "isinstance", .free "abs", .int "MOST_DEPTH" 24, .int "MOST_FAIR" 10]
abbrev R : PySem.W.OpenRow := PySem.W.OpenLaw.row PySem.Challenge.rw_wholesound_k52_shares_means_and_gaps
abbrev hk : PySem.W.Hook := He.hookD 4 fa fn
def ob (s : PySem.W.SharedT) : He.AlD := He.obsDG 4 fa fn (HandSHeadRun.getT s)
theorem ob_eq (s : PySem.W.SharedT) : ob s = hk.obs s.abs := He.obsDG_eq (HandSHeadRun.getT_eq s)
def loose0 : List PySem.Str := ["SoundError", "InvalidDepth", "InvalidWidth", "MOST_DEPTH", "is_whole", "is_between", "common_divisor", "fraction", "check_depth", "MOST_FAIR", "check_width", "fair", "twice_mean", "mean", "least_means", "gap", "_law_cell", "_law_hash", "_law_generator", "_law_random", "_law_common", "_law_lowest", "_law_prices", "_law_right", "_law_least_right"]
abbrev loose : List PySem.Str := loose0
theorem run (w : World) : HandSHeadRun.RunEq R (PySem.W.view R.prog [29]) hk ob 4000 loose w := by
  intro os
  kernel_rfl
noncomputable def top_mk {K : PySem.W.Frag} {h : Heap} {mg : Str → Option Value} (X : K.In h) (G : h.Ns mainGlobals mg) (c : He.SaysD fa fn K) : Top K mg :=
  let p0 := c.def_ 0 (d := d_is_whole) rfl
  let p1 := c.def_ 1 (d := d_is_between) rfl
  let p2 := c.def_ 2 (d := d_common_divisor) rfl
  let p3 := c.def_ 3 (d := d_fraction) rfl
  let p4 := c.def_ 4 (d := d_check_depth) rfl
  let p5 := c.def_ 5 (d := d_check_width) rfl
  let p6 := c.def_ 6 (d := d_fair) rfl
  let p7 := c.def_ 7 (d := d_twice_mean) rfl
  let p8 := c.def_ 8 (d := d_mean) rfl
  let p9 := c.def_ 9 (d := d_least_means) rfl
  let p10 := c.def_ 10 (d := d_gap) rfl
  let p11 := c.def_ 11 (d := d_law_cell) rfl
  let p12 := c.def_ 12 (d := d_law_hash) rfl
  let p13 := c.def_ 13 (d := d_law_generator) rfl
  let p14 := c.def_ 14 (d := d_law_random) rfl
  let p15 := c.def_ 15 (d := d_law_common) rfl
  let p16 := c.def_ 16 (d := d_law_lowest) rfl
  let p17 := c.def_ 17 (d := d_law_prices) rfl
  let p18 := c.def_ 18 (d := d_law_right) rfl
  let p19 := c.def_ 19 (d := d_law_least_right) rfl
  let p20 := c.def_ 20 (d := d_law) rfl
  let q0 := He.int_ok X G (c.fact 30 (f := .int "MOST_DEPTH" 24) rfl)
  let q1 := He.int_ok X G (c.fact 31 (f := .int "MOST_FAIR" 10) rfl)
  { f_is_whole := _, fd_is_whole := p0.choose, F_is_whole := p0.choose_spec, g_is_whole := He.glo_ok X G (c.fact 0 (f := .glo "is_whole") rfl), b_is_whole := p0.choose_spec.bindsN fun _ _ _ _ _ _ us hl => match us, hl with | [_], _ => rfl,
    f_is_between := _, fd_is_between := p1.choose, F_is_between := p1.choose_spec, g_is_between := He.glo_ok X G (c.fact 1 (f := .glo "is_between") rfl), b_is_between := p1.choose_spec.bindsN fun _ _ _ _ _ _ us hl => match us, hl with | [_, _, _], _ => rfl,
    f_common_divisor := _, fd_common_divisor := p2.choose, F_common_divisor := p2.choose_spec, g_common_divisor := He.glo_ok X G (c.fact 2 (f := .glo "common_divisor") rfl), b_common_divisor := p2.choose_spec.bindsN fun _ _ _ _ _ _ us hl => match us, hl with | [_, _], _ => rfl,
    f_fraction := _, fd_fraction := p3.choose, F_fraction := p3.choose_spec, g_fraction := He.glo_ok X G (c.fact 3 (f := .glo "fraction") rfl), b_fraction := p3.choose_spec.bindsN fun _ _ _ _ _ _ us hl => match us, hl with | [_, _], _ => rfl,
    f_check_depth := _, fd_check_depth := p4.choose, F_check_depth := p4.choose_spec, g_check_depth := He.glo_ok X G (c.fact 4 (f := .glo "check_depth") rfl), b_check_depth := nil_binds (p4.choose_spec.binds1 (ps := ["depth", "most"]) 2 1 (by simp [He.DefD.dvs, d_check_depth]) rfl fun _ _ _ _ _ _ _ us its h1 h2 => match us, its, h1, h2 with | [_, _], [_], _, _ => ⟨_, rfl, rfl⟩), e0_check_depth := (p4.choose_spec.binds1 (ps := ["depth", "most"]) 1 0 (by simp [He.DefD.dvs, d_check_depth]) rfl fun _ _ _ _ _ _ _ us its h1 h2 => match us, its, h1, h2 with | [_], [_], _, _ => ⟨_, rfl, rfl⟩).choose, v0_check_depth := (p4.choose_spec.binds1 (ps := ["depth", "most"]) 1 0 (by simp [He.DefD.dvs, d_check_depth]) rfl fun _ _ _ _ _ _ _ us its h1 h2 => match us, its, h1, h2 with | [_], [_], _, _ => ⟨_, rfl, rfl⟩).choose_spec.1, b0_check_depth := (p4.choose_spec.binds1 (ps := ["depth", "most"]) 1 0 (by simp [He.DefD.dvs, d_check_depth]) rfl fun _ _ _ _ _ _ _ us its h1 h2 => match us, its, h1, h2 with | [_], [_], _, _ => ⟨_, rfl, rfl⟩).choose_spec.2,
    f_check_width := _, fd_check_width := p5.choose, F_check_width := p5.choose_spec, g_check_width := He.glo_ok X G (c.fact 5 (f := .glo "check_width") rfl), b_check_width := p5.choose_spec.bindsN fun _ _ _ _ _ _ us hl => match us, hl with | [_, _], _ => rfl,
    f_fair := _, fd_fair := p6.choose, F_fair := p6.choose_spec, g_fair := He.glo_ok X G (c.fact 6 (f := .glo "fair") rfl), b_fair := p6.choose_spec.bindsN fun _ _ _ _ _ _ us hl => match us, hl with | [_, _], _ => rfl,
    f_twice_mean := _, fd_twice_mean := p7.choose, F_twice_mean := p7.choose_spec, g_twice_mean := He.glo_ok X G (c.fact 7 (f := .glo "twice_mean") rfl), b_twice_mean := p7.choose_spec.bindsN fun _ _ _ _ _ _ us hl => match us, hl with | [_, _], _ => rfl,
    f_mean := _, fd_mean := p8.choose, F_mean := p8.choose_spec, g_mean := He.glo_ok X G (c.fact 8 (f := .glo "mean") rfl), b_mean := p8.choose_spec.bindsN fun _ _ _ _ _ _ us hl => match us, hl with | [_, _], _ => rfl,
    f_least_means := _, fd_least_means := p9.choose, F_least_means := p9.choose_spec, g_least_means := He.glo_ok X G (c.fact 9 (f := .glo "least_means") rfl), b_least_means := p9.choose_spec.bindsN fun _ _ _ _ _ _ us hl => match us, hl with | [_], _ => rfl,
    f_gap := _, fd_gap := p10.choose, F_gap := p10.choose_spec, g_gap := He.glo_ok X G (c.fact 10 (f := .glo "gap") rfl), b_gap := p10.choose_spec.bindsN fun _ _ _ _ _ _ us hl => match us, hl with | [_, _, _], _ => rfl,
    f_law_cell := _, fd_law_cell := p11.choose, F_law_cell := p11.choose_spec, g_law_cell := He.glo_ok X G (c.fact 11 (f := .glo "_law_cell") rfl), b_law_cell := p11.choose_spec.bindsN fun _ _ _ _ _ _ us hl => match us, hl with | [_, _], _ => rfl,
    f_law_hash := _, fd_law_hash := p12.choose, F_law_hash := p12.choose_spec, g_law_hash := He.glo_ok X G (c.fact 12 (f := .glo "_law_hash") rfl), b_law_hash := p12.choose_spec.bindsN fun _ _ _ _ _ _ us hl => match us, hl with | [_, _], _ => rfl,
    f_law_generator := _, fd_law_generator := p13.choose, F_law_generator := p13.choose_spec, g_law_generator := He.glo_ok X G (c.fact 13 (f := .glo "_law_generator") rfl), b_law_generator := p13.choose_spec.bindsN fun _ _ _ _ _ _ us hl => match us, hl with | [_, _], _ => rfl,
    f_law_random := _, fd_law_random := p14.choose, F_law_random := p14.choose_spec, g_law_random := He.glo_ok X G (c.fact 14 (f := .glo "_law_random") rfl), b_law_random := p14.choose_spec.bindsN fun _ _ _ _ _ _ us hl => match us, hl with | [_, _], _ => rfl,
    f_law_common := _, fd_law_common := p15.choose, F_law_common := p15.choose_spec, g_law_common := He.glo_ok X G (c.fact 15 (f := .glo "_law_common") rfl), b_law_common := p15.choose_spec.bindsN fun _ _ _ _ _ _ us hl => match us, hl with | [_, _], _ => rfl,
    f_law_lowest := _, fd_law_lowest := p16.choose, F_law_lowest := p16.choose_spec, g_law_lowest := He.glo_ok X G (c.fact 16 (f := .glo "_law_lowest") rfl), b_law_lowest := p16.choose_spec.bindsN fun _ _ _ _ _ _ us hl => match us, hl with | [_, _], _ => rfl,
    f_law_prices := _, fd_law_prices := p17.choose, F_law_prices := p17.choose_spec, g_law_prices := He.glo_ok X G (c.fact 17 (f := .glo "_law_prices") rfl), b_law_prices := p17.choose_spec.bindsN fun _ _ _ _ _ _ us hl => match us, hl with | [_, _], _ => rfl,
    f_law_right := _, fd_law_right := p18.choose, F_law_right := p18.choose_spec, g_law_right := He.glo_ok X G (c.fact 18 (f := .glo "_law_right") rfl), b_law_right := p18.choose_spec.bindsN fun _ _ _ _ _ _ us hl => match us, hl with | [_, _, _], _ => rfl,
    f_law_least_right := _, fd_law_least_right := p19.choose, F_law_least_right := p19.choose_spec, g_law_least_right := He.glo_ok X G (c.fact 19 (f := .glo "_law_least_right") rfl), b_law_least_right := p19.choose_spec.bindsN fun _ _ _ _ _ _ us hl => match us, hl with | [_], _ => rfl,
    f_law := _, fd_law := p20.choose, F_law := p20.choose_spec, g_law := He.glo_ok X G (c.fact 20 (f := .glo "law") rfl), b_law := p20.choose_spec.bindsN fun _ _ _ _ _ _ us hl => match us, hl with | [_], _ => rfl,
    n_len := He.free_ok X G (c.fact 21 (f := .free "len") rfl),
    n_sum := He.free_ok X G (c.fact 22 (f := .free "sum") rfl),
    n_max := He.free_ok X G (c.fact 23 (f := .free "max") rfl),
    n_min := He.free_ok X G (c.fact 24 (f := .free "min") rfl),
    n_int := He.free_ok X G (c.fact 25 (f := .free "int") rfl),
    n_bool := He.free_ok X G (c.fact 26 (f := .free "bool") rfl),
    n_range := He.free_ok X G (c.fact 27 (f := .free "range") rfl),
    n_isinstance := He.free_ok X G (c.fact 28 (f := .free "isinstance") rfl),
    n_abs := He.free_ok X G (c.fact 29 (f := .free "abs") rfl),
    t_MOST_DEPTH := q0.choose, m_MOST_DEPTH := q0.choose_spec,
    t_MOST_FAIR := q1.choose, m_MOST_FAIR := q1.choose_spec }
end My

namespace My
open PySem PySem.Spec PyProof.Rows L2 Pre
section
variable {P : Program} {w : World} {K : PySem.W.Frag} {mg : Str → Option Value} {base : Heap}
/-! ### is_whole, is_between, of whole numbers -/
def sp_is_whole : Sp := fun vs H Q _ => ∃ i : Int, vs = [.int i] ∧ Q (.bl true) H
theorem G_is_whole (T : Top K mg) : FnOk P w K mg base CX0 1 T.f_is_whole T.fd_is_whole ["value"] sp_is_whole := by
  refine T.F_is_whole.ok sc_is_whole (fun vs H Q E h => by obtain ⟨i, rfl, _⟩ := h; rfl) (fun cdv A outer s H vs Q E hr h => ?_)
  obtain ⟨i, rfl, q⟩ := h
  refine ⟨_, PSs.nox (pss_one (ps_ret (pe_and (pe_callB (k_isi K rfl) (by rfl) T.n_isinstance (by decide +kernel) (pa_cons (pv 0) (pa_cons (pe_bltn (v := .ty "int") (by rfl) T.n_int (by decide +kernel) rfl) pa_nil))) (pe_one (pe_not (pe_callB (k_isi K rfl) (by rfl) T.n_isinstance (by decide +kernel) (pa_cons (pv 0) (pa_cons (pe_bltn (v := .ty "bool") (by rfl) T.n_bool (by decide +kernel) rfl) pa_nil)))))))), ?_⟩
  refine ⟨_, rfl, _, _, _, _, true, rfl, .ty _, .base (.int i), kit_ty (by decide +kernel), true, rfl, iteT ?_⟩
  exact ⟨_, rfl, _, _, _, _, false, rfl, .ty _, .base (.int i), kit_ty (by decide +kernel), false, rfl, q⟩
/-- value a whole number, low one, high None or one -/
def sp_is_between : Sp := fun vs H Q _ => ∃ (i lo : Int) (hi : Option Int), vs = [.int i, .int lo, (match hi with | some j => .int j | none => .non)] ∧ Q (.bl (decide (lo ≤ i ∧ ∀ j, hi = some j → i ≤ j))) H
theorem G_is_between (T : Top K mg) : FnOk P w K mg base CX0 2 T.f_is_between T.fd_is_between ["value", "low", "high"] sp_is_between := by
  refine T.F_is_between.ok sc_is_between (fun vs H Q E h => by obtain ⟨i, lo, hi, rfl, _⟩ := h; rfl) (fun cdv A outer s H vs Q E hr h => ?_)
  obtain ⟨i, lo, hi, rfl, q⟩ := h
  refine ⟨_, PSs.nox (pss_one (ps_ret (pe_and (pe_call (G_is_whole T) (hr.mono (by decide)) (by rfl) T.g_is_whole T.F_is_whole.kp T.b_is_whole .nil pass0 (pa_cons (pv 0) pa_nil)) (pe_and (pe_cmpR op_le (pv 1) (pv 0) (nomark _)) (pe_one (pe_or (pe_cmpR op_isN (pv 2) pe_non (nomark _)) (pe_one (pe_cmpR op_le (pv 0) (pv 2) (nomark _))))))))), ?_⟩
  refine ⟨_, rfl, i, rfl, true, rfl, iteT ?_⟩
  refine ⟨_, rfl, _, rfl, _, _, rfl, rfl, _, rfl, ite2 (fun e => ?_) (fun e => ?_)⟩
  · have e1 : lo ≤ i := of_decide_eq_true e
    cases hi with
    | none =>
      refine ⟨_, rfl, rfl, _, rfl, iteT ?_⟩
      rw [decide_eq_true ⟨e1, fun j h => nomatch h⟩] at q
      exact q
    | some j =>
      refine ⟨_, rfl, rfl, _, rfl, iteF ⟨_, rfl, _, rfl, _, _, rfl, rfl, ?_⟩⟩
      have e2 : decide (lo ≤ i ∧ ∀ j', some j = some j' → i ≤ j') = decide (i ≤ j) := by
        by_cases h : i ≤ j
        · rw [decide_eq_true h, decide_eq_true]
          exact ⟨e1, fun j' e => by cases e; exact h⟩
        · rw [decide_eq_false h, decide_eq_false]
          exact fun z => h (z.2 j rfl)
      rw [e2] at q
      exact q
  · have e1 : ¬ lo ≤ i := fun h => e (decide_eq_true h)
    rw [decide_eq_false fun z => e1 z.1] at q
    exact q
end
end My

set_option exponentiation.threshold 100000
namespace My
open PySem PySem.Spec PyProof.Rows L2 Pre
section
variable {P : Program} {w : World} {K : PySem.W.Frag} {mg : Str → Option Value} {base : Heap}
/-! ### the law's draws -/
/-- a generator: its count is at most n -/
def GenAt (H : Hp) (g : Addr) (n : Nat) : Prop := ∃ x y z : Int, H g = some (.lst [.int x, .int y, .int z]) ∧ 0 ≤ z ∧ z ≤ (n : Int)
/-- all but one thing stand as they stood -/
def But (g : Addr) (H H' : Hp) : Prop := ∀ b o, b ≠ g → H b = some o → H' b = some o
theorem But.refl {g : Addr} {H : Hp} : But g H H := fun _ _ _ h => h
theorem But.trans {g : Addr} {H H1 H2 : Hp} (a : But g H H1) (b : But g H1 H2) : But g H H2 := fun c o n h => b c o n (a c o n h)
theorem But.same {g : Addr} {H H1 H2 : Hp} (a : But g H H1) (b : Same H1 H2) : But g H H2 := fun c o n h => b c o (a c o n h)
theorem But.of {g : Addr} {H H1 : Hp} (b : Same H H1) : But g H H1 := fun c o _ h => b c o h
theorem But.upd {g : Addr} {H H1 : Hp} {o : HO} (a : But g H H1) : But g H (upd H1 g o) := fun c u n h => by
  rw [upd_ne n]
  exact a c u n h
theorem But.free {g : Addr} {H H1 : Hp} (a : But g H H1) {p : Addr} (n : p ≠ g) (h : H1 p = none) : H p = none := by
  cases e : H p with
  | none => rfl
  | some o => rw [a p o n e] at h; cases h
/-- what is changed was not there at first -/
theorem But.fresh {g : Addr} {H H1 H2 : Hp} (s : Same H H1) (n : H g = none) (b : But g H1 H2) : Same H H2 := fun c o h => b c o (ne_of_none h n) (s c o h)
theorem GenAt.mono {H : Hp} {g : Addr} {n m : Nat} (h : GenAt H g n) (l : n ≤ m) : GenAt H g m := by
  obtain ⟨x, y, z, a, b, c⟩ := h
  exact ⟨x, y, z, a, b, by omega⟩
theorem GenAt.same {H H' : Hp} {g : Addr} {n : Nat} (h : GenAt H g n) (s : Same H H') : GenAt H' g n := by
  obtain ⟨x, y, z, a, b⟩ := h
  exact ⟨x, y, z, s _ _ a, b⟩
theorem GenAt.ne {H : Hp} {g : Addr} {n : Nat} {p : Addr} (h : GenAt H g n) (np : H p = none) : p ≠ g := by
  obtain ⟨x, y, z, a, _⟩ := h
  exact (ne_of_none a np).symm
theorem small_2900 {b : Int} (h : b ≤ 2 ^ 60) : b < 2 ^ 2900 := by omega
theorem pow_pos' (w : Nat) : (0 : Int) < 2 ^ w := Int.pow_pos (by decide)
theorem pow2_le {k m : Nat} (h : k ≤ m) : (2 : Int) ^ k ≤ 2 ^ m := by
  have e := Nat.pow_le_pow_right (show 0 < 2 by decide) h
  have e2 : ((2 ^ k : Nat) : Int) ≤ ((2 ^ m : Nat) : Int) := Int.ofNat_le.mpr e
  rw [Int.natCast_pow, Int.natCast_pow] at e2
  exact e2
def sp_law_cell (K : PySem.W.Frag) : Sp := fun vs H Q _ => ∃ (a : Addr) (ns : List Int) (i : Nat), vs = [.ref a, .int i] ∧ SqL K H a (ns.map V.int) ∧ ∀ (n : Int) H', Same H H' → Q (.int n) H'
theorem G_law_cell (T : Top K mg) : FnOk P w K mg base CX0 1 T.f_law_cell T.fd_law_cell ["_law_script", "_law_index"] (sp_law_cell K) := by
  refine T.F_law_cell.ok sc_law_cell (fun vs H Q E h => by obtain ⟨a, ns, i, rfl, _⟩ := h; rfl) (fun cdv A outer s H vs Q E hr h => ?_)
  obtain ⟨a, ns, i, rfl, hS, q⟩ := h
  refine ⟨_, PSs.nox (pss_cons (ps_if (pt_cmpR op_lt (pv 1) (pe_callB (k_len K rfl) (by rfl) T.n_len (by decide +kernel) (pa_cons (pv 0) pa_nil)) (nomark _))
    (pss_one (ps_ret (pe_ix (k_ixL K rfl) (pv 0) (pv 1) (fun _ _ => rfl))))
    pss_nil)
  (pss_one (ps_ret (pe_op op_mod (pe_callB (k_sum K rfl rfl) (by rfl) T.n_sum (by decide +kernel) (pa_cons (pe_slice (k_slL K rfl) (pv 0) po_none (po_some pe_int)) pa_nil)) pe_int)))), ?_⟩
  refine ⟨_, rfl, _, rfl, a, _, rfl, .inl hS, _, _, rfl, rfl, _, rfl, ite2 (fun e => ?_) (fun e => ?_)⟩
  · have e1 : (i : Int) < (((ns.map V.int).length : Nat) : Int) := of_decide_eq_true e
    rw [List.length_map] at e1
    have hi : i < ns.length := by omega
    refine ⟨_, rfl, _, rfl, a, _, _, .int ns[i], rfl, rfl, hS, atI_nat (by rw [List.getElem?_map, List.getElem?_eq_getElem hi]; rfl), ?_⟩
    exact q _ _ (Same.refl _)
  · refine ⟨_, rfl, _, rfl, a, _, rfl, hS, fun p np => ?_⟩
    have ec : ∃ ms : List Int, cutV (ns.map V.int) none (some 1) = ms.map V.int := by
      unfold cutV
      exact ⟨(ns.drop (HT.sIx (ns.map V.int).length 0 none)).take (HT.sIx (ns.map V.int).length (ns.map V.int).length (some 1) - HT.sIx (ns.map V.int).length 0 none), by rw [List.map_take, List.map_drop]⟩
    obtain ⟨ms, em⟩ := ec
    refine ⟨p, ms, rfl, .inl (.inl (by rw [upd_same, em])), _, _, rfl, rfl, (by show (0 : Int) < 1000003; decide), ?_⟩
    exact q _ _ (same_upd np)
theorem cmul_mod (x m j : Int) (h0 : 0 < m) (h1 : m ≤ 2 ^ 60) : CMul (x % m) j := by
  have a := Int.emod_nonneg x (show m ≠ 0 by omega)
  have b := Int.emod_lt_of_pos x h0
  exact .inl ⟨by omega, by omega⟩
def sp_law_hash : Sp := fun vs H Q _ => ∃ i j : Int, vs = [.int i, .int j] ∧ 0 ≤ j ∧ j < 2 ^ 60 ∧ ∀ n : Int, Q (.int n) H
theorem G_law_hash (T : Top K mg) : FnOk P w K mg base CX0 1 T.f_law_hash T.fd_law_hash ["_law_seed", "_law_index"] sp_law_hash := by
  refine T.F_law_hash.ok sc_law_hash (fun vs H Q E h => by obtain ⟨i, j, rfl, _⟩ := h; rfl) (fun cdv A outer s H vs Q E hr h => ?_)
  obtain ⟨i, j, rfl, h0, h1, q⟩ := h
  refine ⟨_, PSs.nox (pss_cons (ps_set (i := 2) sc_law_hash.nd rfl (by first | exact Or.inl rfl | exact Or.inr rfl) (pe_op op_mod (pe_callTy call_int1 (by rfl) T.n_int (by decide +kernel) (pa_cons (pe_op op_add (pe_op op_add (pe_op op_add (pe_op op_mul (pv 0) pe_int) (pe_op op_mul (pe_op op_mul pe_int (pv 1)) (pv 1))) (pv 1)) pe_int) pa_nil)) pe_int))
  (pss_cons (ps_set (i := 2) sc_law_hash.nd rfl (by first | exact Or.inl rfl | exact Or.inr rfl) (pe_op op_mod (pe_callTy call_int1 (by rfl) T.n_int (by decide +kernel) (pa_cons (pe_op op_add (pe_op op_mul (pv 2) (pv 2)) pe_int) pa_nil)) pe_int))
  (pss_one (ps_ret (pe_op op_mod (pe_callTy call_int1 (by rfl) T.n_int (by decide +kernel) (pa_cons (pe_op op_mul (pv 2) pe_int) pa_nil)) pe_int))))), ?_⟩
  refine ⟨_, rfl, _, _, rfl, rfl, .inr ⟨by decide, by decide⟩, _, rfl, _, _, rfl, rfl, .inl ⟨by decide, by decide⟩, _, rfl, _, _, rfl, rfl, .inr ⟨by omega, by omega⟩, _, _, rfl, rfl, _, rfl, _, _, rfl, rfl, _, _, rfl, rfl,
    .inl ⟨_, rfl, _, _, rfl, rfl, (by show (0 : Int) < _; decide), ?_⟩⟩
  refine ⟨_, rfl, _, rfl, _, _, rfl, rfl, cmul_mod _ _ _ (by decide) (by decide), _, _, rfl, rfl, .inl ⟨_, rfl, _, _, rfl, rfl, (by show (0 : Int) < _; decide), ?_⟩⟩
  refine ⟨_, rfl, _, _, rfl, rfl, .inr ⟨by decide, by decide⟩, .inl ⟨_, rfl, _, _, rfl, rfl, (by show (0 : Int) < _; decide), ?_⟩⟩
  exact q _

def sp_law_generator (K : PySem.W.Frag) : Sp := fun vs H Q _ => ∃ (a : Addr) (ns : List Int) (i : Nat), vs = [.ref a, .int i] ∧ SqL K H a (ns.map V.int) ∧ ∀ H' g, Same H H' → H g = none → GenAt H' g (1000 * i) → Q (.ref g) H'
theorem G_law_generator (T : Top K mg) : FnOk P w K mg base CX0 2 T.f_law_generator T.fd_law_generator ["_law_script", "_law_index"] (sp_law_generator K) := by
  refine T.F_law_generator.ok sc_law_generator (fun vs H Q E h => by obtain ⟨a, ns, i, rfl, _⟩ := h; rfl) (fun cdv A outer s H vs Q E hr h => ?_)
  obtain ⟨a, ns, i, rfl, hS, q⟩ := h
  refine ⟨_, PSs.nox (pss_cons (ps_set (i := 2) sc_law_generator.nd rfl (by first | exact Or.inl rfl | exact Or.inr rfl) (pe_call (G_law_cell T) (hr.mono (by decide)) (by rfl) T.g_law_cell T.F_law_cell.kp T.b_law_cell .nil pass0 (pa_cons (pv 0) (pa_cons (pv 1) pa_nil))))
  (pss_one (ps_ret (pe_lst (pa_cons (pe_op op_mod (pe_callTy call_int1 (by rfl) T.n_int (by decide +kernel) (pa_cons (pe_callB (call_max2 rfl) (by rfl) T.n_max (by decide +kernel) (pa_cons (pe_op op_sub (pv 2) (pe_op op_powW pe_int pe_int)) (pa_cons pe_int pa_nil))) pa_nil)) (pe_op op_powW (pe_op op_powW pe_int pe_int) pe_int)) (pa_cons (pe_op op_mod (pe_callTy call_int1 (by rfl) T.n_int (by decide +kernel) (pa_cons (pv 2) pa_nil)) pe_int) (pa_cons (pe_op op_mul pe_int (pv 1)) pa_nil))))))), ?_⟩
  refine ⟨_, rfl, _, rfl, a, ns, i, rfl, hS, fun n H1 s1 => ?_⟩
  refine ⟨_, rfl, _, _, rfl, rfl, ⟨by decide, by decide +kernel⟩, _, _, rfl, rfl, _, _, rfl, .inl ⟨_, rfl, _, _, rfl, rfl, ⟨by decide, by decide +kernel⟩, _, _, rfl, rfl, ⟨by decide, by decide +kernel⟩, _, _, rfl, rfl, (by show (0 : Int) < _; decide +kernel), ?_⟩⟩
  refine ⟨_, rfl, .inl ⟨_, rfl, _, _, rfl, rfl, (by show (0 : Int) < _; decide), ?_⟩⟩
  refine ⟨_, rfl, _, _, rfl, rfl, .inl ⟨by decide, by decide⟩, (show 3 ≤ sizeLine by decide), fun g ng => ?_⟩
  exact q _ g (s1.trans (same_upd ng)) (s1.free ng) ⟨_, _, _, upd_same, by omega, by omega⟩
def sp_law_random : Sp := fun vs H Q _ => ∃ (g : Addr) (b : Int) (n : Nat), vs = [.ref g, .int b] ∧ GenAt H g n ∧ n ≤ 10 ^ 12 ∧ 0 < b ∧ b < 2 ^ 2900 ∧ ∀ (d : Int) H', 0 ≤ d → d < b → GenAt H' g (n + 100) → But g H H' → Q (.int d) H'
theorem G_law_random (T : Top K mg) : FnOk P w K mg base CX0 2 T.f_law_random T.fd_law_random ["_law_generator_here", "_law_bound"] sp_law_random := by
  refine T.F_law_random.ok sc_law_random (fun vs H Q E h => by obtain ⟨g, b, n, rfl, _⟩ := h; rfl) (fun cdv A outer s H vs Q E hr h => ?_)
  obtain ⟨g, b, n, rfl, ⟨x, y, z, hg, z0, z1⟩, hn, b0, b1, q⟩ := h
  refine ⟨_, PSs.nox (pss_cons (ps_if (pt_cmpR op_gt (pe_ix (k_ixL K rfl) (pv 0) pe_int (fun _ _ => rfl)) pe_int (nomark _))
    (pss_cons (ps_set (i := 2) sc_law_random.nd rfl (by first | exact Or.inl rfl | exact Or.inr rfl) (pe_op op_mod (pe_callTy call_int1 (by rfl) T.n_int (by decide +kernel) (pa_cons (pe_ix (k_ixL K rfl) (pv 0) pe_int (fun _ _ => rfl)) pa_nil)) (pv 1)))
  (pss_cons (ps_asg (pe_op op_fdivW (pe_ix (k_ixL K rfl) (pv 0) pe_int (fun _ _ => rfl)) (pv 1)) (pg_sub (pv 0) pe_int set_list))
  (pss_one (ps_ret (pv 2)))))
    pss_nil)
  (pss_cons (ps_set (i := 2) sc_law_random.nd rfl (by first | exact Or.inl rfl | exact Or.inr rfl) pe_int)
  (pss_cons (ps_for PassesOwn.never rfl (pi_range1 (by rfl) T.n_range (pa_cons (pe_op op_add pe_int (pe_op op_fdivW (pe_bits (pv 1)) pe_int)) pa_nil)) (pg_name (i := 3) sc_law_random.nd rfl (by first | exact Or.inl rfl | exact Or.inr rfl))
    (pss_cons (ps_asg (pe_op op_add (pe_ix (k_ixL K rfl) (pv 0) pe_int (fun _ _ => rfl)) pe_int) (pg_sub (pv 0) pe_int set_list))
  (pss_one (ps_set (i := 2) sc_law_random.nd rfl (by first | exact Or.inl rfl | exact Or.inr rfl) (pe_op op_add (pe_op op_mul (pv 2) pe_int) (pe_call (G_law_hash T) (hr.mono (by decide)) (by rfl) T.g_law_hash T.F_law_hash.kp T.b_law_hash .nil pass0 (pa_cons (pe_ix (k_ixL K rfl) (pv 0) pe_int (fun _ _ => rfl)) (pa_cons (pe_ix (k_ixL K rfl) (pv 0) pe_int (fun _ _ => rfl)) pa_nil))))))))
  (pss_one (ps_ret (pe_op op_mod (pe_callTy call_int1 (by rfl) T.n_int (by decide +kernel) (pa_cons (pv 2) pa_nil)) (pv 1))))))), ?_⟩
  have a0 : ∀ x y z : Int, atI [V.int x, .int y, .int z] 0 = some (.int x) := fun _ _ _ => rfl
  have a1 : ∀ x y z : Int, atI [V.int x, .int y, .int z] 1 = some (.int y) := fun _ _ _ => rfl
  have a2 : ∀ x y z : Int, atI [V.int x, .int y, .int z] 2 = some (.int z) := fun _ _ _ => rfl
  have hS : SqL K H g [.int x, .int y, .int z] := .inl (.inl hg)
  have nb : b.natAbs < 2 ^ 2900 := by
    have e : ((b.natAbs : Nat) : Int) < ((2 ^ 2900 : Nat) : Int) := by
      rw [Int.natCast_pow]
      omega
    exact Int.ofNat_lt.mp e
  refine ⟨_, rfl, g, _, 0, _, rfl, rfl, hS, a0 x y z, _, _, rfl, rfl, _, rfl, ite2 (fun e => ?_) (fun e => ?_)⟩
  · refine ⟨_, rfl, g, _, 0, _, rfl, rfl, hS, a0 x y z, .inl ⟨_, rfl, _, rfl, _, _, rfl, rfl, b0, ?_⟩⟩
    refine ⟨_, rfl, g, _, 0, _, rfl, rfl, hS, a0 x y z, _, rfl, _, _, rfl, rfl, wide_div b0 nb (by decide) (by decide), _, rfl, g, _, 0, 0, rfl, rfl, hg, rfl, _, rfl, ?_⟩
    exact q _ _ (Int.emod_nonneg _ (by omega)) (Int.emod_lt_of_pos _ b0) ⟨_, _, _, upd_same, z0, by omega⟩ (But.upd But.refl)
  · have hb : Builtin.Int.intBits b ≤ 2900 := PyProof.Rows.intBits_le nb
    have hq0 : (0 : Int) ≤ ((Builtin.Int.intBits b : Nat) : Int) / 30 := Int.ediv_nonneg (Int.natCast_nonneg _) (by decide)
    have hq1 : ((Builtin.Int.intBits b : Nat) : Int) / 30 ≤ 97 := by omega
    refine ⟨_, rfl, _, rfl, _, _, rfl, rfl, ⟨by decide, by decide +kernel⟩, _, _, rfl, rfl, _, rfl, by omega, by omega, ?_⟩
    refine for_range (lo := 0) (n := (1 + ((Builtin.Int.intBits b : Nat) : Int) / 30).toNat) (fun i σ H1 => ∃ (d z' : Int) (v : Option V), σ = [some (.ref g), some (.int b), some (.int d), v] ∧ H1 g = some (.lst [.int x, .int y, .int z']) ∧ 0 ≤ z' ∧ z' ≤ (n : Int) + (i : Int) ∧ But g H H1)
      ⟨0, z, none, rfl, hg, z0, by omega, But.refl⟩ ?_ ?_
    · rintro i σ H1 hi ⟨d, z', v, rfl, hg1, y0, y1, b1⟩
      have hS1 : SqL K H1 g [.int x, .int y, .int z'] := .inl (.inl hg1)
      refine ⟨_, rfl, g, _, 2, _, rfl, rfl, hS1, a2 x y z', _, _, rfl, rfl, _, rfl, g, _, 2, 2, rfl, rfl, hg1, rfl, ?_⟩
      have hS2 : SqL K (upd H1 g (.lst [.int x, .int y, .int (z' + 1)])) g [.int x, .int y, .int (z' + 1)] := .inl (.inl upd_same)
      refine ⟨_, rfl, _, _, rfl, rfl, .inr ⟨by decide, by decide⟩, _, rfl, g, _, 1, _, rfl, rfl, hS2, a1 _ _ _, _, rfl, g, _, 2, _, rfl, rfl, hS2, a2 _ _ _, _, _, rfl, by omega, by omega, fun r => ?_⟩
      exact ⟨_, _, rfl, rfl, _, z' + 1, _, rfl, upd_same, by omega, by omega, But.upd b1⟩
    · rintro σ H1 ⟨d, z', v, rfl, hg1, y0, y1, b1⟩
      refine ⟨_, rfl, .inl ⟨_, rfl, _, rfl, _, _, rfl, rfl, b0, ?_⟩⟩
      exact q _ _ (Int.emod_nonneg _ (by omega)) (Int.emod_lt_of_pos _ b0) ⟨_, _, _, hg1, y0, by omega⟩ b1
end
end My

namespace My
/-! ### the mathematics: all of it can be gone through -/
def minL : List Int → Int
  | [] => 0
  | x :: r => r.foldl (fun a b => if b < a then b else a) x
def maxL : List Int → Int
  | [] => 0
  | x :: r => r.foldl (fun a b => if a < b then b else a) x
theorem fold_min : ∀ (r : List Int) (x : Int), (r.foldl (fun a b => if b < a then b else a) x) ∈ x :: r ∧ ∀ y ∈ x :: r, (r.foldl (fun a b => if b < a then b else a) x) ≤ y
  | [], x => ⟨List.mem_cons_self, fun y hy => by rw [List.mem_singleton.mp hy]; exact Int.le_refl _⟩
  | b :: r, x => by
    have ih := fold_min r (if b < x then b else x)
    rw [List.foldl_cons]
    generalize List.foldl (fun a b => if b < a then b else a) (if b < x then b else x) r = z at ih
    obtain ⟨h1, h2⟩ := ih
    have hz := h2 _ List.mem_cons_self
    refine ⟨?_, fun y hy => ?_⟩
    · rcases List.mem_cons.mp h1 with h | h
      · rw [h]; split <;> simp
      · exact List.mem_cons_of_mem _ (List.mem_cons_of_mem _ h)
    · rcases List.mem_cons.mp hy with rfl | hy
      · split at hz <;> omega
      · rcases List.mem_cons.mp hy with rfl | hy
        · split at hz <;> omega
        · exact h2 y (List.mem_cons_of_mem _ hy)
theorem fold_max : ∀ (r : List Int) (x : Int), (r.foldl (fun a b => if a < b then b else a) x) ∈ x :: r ∧ ∀ y ∈ x :: r, y ≤ (r.foldl (fun a b => if a < b then b else a) x)
  | [], x => ⟨List.mem_cons_self, fun y hy => by rw [List.mem_singleton.mp hy]; exact Int.le_refl _⟩
  | b :: r, x => by
    have ih := fold_max r (if x < b then b else x)
    rw [List.foldl_cons]
    generalize List.foldl (fun a b => if a < b then b else a) (if x < b then b else x) r = z at ih
    obtain ⟨h1, h2⟩ := ih
    have hz := h2 _ List.mem_cons_self
    refine ⟨?_, fun y hy => ?_⟩
    · rcases List.mem_cons.mp h1 with h | h
      · rw [h]; split <;> simp
      · exact List.mem_cons_of_mem _ (List.mem_cons_of_mem _ h)
    · rcases List.mem_cons.mp hy with rfl | hy
      · split at hz <;> omega
      · rcases List.mem_cons.mp hy with rfl | hy
        · split at hz <;> omega
        · exact h2 y (List.mem_cons_of_mem _ hy)
theorem minL_eq {l : List Int} {m : Int} (h : m ∈ l) (hl : ∀ y ∈ l, m ≤ y) : m = minL l := by
  cases l with
  | nil => cases h
  | cons x r =>
    have f := fold_min r x
    exact Int.le_antisymm (hl _ f.1) (f.2 _ h)
theorem maxL_eq {l : List Int} {m : Int} (h : m ∈ l) (hl : ∀ y ∈ l, y ≤ m) : m = maxL l := by
  cases l with
  | nil => cases h
  | cons x r =>
    have f := fold_max r x
    exact Int.le_antisymm (f.2 _ h) (hl _ f.1)
/-- the two numbers of a quotient in lowest terms -/
def low (t u : Int) : List Int := [t / (Int.gcd t u : Int), u / (Int.gcd t u : Int)]
def tm (d w : Nat) : Int := 2 * w + 1 + 2 ^ (d - w)
def meanF (d w : Nat) : List Int := low (tm d w) 2
def fairF (d w : Nat) : List Int := [2 ^ (2 ^ (d - w)) - 1, 2 ^ (2 ^ (d - w))]
def leastM (d : Nat) : List Nat := (List.range (d + 1)).filter fun w => decide (tm d w = minL ((List.range (d + 1)).map (tm d)))
def gapF (o t d : Nat) : List Int := if t ≤ o then [(o : Int) - t, 0] else [2 ^ (d - o) - 2 ^ (d - t) + o - t, 2 ^ d - 2 ^ o]
def told (d w : Nat) : List Int := (List.range (2 ^ d)).map fun (f : Nat) => ((f : Int) / 2 ^ w + 1 + w)
def gaps (d w o : Nat) : List Int := (List.range (2 ^ d)).map fun (f : Nat) => ((f : Int) / 2 ^ w + 1 + w) - ((f : Int) / 2 ^ o + 1 + o)
def shares (d w : Nat) : List Int := (told d w).map fun p => 2 ^ (maxL (told d w) - p).toNat
theorem all_mean : ∀ d : Fin 8, ∀ w : Fin 8, 1 ≤ d.val → w.val ≤ d.val → meanF d w = low (told d w).sum (told d w).length ∧ ¬ 2 * (told d w).sum < (2 * (d.val : Int) + 1) * (told d w).length ∧ 0 ≤ (told d w).sum ∧ maxL (told d w) = 2 ^ (d.val - w.val) + w.val := by decide +kernel
theorem all_fair : ∀ d : Fin 8, ∀ w : Fin 8, 1 ≤ d.val → w.val ≤ d.val → fairF d w = low (shares d w).sum (2 ^ (maxL (told d w)).toNat) ∧ 0 ≤ (shares d w).sum := by decide +kernel
theorem all_gap : ∀ d : Fin 8, ∀ w : Fin 8, ∀ o : Fin 8, 1 ≤ d.val → w.val ≤ d.val → o.val ≤ d.val → gapF w o d = [maxL (gaps d w o), ((gaps d w o).findIdx fun x => decide (x = maxL (gaps d w o)) : Nat)] ∧ ((gaps d w o).any fun x => decide (x = maxL (gaps d w o))) = true := by decide +kernel
def sums (d : Nat) : List Int := (List.range (d + 1)).map fun w => (told d w).sum
theorem all_least : ∀ d : Fin 8, 1 ≤ d.val → leastM d = (List.range (d.val + 1)).filter (fun w => decide ((told d w).sum = minL (sums d))) := by decide +kernel
theorem all_great : ∀ d : Fin 25, 2 ≤ d.val → leastM d = [d.val - 2, d.val - 1] ∧ meanF d (d.val - 1) = [2 * (d.val : Int) + 1, 2] ∧ meanF d d = [(d.val : Int) + 1, 1] ∧ gapF 0 d d = [2 ^ d.val - 1 - (d.val : Int), 2 ^ d.val - 1] := by decide +kernel
end My

namespace My
open PySem PySem.Spec PyProof.Rows L2 Pre
section
variable {P : Program} {w : World} {K : PySem.W.Frag} {mg : Str → Option Value} {base : Heap}
/-! ### common divisors and fractions -/
def sp_common_divisor : Sp := fun vs H Q _ => ∃ a b : Nat, vs = [.int a, .int b] ∧ Q (.int (Nat.gcd a b : Nat)) H
theorem abs_nat (a : Nat) : (if (a : Int) < 0 then -(a : Int) else (a : Int)) = (a : Int) := if_neg (by omega)
theorem G_common_divisor (T : Top K mg) : FnOk P w K mg base CX0 1 T.f_common_divisor T.fd_common_divisor ["one", "other"] sp_common_divisor := by
  refine T.F_common_divisor.ok sc_common_divisor (fun vs H Q E h => by obtain ⟨a, b, rfl, _⟩ := h; rfl) (fun cdv A outer s H vs Q E hr h => ?_)
  obtain ⟨a, b, rfl, q⟩ := h
  refine ⟨_, PSs.nox (pss_cons (ps_par (by rfl) sc_common_divisor.nd (i := 0) (j := 1) rfl rfl (by decide) rfl rfl (pa_cons (pe_callB call_abs (by rfl) T.n_abs (by decide +kernel) (pa_cons (pv 0) pa_nil)) (pa_cons (pe_callB call_abs (by rfl) T.n_abs (by decide +kernel) (pa_cons (pv 1) pa_nil)) pa_nil)) (by rfl))
  (pss_cons (ps_while PassesOwn.never (pt_cmpR op_ne (pv 1) pe_int (nomark _))
    (pss_one (ps_par (by rfl) sc_common_divisor.nd (i := 0) (j := 1) rfl rfl (by decide) rfl rfl (pa_cons (pv 1) (pa_cons (pe_op op_mod (pv 0) (pv 1)) pa_nil)) (by rfl))))
  (pss_one (ps_ret (pv 0))))), ?_⟩
  refine ⟨_, rfl, _, rfl, _, rfl, _, rfl, _, _, rfl, ?_⟩
  rw [abs_nat, abs_nat]
  refine ⟨fun m σ H2 => ∃ x y : Nat, σ = [some (.int x), some (.int y)] ∧ y = m ∧ Nat.gcd x y = Nat.gcd a b ∧ H2 = H, ⟨b, a, b, rfl, rfl, rfl, rfl⟩, ?_⟩
  rintro m σ H2 ⟨x, y, rfl, rfl, hg, rfl⟩
  refine ⟨_, rfl, rfl, _, rfl, ?_⟩
  by_cases hy : y = 0
  · subst hy
    refine iteNS rfl ⟨_, rfl, ?_⟩
    rw [← hg, Nat.gcd_zero_right] at q
    exact q
  · have e : (!decide (V.int (y : Int) = V.int 0)) = true := by
      rw [decide_eq_false (fun z => hy (by have := V.int.inj z; omega))]; rfl
    rw [e]
    refine iteT ⟨fun σ' H' => ∃ x' y' : Nat, σ' = [some (.int x'), some (.int y')] ∧ y' < y ∧ Nat.gcd x' y' = Nat.gcd a b ∧ H' = H2, fun σ' H' ⟨x', y', e1, e2, e3, e4⟩ => ⟨y', e2, x', y', e1, rfl, e3, e4⟩, ?_⟩
    refine ⟨_, rfl, _, rfl, _, rfl, _, _, rfl, rfl, (by show (0 : Int) < _; omega), _, _, rfl, y, x % y, ?_, Nat.mod_lt _ (by omega), ?_, rfl⟩
    · show [some (V.int (y : Int)), some (.int ((x : Int) % (y : Int)))] = _
      rw [Int.natCast_emod]
    · rw [← hg, Nat.gcd_comm y, ← Nat.gcd_rec, Nat.gcd_comm]
def sp_law_common : Sp := sp_common_divisor
theorem G_law_common (T : Top K mg) : FnOk P w K mg base CX0 1 T.f_law_common T.fd_law_common ["_law_one", "_law_other"] sp_law_common := by
  refine T.F_law_common.ok sc_law_common (fun vs H Q E h => by obtain ⟨a, b, rfl, _⟩ := h; rfl) (fun cdv A outer s H vs Q E hr h => ?_)
  obtain ⟨a, b, rfl, q⟩ := h
  refine ⟨_, PSs.nox (pss_cons (ps_while PassesOwn.never (pt_cmpR op_ne (pv 1) pe_int (nomark _))
    (pss_one (ps_par (by rfl) sc_law_common.nd (i := 0) (j := 1) rfl rfl (by decide) rfl rfl (pa_cons (pv 1) (pa_cons (pe_op op_mod (pv 0) (pv 1)) pa_nil)) (by rfl))))
  (pss_one (ps_ret (pv 0)))), ?_⟩
  refine ⟨fun m σ H2 => ∃ x y : Nat, σ = [some (.int x), some (.int y)] ∧ y = m ∧ Nat.gcd x y = Nat.gcd a b ∧ H2 = H, ⟨b, a, b, rfl, rfl, rfl, rfl⟩, ?_⟩
  rintro m σ H2 ⟨x, y, rfl, rfl, hg, rfl⟩
  refine ⟨_, rfl, rfl, _, rfl, ?_⟩
  by_cases hy : y = 0
  · subst hy
    refine iteNS rfl ⟨_, rfl, ?_⟩
    rw [← hg, Nat.gcd_zero_right] at q
    exact q
  · have e : (!decide (V.int (y : Int) = V.int 0)) = true := by
      rw [decide_eq_false (fun z => hy (by have := V.int.inj z; omega))]; rfl
    rw [e]
    refine iteT ⟨fun σ' H' => ∃ x' y' : Nat, σ' = [some (.int x'), some (.int y')] ∧ y' < y ∧ Nat.gcd x' y' = Nat.gcd a b ∧ H' = H2, fun σ' H' ⟨x', y', e1, e2, e3, e4⟩ => ⟨y', e2, x', y', e1, rfl, e3, e4⟩, ?_⟩
    refine ⟨_, rfl, _, rfl, _, rfl, _, _, rfl, rfl, (by show (0 : Int) < _; omega), _, _, rfl, y, x % y, ?_, Nat.mod_lt _ (by omega), ?_, rfl⟩
    · show [some (V.int (y : Int)), some (.int ((x : Int) % (y : Int)))] = _
      rw [Int.natCast_emod]
    · rw [← hg, Nat.gcd_comm y, ← Nat.gcd_rec, Nat.gcd_comm]
/-- a new tuple of whole numbers is told -/
def Tup (H : Hp) (Q : VK) (ns : List Int) : Prop := ∀ H' p, Same H H' → H' p = some (.tup (ns.map V.int)) → Q (.ref p) H'
def Lst (H : Hp) (Q : VK) (ns : List Int) : Prop := ∀ H' p, Same H H' → H' p = some (.lst (ns.map V.int)) → Q (.ref p) H'
theorem gcd_wide {t u : Nat} (h : 0 < u) (hu : u < 2 ^ 9000) (x : Int) : CDivW x ((Nat.gcd t u : Nat) : Int) := by
  have h1 : 0 < Nat.gcd t u := Nat.gcd_pos_of_pos_right _ h
  have h2 : Nat.gcd t u ≤ u := Nat.gcd_le_right _ h
  exact wide_div (b := 9000) (by omega) (by rw [Int.natAbs_natCast]; omega) (by decide) (by decide)
def sp_fraction : Sp := fun vs H Q _ => ∃ t u : Nat, vs = [.int t, .int u] ∧ 0 < u ∧ u < 2 ^ 9000 ∧ Tup H Q (low t u)
theorem G_fraction (T : Top K mg) : FnOk P w K mg base CX0 2 T.f_fraction T.fd_fraction ["top", "under"] sp_fraction := by
  refine T.F_fraction.ok sc_fraction (fun vs H Q E h => by obtain ⟨t, u, rfl, _⟩ := h; rfl) (fun cdv A outer s H vs Q E hr h => ?_)
  obtain ⟨t, u, rfl, hu, hz, q⟩ := h
  refine ⟨_, PSs.nox (pss_cons (ps_set (i := 2) sc_fraction.nd rfl (by first | exact Or.inl rfl | exact Or.inr rfl) (pe_call (G_common_divisor T) (hr.mono (by decide)) (by rfl) T.g_common_divisor T.F_common_divisor.kp T.b_common_divisor .nil pass0 (pa_cons (pv 0) (pa_cons (pv 1) pa_nil))))
  (pss_cons (ps_if (pt_cmpR op_lt (pv 1) pe_int (nomark _))
    (pss_one (ps_set (i := 2) sc_fraction.nd rfl (by first | exact Or.inl rfl | exact Or.inr rfl) (pe_op op_sub pe_int (pv 2))))
    pss_nil)
  (pss_one (ps_ret (pe_tup (pa_cons (pe_op op_fdivW (pv 0) (pv 2)) (pa_cons (pe_op op_fdivW (pv 1) (pv 2)) pa_nil))))))), ?_⟩
  refine ⟨_, rfl, _, rfl, t, u, rfl, ?_⟩
  refine ⟨_, rfl, _, _, rfl, rfl, _, rfl, ?_⟩
  rw [decide_eq_false (show ¬ (u : Int) < 0 by omega)]
  refine iteF ?_
  refine ⟨_, rfl, _, rfl, _, _, rfl, rfl, gcd_wide hu hz _, _, rfl, _, rfl, _, _, rfl, rfl, gcd_wide hu hz _, (show 2 ≤ sizeLine by decide), fun p np => ?_⟩
  exact q _ p (same_upd np) upd_same
def sp_law_lowest : Sp := sp_fraction
theorem G_law_lowest (T : Top K mg) : FnOk P w K mg base CX0 2 T.f_law_lowest T.fd_law_lowest ["_law_over", "_law_under"] sp_law_lowest := by
  refine T.F_law_lowest.ok sc_law_lowest (fun vs H Q E h => by obtain ⟨t, u, rfl, _⟩ := h; rfl) (fun cdv A outer s H vs Q E hr h => ?_)
  obtain ⟨t, u, rfl, hu, hz, q⟩ := h
  refine ⟨_, PSs.nox (pss_cons (ps_set (i := 2) sc_law_lowest.nd rfl (by first | exact Or.inl rfl | exact Or.inr rfl) (pe_call (G_law_common T) (hr.mono (by decide)) (by rfl) T.g_law_common T.F_law_common.kp T.b_law_common .nil pass0 (pa_cons (pv 0) (pa_cons (pv 1) pa_nil))))
  (pss_one (ps_ret (pe_tup (pa_cons (pe_op op_fdivW (pv 0) (pv 2)) (pa_cons (pe_op op_fdivW (pv 1) (pv 2)) pa_nil)))))), ?_⟩
  refine ⟨_, rfl, _, rfl, t, u, rfl, ?_⟩
  refine ⟨_, rfl, _, rfl, _, _, rfl, rfl, gcd_wide hu hz _, _, rfl, _, rfl, _, _, rfl, rfl, gcd_wide hu hz _, (show 2 ≤ sizeLine by decide), fun p np => ?_⟩
  exact q _ p (same_upd np) upd_same
/-! ### checks -/
def sp_check_depth : Sp := fun vs H Q _ => ∃ d m : Int, vs = [.int d, .int m] ∧ 1 ≤ d ∧ d ≤ m ∧ Q .non H
theorem G_check_depth (T : Top K mg) : FnOk P w K mg base CX0 3 T.f_check_depth T.fd_check_depth ["depth", "most"] sp_check_depth := by
  refine T.F_check_depth.ok sc_check_depth (fun vs H Q E h => by obtain ⟨d, m, rfl, _⟩ := h; rfl) (fun cdv A outer s H vs Q E hr h => ?_)
  obtain ⟨d, m, rfl, h0, h1, q⟩ := h
  refine ⟨_, PSs.nox (pss_one (ps_if (pt_not (pt_val (pe_call (G_is_between T) (hr.mono (by decide)) (by rfl) T.g_is_between T.F_is_between.kp T.b_is_between .nil pass0 (pa_cons (pv 0) (pa_cons pe_int (pa_cons (pv 1) pa_nil))))))
    (pss_one ps_never)
    pss_nil)), ?_⟩
  refine ⟨_, rfl, _, rfl, d, 1, some m, rfl, _, rfl, ?_⟩
  rw [decide_eq_true ⟨h0, fun j h => by cases h; exact h1⟩]
  exact iteF q
def sp_check_width : Sp := fun vs H Q _ => ∃ i d : Int, vs = [.int i, .int d] ∧ 0 ≤ i ∧ i ≤ d ∧ Q .non H
theorem G_check_width (T : Top K mg) : FnOk P w K mg base CX0 3 T.f_check_width T.fd_check_width ["width", "depth"] sp_check_width := by
  refine T.F_check_width.ok sc_check_width (fun vs H Q E h => by obtain ⟨i, d, rfl, _⟩ := h; rfl) (fun cdv A outer s H vs Q E hr h => ?_)
  obtain ⟨i, d, rfl, h0, h1, q⟩ := h
  refine ⟨_, PSs.nox (pss_one (ps_if (pt_not (pt_val (pe_call (G_is_between T) (hr.mono (by decide)) (by rfl) T.g_is_between T.F_is_between.kp T.b_is_between .nil pass0 (pa_cons (pv 0) (pa_cons pe_int (pa_cons (pv 1) pa_nil))))))
    (pss_one ps_never)
    pss_nil)), ?_⟩
  refine ⟨_, rfl, _, rfl, i, 0, some d, rfl, _, rfl, ?_⟩
  rw [decide_eq_true ⟨h0, fun j h => by cases h; exact h1⟩]
  exact iteF q
/-! ### fair, mean, least_means, gap -/
theorem sub_toNat {d i : Nat} (h : i ≤ d) : ((d : Int) - (i : Int)).toNat = d - i := by omega
def sp_fair : Sp := fun vs H Q _ => ∃ d i : Nat, vs = [.int d, .int i] ∧ 1 ≤ d ∧ d ≤ 24 ∧ i ≤ d ∧ d - i ≤ 10 ∧ Tup H Q (fairF d i)
theorem G_fair (T : Top K mg) : FnOk P w K mg base CX0 4 T.f_fair T.fd_fair ["depth", "width"] sp_fair := by
  refine T.F_fair.ok sc_fair (fun vs H Q E h => by obtain ⟨d, i, rfl, _⟩ := h; rfl) (fun cdv A outer s H vs Q E hr h => ?_)
  obtain ⟨d, i, rfl, h0, h1, h2, h3, q⟩ := h
  refine ⟨_, PSs.nox (pss_cons (ps_expr (pe_call (G_check_depth T) (hr.mono (by decide)) (by rfl) T.g_check_depth T.F_check_depth.kp T.b0_check_depth T.v0_check_depth pass0 (pa_cons (pv 0) pa_nil)))
  (pss_cons (ps_expr (pe_call (G_check_width T) (hr.mono (by decide)) (by rfl) T.g_check_width T.F_check_width.kp T.b_check_width .nil pass0 (pa_cons (pv 1) (pa_cons (pv 0) pa_nil))))
  (pss_cons (ps_if (pt_cmpR op_gt (pe_op op_sub (pv 0) (pv 1)) (pe_glob (v := .int 10) rfl T.m_MOST_FAIR ⟨_, rfl⟩) (nomark _))
    (pss_one ps_never)
    pss_nil)
  (pss_cons (ps_set (i := 2) sc_fair.nd rfl (by first | exact Or.inl rfl | exact Or.inr rfl) (pe_op op_shl pe_int (pe_op op_shl pe_int (pe_op op_sub (pv 0) (pv 1)))))
  (pss_one (ps_ret (pe_tup (pa_cons (pe_op op_sub (pv 2) pe_int) (pa_cons (pv 2) pa_nil))))))))), ?_⟩
  refine ⟨_, rfl, _, _, rfl, by omega, by omega, ?_⟩
  refine ⟨_, rfl, _, rfl, _, _, rfl, by omega, by omega, ?_⟩
  refine ⟨_, rfl, _, rfl, _, _, rfl, rfl, _, _, rfl, rfl, _, rfl, ?_⟩
  rw [decide_eq_false (show ¬ (d : Int) - (i : Int) > 10 by omega)]
  refine iteF ?_
  have hp := pow_pos' (d - i)
  have hq : (2 : Int) ^ (d - i) ≤ 2 ^ 10 := pow2_le (by omega)
  refine ⟨_, rfl, _, rfl, _, _, rfl, rfl, _, _, rfl, rfl, ⟨by omega, by omega, by decide⟩, ?_⟩
  dsimp only
  rw [sub_toNat h2, Int.one_mul]
  refine ⟨_, _, rfl, rfl, ⟨by omega, by omega, by decide⟩, ?_⟩
  have e2 : ((2 : Int) ^ (d - i)).toNat = 2 ^ (d - i) := by
    have e : ((2 : Int) ^ (d - i)) = ((2 ^ (d - i) : Nat) : Int) := by rw [Int.natCast_pow]; rfl
    rw [e, Int.toNat_natCast]
  dsimp only
  rw [e2, Int.one_mul]
  refine ⟨_, rfl, _, _, rfl, rfl, _, rfl, (show 2 ≤ sizeLine by decide), fun p np => ?_⟩
  exact q _ p (same_upd np) upd_same
def sp_twice_mean : Sp := fun vs H Q _ => ∃ d i : Nat, vs = [.int d, .int i] ∧ d ≤ 1000 ∧ i ≤ d ∧ Q (.int (tm d i)) H
theorem G_twice_mean (T : Top K mg) : FnOk P w K mg base CX0 1 T.f_twice_mean T.fd_twice_mean ["depth", "width"] sp_twice_mean := by
  refine T.F_twice_mean.ok sc_twice_mean (fun vs H Q E h => by obtain ⟨d, i, rfl, _⟩ := h; rfl) (fun cdv A outer s H vs Q E hr h => ?_)
  obtain ⟨d, i, rfl, h1, h2, q⟩ := h
  refine ⟨_, PSs.nox (pss_one (ps_ret (pe_op op_add (pe_op op_add (pe_op op_mul pe_int (pv 1)) pe_int) (pe_op op_shl pe_int (pe_op op_sub (pv 0) (pv 1)))))), ?_⟩
  refine ⟨_, rfl, _, _, rfl, rfl, .inl ⟨by decide, by decide⟩, _, _, rfl, rfl, _, rfl, _, rfl, _, _, rfl, rfl, _, _, rfl, rfl, ⟨by omega, by omega, by decide⟩, _, _, rfl, rfl, ?_⟩
  show Q (.int (2 * (i : Int) + 1 + 1 * 2 ^ ((d : Int) - (i : Int)).toNat)) H
  rw [sub_toNat h2, Int.one_mul]
  exact q
def sp_mean : Sp := fun vs H Q _ => ∃ d i : Nat, vs = [.int d, .int i] ∧ 1 ≤ d ∧ d ≤ 24 ∧ i ≤ d ∧ Tup H Q (meanF d i)
theorem G_mean (T : Top K mg) : FnOk P w K mg base CX0 4 T.f_mean T.fd_mean ["depth", "width"] sp_mean := by
  refine T.F_mean.ok sc_mean (fun vs H Q E h => by obtain ⟨d, i, rfl, _⟩ := h; rfl) (fun cdv A outer s H vs Q E hr h => ?_)
  obtain ⟨d, i, rfl, h0, h1, h2, q⟩ := h
  refine ⟨_, PSs.nox (pss_cons (ps_expr (pe_call (G_check_depth T) (hr.mono (by decide)) (by rfl) T.g_check_depth T.F_check_depth.kp T.b0_check_depth T.v0_check_depth pass0 (pa_cons (pv 0) pa_nil)))
  (pss_cons (ps_expr (pe_call (G_check_width T) (hr.mono (by decide)) (by rfl) T.g_check_width T.F_check_width.kp T.b_check_width .nil pass0 (pa_cons (pv 1) (pa_cons (pv 0) pa_nil))))
  (pss_one (ps_ret (pe_call (G_fraction T) (hr.mono (by decide)) (by rfl) T.g_fraction T.F_fraction.kp T.b_fraction .nil pass0 (pa_cons (pe_call (G_twice_mean T) (hr.mono (by decide)) (by rfl) T.g_twice_mean T.F_twice_mean.kp T.b_twice_mean .nil pass0 (pa_cons (pv 0) (pa_cons (pv 1) pa_nil))) (pa_cons pe_int pa_nil))))))), ?_⟩
  refine ⟨_, rfl, _, _, rfl, by omega, by omega, ?_⟩
  refine ⟨_, rfl, _, rfl, _, _, rfl, by omega, by omega, ?_⟩
  have hp := pow_pos' (d - i)
  have e : tm d i = ((tm d i).toNat : Int) := by unfold tm; omega
  refine ⟨_, rfl, _, rfl, d, i, rfl, by omega, h2, (tm d i).toNat, 2, ?_, by decide, by omega, ?_⟩
  · rw [← e]; rfl
  · rw [← e]; exact q
theorem tm_list (n : Nat) (d : Nat) : ∃ m, m ∈ (List.range (n + 1)).map (tm d) ∧ ∀ y ∈ (List.range (n + 1)).map (tm d), m ≤ y := by
  have e : (List.range (n + 1)).map (tm d) ≠ [] := by simp
  cases h : (List.range (n + 1)).map (tm d) with
  | nil => exact absurd h e
  | cons x r => exact ⟨_, (fold_min r x).1, (fold_min r x).2⟩
/-- what a test keeps of a range -/
theorem fm_range (p : Nat → Bool) (n : Nat) : (((List.range n).map fun (i : Nat) => if p i = true then some (V.int (i : Int)) else none).filterMap id) = ((List.range n).filter p).map fun (i : Nat) => V.int (i : Int) := by
  rw [List.filterMap_map]
  have key : ∀ L : List Nat, List.filterMap (id ∘ fun (i : Nat) => if p i = true then some (V.int (i : Int)) else none) L = (L.filter p).map fun (i : Nat) => V.int (i : Int) := fun L => by
    induction L with
    | nil => rfl
    | cons z r ih =>
      by_cases c : p z = true
      · rw [List.filterMap_cons_some (b := V.int (z : Int)) (by simp [c]), List.filter_cons_of_pos c, List.map_cons, ih]
      · rw [List.filterMap_cons_none (by simp [c]), List.filter_cons_of_neg c, ih]
  exact key _
def LstN (H : Hp) (Q : VK) (ns : List Nat) : Prop := Lst H Q (ns.map fun (i : Nat) => (i : Int))
def sp_least_means : Sp := fun vs H Q _ => ∃ d : Nat, vs = [.int d] ∧ 1 ≤ d ∧ d ≤ 24 ∧ LstN H Q (leastM d)
theorem G_least_means (T : Top K mg) : FnOk P w K mg base CX0 4 T.f_least_means T.fd_least_means ["depth"] sp_least_means := by
  refine T.F_least_means.ok sc_least_means (fun vs H Q E h => by obtain ⟨d, rfl, _⟩ := h; rfl) (fun cdv A outer s H vs Q E hr h => ?_)
  obtain ⟨d, rfl, h0, h1, q⟩ := h
  refine ⟨_, PSs.nox (pss_cons (ps_expr (pe_call (G_check_depth T) (hr.mono (by decide)) (by rfl) T.g_check_depth T.F_check_depth.kp T.b0_check_depth T.v0_check_depth pass0 (pa_cons (pv 0) pa_nil)))
  (pss_cons (ps_set (i := 1) sc_least_means.nd rfl (Or.inr rfl) (pe_lc (own := [("width", 2)]) (g := gName 2) (tt := tYes) (by rfl) sc_least_means.nd (pi_range1 (by rfl) T.n_range (pa_cons (pe_op op_add (pv 0) pe_int) pa_nil)) (blkOk_by (own := [("width", 2)]) (N := N_least_means) (sc := defScope s_least_means) (by decide +kernel)) (fun _ _ _ _ _ => (pg_name (i := 2) sc_least_means.nd rfl (by first | exact Or.inl rfl | exact Or.inr rfl))) (fun _ _ _ _ _ => pts_nil) (fun _ _ _ _ _ => (pe_call (G_twice_mean T) (hr.mono (by decide)) (by rfl) T.g_twice_mean T.F_twice_mean.kp T.b_twice_mean .nil pass0 (pa_cons (pv 0) (pa_cons (pv 2) pa_nil))))))
  (pss_one (ps_ret (pe_lc (own := [("width", 2)]) (g := gName 2) (by rfl) sc_least_means.nd (pi_range1 (by rfl) T.n_range (pa_cons (pe_op op_add (pv 0) pe_int) pa_nil)) (blkOk_by (own := [("width", 2)]) (N := N_least_means) (sc := defScope s_least_means) (by decide +kernel)) (fun _ _ _ _ _ => (pg_name (i := 2) sc_least_means.nd rfl (by first | exact Or.inl rfl | exact Or.inr rfl))) (fun _ _ _ _ _ => (pts_one (pt_cmpR op_eq (pe_ix (k_ixL K rfl) (pv 1) (pv 2) (fun _ _ => rfl)) (pe_callB (k_min K rfl rfl) (by rfl) T.n_min (by decide +kernel) (pa_cons (pv 1) pa_nil)) (nomark _)))) (fun _ _ _ _ _ => (pv 2))))))), ?_⟩
  refine ⟨_, rfl, _, _, rfl, by omega, by omega, ?_⟩
  refine ⟨_, rfl, _, _, rfl, rfl, _, rfl, by omega, by omega, fun D nD => ?_⟩
  have en : ((d : Int) + 1).toNat = d + 1 := by omega
  rw [en]
  refine lc_mapR (lo := 0) (n := d + 1) (((List.range (d + 1)).map (tm d)).map V.int) nD (by simp) (by rw [sizeLine_eq]; omega) (fun x => rfl) ?_ ?_
  · intro i y H' hi hy s Qt qt
    rw [List.getElem?_map, List.getElem?_map, List.getElem?_range hi] at hy
    cases hy
    refine ⟨_, rfl, _, rfl, d, i, ?_, by omega, by omega, qt _ (Same.refl _)⟩
    show [V.int (d : Int), V.int (0 + (i : Int))] = _
    rw [Int.zero_add]
  intro H1 s1 hD
  refine ⟨_, rfl, _, _, rfl, rfl, _, rfl, by omega, by omega, fun D2 nD2 => ?_⟩
  rw [en]
  refine lc_selR (lo := 0) (n := d + 1) ((List.range (d + 1)).map fun (i : Nat) => if decide (tm d i = minL ((List.range (d + 1)).map (tm d))) = true then some (V.int (i : Int)) else none) nD2 (by simp) (by rw [sizeLine_eq]; omega) (fun x => rfl) ?_ ?_
  · intro i o H' hi ho s Qt qt
    rw [List.getElem?_map, List.getElem?_range hi] at ho
    simp only [Option.map_some, Option.some.injEq, decide_eq_true_eq] at ho
    have hP : SqL K H' D (((List.range (d + 1)).map (tm d)).map V.int) := .inl (.inl (s _ _ hD))
    refine ⟨_, rfl, _, rfl, D, _, _, .int (tm d i), rfl, rfl, hP, at_of (j := i) (by omega) (by rw [List.getElem?_map, List.getElem?_map, List.getElem?_range hi]; rfl), _, rfl, D, _, rfl, hP, by simp, fun m a b => ?_⟩
    rw [minL_eq a b]
    refine ⟨rfl, _, rfl, ?_⟩
    by_cases c : tm d i = minL ((List.range (d + 1)).map (tm d))
    · rw [if_pos c] at ho
      rw [decide_eq_true (congrArg V.int c)]
      refine iteT ⟨_, rfl, ?_⟩
      show Qt (some (.int (0 + (i : Int)))) H'
      rw [Int.zero_add]
      rw [← ho] at qt
      exact qt _ (Same.refl _)
    · rw [if_neg c] at ho
      rw [decide_eq_false (fun z => c (V.int.inj z))]
      rw [← ho] at qt
      exact iteF (qt _ (Same.refl _))
  · intro H2 s2 hD2
    rw [fm_range (fun i => decide (tm d i = minL ((List.range (d + 1)).map (tm d)))) (d + 1)] at hD2
    refine q _ _ (s1.trans s2) ?_
    rw [hD2, List.map_map]
    rfl
def sp_gap : Sp := fun vs H Q _ => ∃ o t d : Nat, vs = [.int o, .int t, .int d] ∧ 1 ≤ d ∧ d ≤ 24 ∧ o ≤ d ∧ t ≤ d ∧ Tup H Q (gapF o t d)
theorem G_gap (T : Top K mg) : FnOk P w K mg base CX0 4 T.f_gap T.fd_gap ["one", "other", "depth"] sp_gap := by
  refine T.F_gap.ok sc_gap (fun vs H Q E h => by obtain ⟨o, t, d, rfl, _⟩ := h; rfl) (fun cdv A outer s H vs Q E hr h => ?_)
  obtain ⟨o, t, d, rfl, h0, h1, h2, h3, q⟩ := h
  refine ⟨_, PSs.nox (pss_cons (ps_expr (pe_call (G_check_depth T) (hr.mono (by decide)) (by rfl) T.g_check_depth T.F_check_depth.kp T.b0_check_depth T.v0_check_depth pass0 (pa_cons (pv 2) pa_nil)))
  (pss_cons (ps_expr (pe_call (G_check_width T) (hr.mono (by decide)) (by rfl) T.g_check_width T.F_check_width.kp T.b_check_width .nil pass0 (pa_cons (pv 0) (pa_cons (pv 2) pa_nil))))
  (pss_cons (ps_expr (pe_call (G_check_width T) (hr.mono (by decide)) (by rfl) T.g_check_width T.F_check_width.kp T.b_check_width .nil pass0 (pa_cons (pv 1) (pa_cons (pv 2) pa_nil))))
  (pss_cons (ps_if (pt_cmpR op_ge (pv 0) (pv 1) (nomark _))
    (pss_one (ps_ret (pe_tup (pa_cons (pe_op op_sub (pv 0) (pv 1)) (pa_cons pe_int pa_nil)))))
    pss_nil)
  (pss_one (ps_ret (pe_tup (pa_cons (pe_op op_sub (pe_op op_add (pe_op op_sub (pe_op op_shl pe_int (pe_op op_sub (pv 2) (pv 0))) (pe_op op_shl pe_int (pe_op op_sub (pv 2) (pv 1)))) (pv 0)) (pv 1)) (pa_cons (pe_op op_sub (pe_op op_shl pe_int (pv 2)) (pe_op op_shl pe_int (pv 0))) pa_nil))))))))), ?_⟩
  refine ⟨_, rfl, _, _, rfl, by omega, by omega, ?_⟩
  refine ⟨_, rfl, _, rfl, _, _, rfl, by omega, by omega, ?_⟩
  refine ⟨_, rfl, _, rfl, _, _, rfl, by omega, by omega, ?_⟩
  refine ⟨_, rfl, _, rfl, _, _, rfl, rfl, _, rfl, ?_⟩
  unfold gapF at q
  by_cases c : t ≤ o
  · rw [decide_eq_true (show (o : Int) ≥ (t : Int) by omega)]
    rw [if_pos c] at q
    refine iteT ⟨_, rfl, _, rfl, _, _, rfl, rfl, (show 2 ≤ sizeLine by decide), fun p np => ?_⟩
    exact q _ p (same_upd np) upd_same
  · rw [decide_eq_false (show ¬ (o : Int) ≥ (t : Int) by omega)]
    rw [if_neg c] at q
    refine iteF ?_
    refine ⟨_, rfl, _, rfl, _, _, rfl, rfl, _, _, rfl, rfl, ⟨by omega, by omega, by decide⟩, _, rfl, _, rfl, _, _, rfl, rfl, _, _, rfl, rfl, ⟨by omega, by omega, by decide⟩, _, _, rfl, rfl, _, rfl, _, _, rfl, rfl, _, rfl, _, _, rfl, rfl, ?_⟩
    refine ⟨_, rfl, _, _, rfl, rfl, ⟨by omega, by omega, by decide⟩, _, rfl, _, _, rfl, rfl, ⟨by omega, by omega, by decide⟩, _, _, rfl, rfl, (show 2 ≤ sizeLine by decide), fun p np => ?_⟩
    rw [sub_toNat h2, sub_toNat h3, Int.one_mul, Int.one_mul, Int.one_mul, Int.one_mul, Int.toNat_natCast, Int.toNat_natCast]
    exact q _ p (same_upd np) upd_same
end
end My

namespace My
open PySem PySem.Spec PyProof.Rows L2 Pre
theorem told_at {d i k : Nat} (h : k < 2 ^ d) : ((told d i).map V.int)[k]? = some (.int ((k : Int) / 2 ^ i + 1 + i)) := by
  unfold told
  rw [List.getElem?_map, List.getElem?_map, List.getElem?_range h]
  rfl
theorem told_len (d i : Nat) : (told d i).length = 2 ^ d := by unfold told; rw [List.length_map, List.length_range]
theorem two_d {d : Nat} (h : d ≤ 7) : 2 ^ d ≤ 128 := Nat.le_trans (Nat.pow_le_pow_right (by decide) h) (by decide)
theorem one_shl {k : Nat} {d : Nat} (h : d = k) : ((1 : Int) * 2 ^ d) = ((2 ^ k : Nat) : Int) := by rw [h, Int.one_mul, Int.natCast_pow]; rfl
section
variable {P : Program} {w : World} {K : PySem.W.Frag} {mg : Str → Option Value} {base : Heap}
def sp_law_prices : Sp := fun vs H Q _ => ∃ d i : Nat, vs = [.int d, .int i] ∧ d ≤ 7 ∧ i ≤ 100 ∧ Lst H Q (told d i)
theorem G_law_prices (T : Top K mg) : FnOk P w K mg base CX0 1 T.f_law_prices T.fd_law_prices ["_law_depth", "_law_width"] sp_law_prices := by
  refine T.F_law_prices.ok sc_law_prices (fun vs H Q E h => by obtain ⟨d, i, rfl, _⟩ := h; rfl) (fun cdv A outer s H vs Q E hr h => ?_)
  obtain ⟨d, i, rfl, h1, h2, q⟩ := h
  refine ⟨_, PSs.nox (pss_one (ps_ret (pe_lc (own := [("_law_fold", 2)]) (g := gName 2) (tt := tYes) (by rfl) sc_law_prices.nd (pi_range1 (by rfl) T.n_range (pa_cons (pe_op op_shl pe_int (pv 0)) pa_nil)) (blkOk_by (own := [("_law_fold", 2)]) (N := N_law_prices) (sc := defScope s_law_prices) (by decide +kernel)) (fun _ _ _ _ _ => (pg_name (i := 2) sc_law_prices.nd rfl (by first | exact Or.inl rfl | exact Or.inr rfl))) (fun _ _ _ _ _ => pts_nil) (fun _ _ _ _ _ => (pe_op op_add (pe_op op_add (pe_op op_shr (pv 2) (pv 1)) pe_int) (pv 1)))))), ?_⟩
  have t1 := two_d h1
  have t2 : ((2 ^ d : Nat) : Int) ≤ 128 := Int.ofNat_le.mpr t1
  have t3 : (0 : Int) ≤ ((2 ^ d : Nat) : Int) := Int.natCast_nonneg _
  refine ⟨_, rfl, _, _, rfl, rfl, ⟨by omega, by omega, by decide⟩, _, rfl, ?_⟩
  rw [one_shl (Int.toNat_natCast d)]
  refine ⟨by omega, by omega, fun D nD => ?_⟩
  rw [Int.toNat_natCast]
  refine lc_mapR (lo := 0) (n := 2 ^ d) ((told d i).map V.int) nD (by rw [List.length_map, told_len]) (by rw [sizeLine_eq]; omega) (fun x => rfl) ?_ ?_
  · intro k y H' hk hy s Qt qt
    rw [told_at hk] at hy
    cases hy
    refine ⟨_, rfl, _, rfl, _, _, rfl, rfl, (by omega), _, _, rfl, rfl, _, rfl, _, _, rfl, rfl, ?_⟩
    show Qt (.int ((0 + (k : Int)) / 2 ^ ((i : Int)).toNat + 1 + i)) H'
    rw [Int.zero_add, Int.toNat_natCast]
    exact qt _ (Same.refl _)
  · intro H' s hD
    exact q _ D s hD
def sp_law_right : Sp := fun vs H Q _ => ∃ d i o : Nat, vs = [.int d, .int i, .int o] ∧ 1 ≤ d ∧ d ≤ 7 ∧ i ≤ d ∧ o ≤ d ∧ ∀ H', Same H H' → Q (.bl true) H'
theorem G_law_right (T : Top K mg) : FnOk P w K mg base CX0 5 T.f_law_right T.fd_law_right ["_law_depth", "_law_width", "_law_other"] sp_law_right := by
  refine T.F_law_right.ok sc_law_right (fun vs H Q E h => by obtain ⟨d, i, o, rfl, _⟩ := h; rfl) (fun cdv A outer s H vs Q E hr h => ?_)
  obtain ⟨d, i, o, rfl, h0, h1, h2, h3, q⟩ := h
  refine ⟨_, PSs.nox (pss_cons (ps_set (i := 3) sc_law_right.nd rfl (by first | exact Or.inl rfl | exact Or.inr rfl) (pe_call (G_law_prices T) (hr.mono (by decide)) (by rfl) T.g_law_prices T.F_law_prices.kp T.b_law_prices .nil pass0 (pa_cons (pv 0) (pa_cons (pv 1) pa_nil))))
  (pss_cons (ps_if (PW.pt (pw_or (pt_cmpR (k_neD K rfl hr.units) (pe_call (G_mean T) (hr.mono (by decide)) (by rfl) T.g_mean T.F_mean.kp T.b_mean .nil pass0 (pa_cons (pv 0) (pa_cons (pv 1) pa_nil))) (pe_call (G_law_lowest T) (hr.mono (by decide)) (by rfl) T.g_law_lowest T.F_law_lowest.kp T.b_law_lowest .nil pass0 (pa_cons (pe_callB (k_sum K rfl rfl) (by rfl) T.n_sum (by decide +kernel) (pa_cons (pv 3) pa_nil)) (pa_cons (pe_callB (k_len K rfl) (by rfl) T.n_len (by decide +kernel) (pa_cons (pv 3) pa_nil)) pa_nil))) (nomark _)) (pw_or1 (pt_cmpR op_lt (pe_op op_mul pe_int (pe_callB (k_sum K rfl rfl) (by rfl) T.n_sum (by decide +kernel) (pa_cons (pv 3) pa_nil))) (pe_op op_mul (pe_op op_add (pe_op op_mul pe_int (pv 0)) pe_int) (pe_callB (k_len K rfl) (by rfl) T.n_len (by decide +kernel) (pa_cons (pv 3) pa_nil))) (nomark _)))))
    (pss_one (ps_ret pe_bl))
    pss_nil)
  (pss_cons (ps_set (i := 4) sc_law_right.nd rfl (by first | exact Or.inl rfl | exact Or.inr rfl) (pe_callB (k_max K rfl rfl) (by rfl) T.n_max (by decide +kernel) (pa_cons (pv 3) pa_nil)))
  (pss_cons (ps_if (pt_cmpR (k_neD K rfl hr.units) (pe_call (G_fair T) (hr.mono (by decide)) (by rfl) T.g_fair T.F_fair.kp T.b_fair .nil pass0 (pa_cons (pv 0) (pa_cons (pv 1) pa_nil))) (pe_call (G_law_lowest T) (hr.mono (by decide)) (by rfl) T.g_law_lowest T.F_law_lowest.kp T.b_law_lowest .nil pass0 (pa_cons (pe_callB (k_sum K rfl rfl) (by rfl) T.n_sum (by decide +kernel) (pa_cons (pe_lc (own := [("_law_price", 8)]) (g := gName 8) (tt := tYes) (by rfl) sc_law_right.nd (k_piL K rfl (pv 3)) (blkOk_by (own := [("_law_price", 8)]) (N := N_law_right) (sc := defScope s_law_right) (by decide +kernel)) (fun _ _ _ _ _ => (pg_name (i := 8) sc_law_right.nd rfl (by first | exact Or.inl rfl | exact Or.inr rfl))) (fun _ _ _ _ _ => pts_nil) (fun _ _ _ _ _ => (pe_op op_shl pe_int (pe_op op_sub (pv 4) (pv 8))))) pa_nil)) (pa_cons (pe_op op_shl pe_int (pv 4)) pa_nil))) (nomark _))
    (pss_one (ps_ret pe_bl))
    pss_nil)
  (pss_cons (ps_set (i := 5) sc_law_right.nd rfl (by first | exact Or.inl rfl | exact Or.inr rfl) (pe_call (G_law_prices T) (hr.mono (by decide)) (by rfl) T.g_law_prices T.F_law_prices.kp T.b_law_prices .nil pass0 (pa_cons (pv 0) (pa_cons (pv 2) pa_nil))))
  (pss_cons (ps_setLc (i := 6) (own := [("_law_fold", 7)]) (g := gName 7) (tt := tYes) (by rfl) sc_law_right.nd rfl rfl (sw_true rfl rfl rfl (by decide +kernel)) (pi_range1 (by rfl) T.n_range (pa_cons (pe_callB (k_len K rfl) (by rfl) T.n_len (by decide +kernel) (pa_cons (pv 3) pa_nil)) pa_nil)) (blkOk_by (own := [("_law_fold", 7)]) (N := N_law_right) (sc := defScope s_law_right) (by decide +kernel)) (fun _ _ _ _ _ => (pg_name (i := 7) sc_law_right.nd rfl (by first | exact Or.inl rfl | exact Or.inr rfl))) (fun _ _ _ _ _ => pts_nil) (fun _ _ _ _ _ => (pe_op op_sub (pe_ix (k_ixL K rfl) (pv 3) (pv 7) (fun _ _ => rfl)) (pe_ix (k_ixL K rfl) (pv 5) (pv 7) (fun _ _ => rfl)))))
  (pss_one (ps_ret (pe_cmpR (k_eqD K rfl hr.units) (pe_call (G_gap T) (hr.mono (by decide)) (by rfl) T.g_gap T.F_gap.kp T.b_gap .nil pass0 (pa_cons (pv 1) (pa_cons (pv 2) (pa_cons (pv 0) pa_nil)))) (pe_tup (pa_cons (pe_callB (k_max K rfl rfl) (by rfl) T.n_max (by decide +kernel) (pa_cons (pv 6) pa_nil)) (pa_cons (pe_bm PySem.F.plainAttrs_list PySem.F.slot_list_index PySem.F.type_list_index (k_index K rfl) (pv 6) (pa_cons (pe_callB (k_max K rfl rfl) (by rfl) T.n_max (by decide +kernel) (pa_cons (pv 6) pa_nil)) pa_nil)) pa_nil))) (nomark _)))))))))), ?_⟩
  have t1 := two_d h1
  have t2 : ((2 ^ d : Nat) : Int) ≤ 128 := Int.ofNat_le.mpr t1
  have t3 : (0 : Int) ≤ ((2 ^ d : Nat) : Int) := Int.natCast_nonneg _
  obtain ⟨f1, f2, f3, f4⟩ := all_mean ⟨d, by omega⟩ ⟨i, by omega⟩ h0 h2
  obtain ⟨f5, f6⟩ := all_fair ⟨d, by omega⟩ ⟨i, by omega⟩ h0 h2
  obtain ⟨f7, f8⟩ := all_gap ⟨d, by omega⟩ ⟨i, by omega⟩ ⟨o, by omega⟩ h0 h2 h3
  simp only at f1 f2 f3 f4 f5 f6 f7 f8
  -- told
  refine ⟨_, rfl, _, rfl, d, i, rfl, h1, by omega, fun H1 a s1 ha => ?_⟩
  have hA : SqL K H1 a ((told d i).map V.int) := .inl (.inl ha)
  -- mean(..) != lowest(..)
  refine ⟨_, rfl, _, rfl, d, i, rfl, h0, by omega, h2, fun H2 p s2 hp => ?_⟩
  refine ⟨_, rfl, a, _, rfl, s2.seq hA, _, rfl, a, _, rfl, .inl (s2.seq hA), (told d i).sum.toNat, (told d i).length, ?_, ?_, ?_, fun H3 p2 s3 hp2 => ?_⟩
  · rw [List.length_map, Int.toNat_of_nonneg f3]
    rfl
  · rw [told_len]; exact Nat.pow_pos (by decide)
  · rw [told_len]; exact Nat.lt_of_le_of_lt t1 (by decide +kernel)
  rw [Int.toNat_of_nonneg f3, ← f1] at hp2
  refine ne_tup (.inl (.inl (s3 _ _ hp))) (.inl (.inl hp2)) ⟨_, rfl, iteF ?_⟩
  have s13 := s2.trans s3
  -- 2 * sum(told) < ..
  refine ⟨_, rfl, a, _, rfl, s13.seq hA, _, _, rfl, rfl, .inl ⟨by decide, by decide⟩, _, rfl, _, _, rfl, rfl, .inl ⟨by decide, by decide⟩, _, _, rfl, rfl, _, rfl, a, _, rfl, .inl (s13.seq hA), _, _, rfl, rfl, .inl ⟨by omega, by omega⟩, _, _, rfl, rfl, _, rfl, ?_⟩
  rw [List.length_map, decide_eq_false f2]
  refine iteF ?_
  -- greatest
  refine ⟨_, rfl, a, _, rfl, s13.seq hA, by rw [told_len]; exact Nat.pow_pos (by decide), fun m m1 m2 => ?_⟩
  rw [maxL_eq m1 m2]
  have g0 : ∀ y ∈ told d i, y ≤ maxL (told d i) := by rw [← maxL_eq m1 m2]; exact m2
  have g1 : maxL (told d i) ≤ 200 := by
    rw [f4]
    have : (2 : Int) ^ (d - i) ≤ 2 ^ 7 := pow2_le (by omega)
    omega
  have g2 : 0 < maxL (told d i) := by
    rw [f4]
    have := pow_pos' (d - i)
    omega
  -- fair(..) != lowest(..)
  refine ⟨_, rfl, _, rfl, d, i, rfl, h0, by omega, h2, by omega, fun H4 p4 s4 hp4 => ?_⟩
  have s14 := s13.trans s4
  refine ⟨_, rfl, a, rfl, ⟨_, s14.seq hA⟩, fun D nD => ?_⟩
  refine lc_mapL (K := K) (xs := (told d i).map V.int) ((shares d i).map V.int) nD (s14.seq hA) (by unfold shares; simp) (by rw [List.length_map, told_len, sizeLine_eq]; omega) (fun x => rfl) ?_ ?_
  · intro k x y H' hx hy s Qt qt
    obtain ⟨n, hn, rfl⟩ := int_at hx
    unfold shares at hy
    rw [List.getElem?_map, List.getElem?_map, hn] at hy
    cases hy
    have hm := List.mem_of_getElem? hn
    have b1 := g0 n hm
    have b2 : 0 ≤ n := by
      unfold told at hm
      obtain ⟨f, _, rfl⟩ := List.mem_map.mp hm
      have : (0 : Int) ≤ (f : Int) / 2 ^ i := Int.ediv_nonneg (by omega) (Int.le_of_lt (pow_pos' i))
      omega
    refine ⟨_, rfl, _, rfl, _, _, rfl, rfl, _, _, rfl, rfl, ⟨by omega, by omega, by decide⟩, ?_⟩
    dsimp only
    rw [Int.one_mul]
    exact qt _ (Same.refl _)
  intro H5 s5 hD
  refine ⟨D, _, rfl, .inl (.inl hD), _, rfl, _, _, rfl, rfl, ⟨by omega, by omega, by decide⟩, (shares d i).sum.toNat, 2 ^ (maxL (told d i)).toNat, ?_, Nat.pow_pos (by decide), ?_, fun H6 p6 s6 hp6 => ?_⟩
  · show [V.int (shares d i).sum, V.int (1 * 2 ^ (maxL (told d i)).toNat)] = _
    rw [Int.toNat_of_nonneg f6, one_shl rfl]
  · exact Nat.pow_lt_pow_right (by decide) (by omega)
  have e6 : (((2 ^ (maxL (told d i)).toNat : Nat)) : Int) = 2 ^ (maxL (told d i)).toNat := by rw [Int.natCast_pow]; rfl
  rw [Int.toNat_of_nonneg f6, e6, ← f5] at hp6
  refine ne_tup (.inl (.inl (s6 _ _ (s5 _ _ hp4)))) (.inl (.inl hp6)) ⟨_, rfl, iteF ?_⟩
  have s16 := (s14.trans s5).trans s6
  -- more
  refine ⟨_, rfl, _, rfl, d, o, rfl, h1, by omega, fun H7 b s7 hb => ?_⟩
  have s17 := s16.trans s7
  have hA7 : SqL K H7 a ((told d i).map V.int) := s17.seq hA
  have hB7 : SqL K H7 b ((told d o).map V.int) := .inl (.inl hb)
  -- gaps
  refine ⟨_, rfl, a, _, rfl, .inl hA7, _, rfl, by rw [List.length_map, told_len]; omega, by rw [List.length_map, told_len]; omega, fun D2 nD2 => ?_⟩
  rw [List.length_map, told_len, Int.toNat_natCast]
  have gl : (gaps d i o).length = 2 ^ d := by unfold gaps; rw [List.length_map, List.length_range]
  refine lc_mapR (lo := 0) (n := 2 ^ d) ((gaps d i o).map V.int) nD2 (by rw [List.length_map, gl]) (by rw [sizeLine_eq]; omega) (fun x => rfl) ?_ ?_
  · intro k y H' hk hy s Qt qt
    unfold gaps at hy
    rw [List.getElem?_map, List.getElem?_map, List.getElem?_range hk] at hy
    cases hy
    refine ⟨_, rfl, _, rfl, a, _, _, _, rfl, rfl, s.seq hA7, at_of (j := k) (by omega) (told_at hk), _, rfl, _, rfl, b, _, _, _, rfl, rfl, s.seq hB7, at_of (j := k) (by omega) (told_at hk), _, _, rfl, rfl, ?_⟩
    exact qt _ (Same.refl _)
  intro H8 s8 hD2
  -- the end
  refine ⟨_, rfl, _, rfl, _, rfl, i, o, d, rfl, h0, by omega, h2, h3, fun H9 p9 s9 hp9 => ?_⟩
  have hD9 : SqL K H9 D2 ((gaps d i o).map V.int) := .inl (.inl (s9 _ _ hD2))
  have gpos : 0 < (gaps d i o).length := by rw [gl]; exact Nat.pow_pos (by decide)
  refine ⟨_, rfl, D2, _, rfl, hD9, gpos, fun m m1 m2 => ?_⟩
  rw [maxL_eq m1 m2]
  refine ⟨_, rfl, .inl ⟨rfl, _, hD9⟩, _, rfl, D2, _, rfl, hD9, gpos, fun m' m1' m2' => ?_⟩
  rw [maxL_eq m1' m2']
  generalize hM : maxL (gaps d i o) = M at f7 f8
  have hj : (gaps d i o).findIdx (fun x => decide (x = M)) < (gaps d i o).length := by
    rw [List.findIdx_lt_length]
    obtain ⟨x, hx, ex⟩ := List.any_eq_true.mp f8
    exact ⟨x, hx, ex⟩
  refine ⟨D2, _, _, (gaps d i o).findIdx (fun x => decide (x = M)), .int M, rfl, rfl, hD9, rfl, ?_, ?_, ?_, ?_, ?_⟩
  · rw [List.all_map]
    exact List.all_eq_true.mpr fun _ _ => rfl
  · rw [List.getElem?_map, List.getElem?_eq_getElem hj]
    have := List.findIdx_getElem (w := hj)
    rw [of_decide_eq_true this]
    rfl
  · show (M == M) = true
    exact beq_self_eq_true M
  · intro k z hk hz
    obtain ⟨n, hn, rfl⟩ := int_at hz
    have := List.not_of_lt_findIdx hk
    obtain ⟨hk', en⟩ := List.getElem?_eq_some_iff.mp hn
    rw [en] at this
    show (n == M) = false
    simpa using this
  · refine ⟨(show 2 ≤ sizeLine by decide), fun p np => ?_⟩
    refine eq_tup (ns := gapF i o d) (.inl (.inl (same_upd np _ _ hp9))) (.inl (.inl ?_)) ?_
    · rw [upd_same, f7]
      rfl
    · exact q _ ((((s1.trans s17).trans s8).trans s9).trans (same_upd np))
end
end My

namespace My
open PySem PySem.Spec PyProof.Rows L2 Pre
section
variable {P : Program} {w : World} {K : PySem.W.Frag} {mg : Str → Option Value} {base : Heap}
def sp_law_least_right : Sp := fun vs H Q _ => ∃ d : Nat, vs = [.int d] ∧ 1 ≤ d ∧ d ≤ 7 ∧ ∀ H', Same H H' → Q (.bl true) H'
theorem G_law_least_right (T : Top K mg) : FnOk P w K mg base CX0 5 T.f_law_least_right T.fd_law_least_right ["_law_depth"] sp_law_least_right := by
  refine T.F_law_least_right.ok sc_law_least_right (fun vs H Q E h => by obtain ⟨d, rfl, _⟩ := h; rfl) (fun cdv A outer s H vs Q E hr h => ?_)
  obtain ⟨d, rfl, h0, h1, q⟩ := h
  refine ⟨_, PSs.nox (pss_cons (ps_set (i := 1) sc_law_least_right.nd rfl (Or.inr rfl) (pe_lc (own := [("_law_width", 2)]) (g := gName 2) (tt := tYes) (by rfl) sc_law_least_right.nd (pi_range1 (by rfl) T.n_range (pa_cons (pe_op op_add (pv 0) pe_int) pa_nil)) (blkOk_by (own := [("_law_width", 2)]) (N := N_law_least_right) (sc := defScope s_law_least_right) (by decide +kernel)) (fun _ _ _ _ _ => (pg_name (i := 2) sc_law_least_right.nd rfl (by first | exact Or.inl rfl | exact Or.inr rfl))) (fun _ _ _ _ _ => pts_nil) (fun _ _ _ _ _ => (pe_callB (k_sum K rfl rfl) (by rfl) T.n_sum (by decide +kernel) (pa_cons (pe_call (G_law_prices T) (hr.mono (by decide)) (by rfl) T.g_law_prices T.F_law_prices.kp T.b_law_prices .nil pass0 (pa_cons (pv 0) (pa_cons (pv 2) pa_nil))) pa_nil)))))
  (pss_one (ps_ret (pe_cmpR (k_eqD K rfl hr.units) (pe_call (G_least_means T) (hr.mono (by decide)) (by rfl) T.g_least_means T.F_least_means.kp T.b_least_means .nil pass0 (pa_cons (pv 0) pa_nil)) (pe_lc (own := [("_law_width", 2)]) (g := gName 2) (by rfl) sc_law_least_right.nd (pi_range1 (by rfl) T.n_range (pa_cons (pe_op op_add (pv 0) pe_int) pa_nil)) (blkOk_by (own := [("_law_width", 2)]) (N := N_law_least_right) (sc := defScope s_law_least_right) (by decide +kernel)) (fun _ _ _ _ _ => (pg_name (i := 2) sc_law_least_right.nd rfl (by first | exact Or.inl rfl | exact Or.inr rfl))) (fun _ _ _ _ _ => (pts_one (pt_cmpR op_eq (pe_ix (k_ixL K rfl) (pv 1) (pv 2) (fun _ _ => rfl)) (pe_callB (k_min K rfl rfl) (by rfl) T.n_min (by decide +kernel) (pa_cons (pv 1) pa_nil)) (nomark _)))) (fun _ _ _ _ _ => (pv 2))) (nomark _))))), ?_⟩
  have f := all_least ⟨d, by omega⟩ h0
  simp only at f
  have en : ((d : Int) + 1).toNat = d + 1 := by omega
  refine ⟨_, rfl, _, _, rfl, rfl, _, rfl, by omega, by omega, fun D nD => ?_⟩
  rw [en]
  have sl : (sums d).length = d + 1 := by unfold sums; rw [List.length_map, List.length_range]
  have sat : ∀ i, i < d + 1 → ((sums d).map V.int)[i]? = some (.int (told d i).sum) := fun i hi => by
    unfold sums
    rw [List.getElem?_map, List.getElem?_map, List.getElem?_range hi]
    rfl
  refine lc_mapR (lo := 0) (n := d + 1) ((sums d).map V.int) nD (by rw [List.length_map, sl]) (by rw [sizeLine_eq]; omega) (fun x => rfl) ?_ ?_
  · intro i y H' hi hy s Qt qt
    rw [sat i hi] at hy
    cases hy
    refine ⟨_, rfl, _, rfl, d, i, ?_, h1, by omega, fun H2 p s2 hp => ?_⟩
    · show [V.int (d : Int), V.int (0 + (i : Int))] = _
      rw [Int.zero_add]
    · exact ⟨p, _, rfl, .inl (.inl hp), qt _ s2⟩
  intro H1 s1 hD
  refine ⟨_, rfl, d, rfl, h0, by omega, fun H2 p s2 hp => ?_⟩
  refine ⟨_, rfl, _, _, rfl, rfl, _, rfl, by omega, by omega, fun D2 nD2 => ?_⟩
  rw [en]
  refine lc_selR (lo := 0) (n := d + 1) ((List.range (d + 1)).map fun (i : Nat) => if decide ((told d i).sum = minL (sums d)) = true then some (V.int (i : Int)) else none) nD2 (by simp) (by rw [sizeLine_eq]; omega) (fun x => rfl) ?_ ?_
  · intro i o H' hi ho s Qt qt
    rw [List.getElem?_map, List.getElem?_range hi] at ho
    simp only [Option.map_some, Option.some.injEq, decide_eq_true_eq] at ho
    have hP : SqL K H' D ((sums d).map V.int) := .inl (.inl (s _ _ (s2 _ _ hD)))
    refine ⟨_, rfl, _, rfl, D, _, _, .int (told d i).sum, rfl, rfl, hP, at_of (j := i) (by omega) (sat i hi), _, rfl, D, _, rfl, hP, by rw [sl]; omega, fun m a b => ?_⟩
    rw [minL_eq a b]
    refine ⟨rfl, _, rfl, ?_⟩
    by_cases c : (told d i).sum = minL (sums d)
    · rw [if_pos c] at ho
      rw [decide_eq_true (congrArg V.int c)]
      refine iteT ⟨_, rfl, ?_⟩
      show Qt (some (.int (0 + (i : Int)))) H'
      rw [Int.zero_add]
      rw [← ho] at qt
      exact qt _ (Same.refl _)
    · rw [if_neg c] at ho
      rw [decide_eq_false (fun z => c (V.int.inj z))]
      rw [← ho] at qt
      exact iteF (qt _ (Same.refl _))
  · intro H3 s3 hD2
    rw [fm_range (fun i => decide ((told d i).sum = minL (sums d))) (d + 1), ← f] at hD2
    refine eq_lst (ns := (leastM d).map fun (i : Nat) => (i : Int)) (.inl (.inl (s3 _ _ hp))) (.inl (.inl ?_)) ?_
    · rw [hD2, List.map_map]
      rfl
    · exact q _ ((s1.trans s2).trans s3)
def sp_law (K : PySem.W.Frag) : Sp := fun vs H Q _ => ∃ (a : Addr) (ns : List Int), vs = [.ref a] ∧ SqL K H a (ns.map V.int) ∧ ns.length ≤ 63 ∧ ∀ H', Q (.bl true) H'
theorem G_law (T : Top K mg) : FnOk P w K mg base CX0 6 T.f_law T.fd_law ["_law_script"] (sp_law K) := by
  refine T.F_law.ok sc_law (fun vs H Q E h => by obtain ⟨a, ns, rfl, _⟩ := h; rfl) (fun cdv A outer s H vs Q E hr h => ?_)
  obtain ⟨a, ns, rfl, hS, hn, q⟩ := h
  refine ⟨_, PSs.nox (pss_cons (ps_for PassesOwn.never rfl (pi_range1 (by rfl) T.n_range (pa_cons pe_int pa_nil)) (pg_name (i := 1) sc_law.nd rfl (by first | exact Or.inl rfl | exact Or.inr rfl))
    (pss_cons (ps_set (i := 2) sc_law.nd rfl (by first | exact Or.inl rfl | exact Or.inr rfl) (pe_call (G_law_generator T) (hr.mono (by decide)) (by rfl) T.g_law_generator T.F_law_generator.kp T.b_law_generator .nil pass0 (pa_cons (pv 0) (pa_cons (pv 1) pa_nil))))
  (pss_cons (ps_set (i := 3) sc_law.nd rfl (by first | exact Or.inl rfl | exact Or.inr rfl) (pe_op op_add pe_int (pe_call (G_law_random T) (hr.mono (by decide)) (by rfl) T.g_law_random T.F_law_random.kp T.b_law_random .nil pass0 (pa_cons (pv 2) (pa_cons pe_int pa_nil)))))
  (pss_cons (ps_par (by rfl) sc_law.nd (i := 4) (j := 5) rfl rfl (by decide) rfl rfl (pa_cons (pe_call (G_law_random T) (hr.mono (by decide)) (by rfl) T.g_law_random T.F_law_random.kp T.b_law_random .nil pass0 (pa_cons (pv 2) (pa_cons (pe_op op_add (pv 3) pe_int) pa_nil))) (pa_cons (pe_call (G_law_random T) (hr.mono (by decide)) (by rfl) T.g_law_random T.F_law_random.kp T.b_law_random .nil pass0 (pa_cons (pv 2) (pa_cons (pe_op op_add (pv 3) pe_int) pa_nil))) pa_nil)) (by rfl))
  (pss_cons (ps_if (PW.pt (pw_or (pt_not (pt_val (pe_call (G_law_right T) (hr.mono (by decide)) (by rfl) T.g_law_right T.F_law_right.kp T.b_law_right .nil pass0 (pa_cons (pv 3) (pa_cons (pv 4) (pa_cons (pv 5) pa_nil)))))) (pw_or1 (pt_not (pt_val (pe_call (G_law_least_right T) (hr.mono (by decide)) (by rfl) T.g_law_least_right T.F_law_least_right.kp T.b_law_least_right .nil pass0 (pa_cons (pv 3) pa_nil)))))))
    (pss_one (ps_ret pe_bl))
    pss_nil)
  (pss_cons (ps_set (i := 3) sc_law.nd rfl (by first | exact Or.inl rfl | exact Or.inr rfl) (pe_op op_add pe_int (pe_call (G_law_random T) (hr.mono (by decide)) (by rfl) T.g_law_random T.F_law_random.kp T.b_law_random .nil pass0 (pa_cons (pv 2) (pa_cons pe_int pa_nil)))))
  (pss_cons (ps_if (PW.pt (pw_or (pt_cmpR (k_neD K rfl hr.units) (pe_call (G_least_means T) (hr.mono (by decide)) (by rfl) T.g_least_means T.F_least_means.kp T.b_least_means .nil pass0 (pa_cons (pv 3) pa_nil)) (pe_lst (pa_cons (pe_op op_sub (pv 3) pe_int) (pa_cons (pe_op op_sub (pv 3) pe_int) pa_nil))) (nomark _)) (pw_or1 (pt_cmpR (k_neD K rfl hr.units) (pe_call (G_mean T) (hr.mono (by decide)) (by rfl) T.g_mean T.F_mean.kp T.b_mean .nil pass0 (pa_cons (pv 3) (pa_cons (pe_op op_sub (pv 3) pe_int) pa_nil))) (pe_tup (pa_cons (pe_op op_add (pe_op op_mul pe_int (pv 3)) pe_int) (pa_cons pe_int pa_nil))) (nomark _)))))
    (pss_one (ps_ret pe_bl))
    pss_nil)
  (pss_one (ps_if (PW.pt (pw_or (pt_cmpR (k_neD K rfl hr.units) (pe_call (G_mean T) (hr.mono (by decide)) (by rfl) T.g_mean T.F_mean.kp T.b_mean .nil pass0 (pa_cons (pv 3) (pa_cons (pv 3) pa_nil))) (pe_tup (pa_cons (pe_op op_add (pv 3) pe_int) (pa_cons pe_int pa_nil))) (nomark _)) (pw_or1 (pt_cmpR (k_neD K rfl hr.units) (pe_call (G_gap T) (hr.mono (by decide)) (by rfl) T.g_gap T.F_gap.kp T.b_gap .nil pass0 (pa_cons pe_int (pa_cons (pv 3) (pa_cons (pv 3) pa_nil)))) (pe_tup (pa_cons (pe_op op_sub (pe_op op_sub (pe_op op_shl pe_int (pv 3)) pe_int) (pv 3)) (pa_cons (pe_op op_sub (pe_op op_shl pe_int (pv 3)) pe_int) pa_nil))) (nomark _)))))
    (pss_one (ps_ret pe_bl))
    pss_nil)))))))))
  (pss_one (ps_ret (pe_and (pe_cmpR (k_eqD K rfl hr.units) (pe_call (G_fair T) (hr.mono (by decide)) (by rfl) T.g_fair T.F_fair.kp T.b_fair .nil pass0 (pa_cons pe_int (pa_cons pe_int pa_nil))) (pe_tup (pa_cons pe_int (pa_cons pe_int pa_nil))) (nomark _)) (pe_and (pe_cmpR (k_eqD K rfl hr.units) (pe_call (G_least_means T) (hr.mono (by decide)) (by rfl) T.g_least_means T.F_least_means.kp T.b_least_means .nil pass0 (pa_cons pe_int pa_nil)) (pe_lst (pa_cons pe_int pa_nil)) (nomark _)) (pe_one (pe_cmpR (k_eqD K rfl hr.units) (pe_call (G_gap T) (hr.mono (by decide)) (by rfl) T.g_gap T.F_gap.kp T.b_gap .nil pass0 (pa_cons pe_int (pa_cons pe_int (pa_cons pe_int pa_nil)))) (pe_tup (pa_cons pe_int (pa_cons pe_int pa_nil))) (nomark _)))))))), ?_⟩
  refine ⟨_, rfl, by decide, by decide, ?_⟩
  refine for_range (lo := 0) (n := 2) (fun i σ H1 => ∃ v1 v2 v3 v4 v5, σ = [some (.ref a), v1, v2, v3, v4, v5] ∧ Same H H1) ⟨none, none, none, none, none, rfl, Same.refl _⟩ ?_ ?_
  · rintro i σ H1 hi ⟨v1, v2, v3, v4, v5, rfl, s1⟩
    refine ⟨_, rfl, _, rfl, a, ns, i, ?_, s1.seq hS, fun H2 g s2 ng g2 => ?_⟩
    · show [V.ref a, V.int (0 + (i : Int))] = _
      rw [Int.zero_add]
    refine ⟨_, rfl, g, _, _, rfl, g2, by omega, by decide, small_2900 (by decide), fun r1 H3 r10 r11 g3 b3 => ?_⟩
    refine ⟨_, _, rfl, rfl, ?_⟩
    obtain ⟨d, hd⟩ : ∃ d : Nat, 1 + r1 = (d : Int) := ⟨(1 + r1).toNat, by omega⟩
    dsimp only
    rw [hd]
    refine ⟨_, rfl, _, rfl, _, _, rfl, rfl, g, _, _, rfl, g3, by omega, by omega, small_2900 (by omega), fun r2 H4 r20 r21 g4 b4 => ?_⟩
    refine ⟨_, rfl, _, rfl, _, _, rfl, rfl, g, _, _, rfl, g4, by omega, by omega, small_2900 (by omega), fun r3 H5 r30 r31 g5 b5 => ?_⟩
    refine ⟨_, _, rfl, ?_⟩
    obtain ⟨i2, rfl⟩ : ∃ k : Nat, r2 = (k : Int) := ⟨r2.toNat, by omega⟩
    obtain ⟨i3, rfl⟩ : ∃ k : Nat, r3 = (k : Int) := ⟨r3.toNat, by omega⟩
    refine ⟨_, rfl, _, rfl, _, rfl, d, i2, i3, rfl, by omega, by omega, by omega, by omega, fun H6 s6 => ?_⟩
    refine ⟨_, rfl, iteF ?_⟩
    refine ⟨_, rfl, d, rfl, by omega, by omega, fun H7 s7 => ?_⟩
    refine ⟨_, rfl, iteF ?_⟩
    -- a greater depth
    have g7 := (g5.same s6).same s7
    refine ⟨_, rfl, g, _, _, rfl, g7, by omega, by decide, small_2900 (by decide), fun r4 H8 r40 r41 g8 b8 => ?_⟩
    refine ⟨_, _, rfl, rfl, ?_⟩
    obtain ⟨e, he⟩ : ∃ d : Nat, 2 + r4 = (d : Int) := ⟨(2 + r4).toNat, by omega⟩
    dsimp only
    rw [he]
    have e2 : 2 ≤ e := by omega
    have e24 : e ≤ 24 := by omega
    obtain ⟨f1, f2, f3, f4⟩ := all_great ⟨e, by omega⟩ e2
    simp only at f1 f2 f3 f4
    have b28 : But g H2 H8 := (((((b3.trans b4).trans b5).same s6).same s7).trans b8)
    have s18 : Same H1 H8 := But.fresh s2 ng b28
    -- least_means(depth) != [..]
    refine ⟨_, rfl, e, rfl, by omega, e24, fun H9 p s9 hp => ?_⟩
    refine ⟨_, rfl, _, _, rfl, rfl, _, rfl, _, _, rfl, rfl, (show 2 ≤ sizeLine by decide), fun p2 np2 => ?_⟩
    obtain ⟨H10, e10, s10, h10⟩ := fresh (.lst [V.int ((e : Int) - 2), V.int ((e : Int) - 1)]) np2
    rw [e10]
    refine ne_lst (ns := (leastM e).map fun (i : Nat) => (i : Int)) (.inl (.inl (s10 _ _ hp))) (.inl (.inl ?_)) ⟨_, rfl, iteF ?_⟩
    · rw [h10, f1]
      show some (HO.lst [V.int ((e : Int) - 2), V.int ((e : Int) - 1)]) = some (HO.lst [V.int ((e - 2 : Nat) : Int), V.int ((e - 1 : Nat) : Int)])
      rw [show ((e - 2 : Nat) : Int) = (e : Int) - 2 by omega, show ((e - 1 : Nat) : Int) = (e : Int) - 1 by omega]
    -- mean(depth, depth - 1) != (..)
    refine ⟨_, rfl, _, rfl, _, _, rfl, rfl, e, e - 1, ?_, by omega, e24, by omega, fun H11 p11 s11 h11 => ?_⟩
    · show [V.int (e : Int), V.int ((e : Int) - 1)] = _
      rw [show ((e - 1 : Nat) : Int) = (e : Int) - 1 by omega]
    refine ⟨_, rfl, _, _, rfl, rfl, .inl ⟨by decide, by decide⟩, _, _, rfl, rfl, (show 2 ≤ sizeLine by decide), fun p12 np12 => ?_⟩
    obtain ⟨H12, e12, s12, h12⟩ := fresh (.tup [V.int (2 * (e : Int) + 1), V.int 2]) np12
    rw [e12]
    refine ne_tup (ns := meanF e (e - 1)) (.inl (.inl (s12 _ _ h11))) (.inl (.inl ?_)) ⟨_, rfl, iteF ?_⟩
    · rw [h12, f2]
      rfl
    -- mean(depth, depth) != (..)
    refine ⟨_, rfl, _, rfl, e, e, rfl, by omega, e24, Nat.le_refl _, fun H13 p13 s13 h13 => ?_⟩
    refine ⟨_, rfl, _, _, rfl, rfl, (show 2 ≤ sizeLine by decide), fun p14 np14 => ?_⟩
    obtain ⟨H14, e14, s14, h14⟩ := fresh (.tup [V.int ((e : Int) + 1), V.int 1]) np14
    rw [e14]
    refine ne_tup (ns := meanF e e) (.inl (.inl (s14 _ _ h13))) (.inl (.inl ?_)) ⟨_, rfl, iteF ?_⟩
    · rw [h14, f3]
      rfl
    -- gap(0, depth, depth) != (..)
    refine ⟨_, rfl, _, rfl, 0, e, e, rfl, by omega, e24, Nat.zero_le _, Nat.le_refl _, fun H15 p15 s15 h15 => ?_⟩
    refine ⟨_, rfl, _, _, rfl, rfl, ⟨by omega, by omega, by decide⟩, _, _, rfl, rfl, _, rfl, _, _, rfl, rfl, ?_⟩
    refine ⟨_, rfl, _, _, rfl, rfl, ⟨by omega, by omega, by decide⟩, _, _, rfl, rfl, (show 2 ≤ sizeLine by decide), fun p16 np16 => ?_⟩
    obtain ⟨H16, e16, s16, h16⟩ := fresh (.tup [V.int (1 * 2 ^ ((e : Int)).toNat - 1 - (e : Int)), V.int (1 * 2 ^ ((e : Int)).toNat - 1)]) np16
    dsimp only
    rw [e16]
    refine ne_tup (ns := gapF 0 e e) (.inl (.inl (s16 _ _ h15))) (.inl (.inl ?_)) ⟨_, rfl, iteF ?_⟩
    · rw [h16, f4, Int.one_mul, Int.toNat_natCast]
      rfl
    exact ⟨_, _, _, _, _, rfl, (((((((((s1.trans s18).trans s9).trans s10).trans s11).trans s12).trans s13).trans s14).trans s15).trans s16)⟩
  · rintro σ H1 ⟨v1, v2, v3, v4, v5, rfl, s1⟩
    refine ⟨24, 24, rfl, by decide, by decide, by decide, by decide, fun H2 p2 s2 h2 => ?_⟩
    refine ⟨(show 2 ≤ sizeLine by decide), fun p3 np3 => ?_⟩
    obtain ⟨H3, e3, s3, h3⟩ := fresh (.tup [V.int 1, V.int 2]) np3
    rw [e3]
    refine eq_tup (ns := fairF 24 24) (.inl (.inl (s3 _ _ h2))) (.inl (.inl ?_)) ⟨_, rfl, iteT ?_⟩
    · rw [h3, show fairF 24 24 = [1, 2] by decide +kernel]
      rfl
    refine ⟨1, rfl, by decide, by decide, fun H4 p4 s4 h4 => ?_⟩
    refine ⟨(show 1 ≤ sizeLine by decide), fun p5 np5 => ?_⟩
    obtain ⟨H5, e5, s5, h5⟩ := fresh (.lst [V.int 0]) np5
    rw [e5]
    refine eq_lst (ns := (leastM 1).map fun (i : Nat) => (i : Int)) (.inl (.inl (s5 _ _ h4))) (.inl (.inl ?_)) ⟨_, rfl, iteT ?_⟩
    · rw [h5, show leastM 1 = [0] by decide +kernel]
      rfl
    refine ⟨24, 3, 24, rfl, by decide, by decide, by decide, by decide, fun H6 p6 s6 h6 => ?_⟩
    refine ⟨(show 2 ≤ sizeLine by decide), fun p7 np7 => ?_⟩
    obtain ⟨H7, e7, s7, h7⟩ := fresh (.tup [V.int 21, V.int 0]) np7
    rw [e7]
    refine eq_tup (ns := gapF 24 3 24) (.inl (.inl (s7 _ _ h6))) (.inl (.inl ?_)) (q _)
    rw [h7, show gapF 24 3 24 = [21, 0] by decide +kernel]
    rfl
end
end My

open PySem PySem.W PySem.Calls PyProof.Rows
set_option maxRecDepth 100000 in
set_option maxHeartbeats 0 in
theorem PySem.Challenge.cw_wholesound_k52_shares_means_and_gaps_holds : PySem.Challenge.rw_wholesound_k52_shares_means_and_gaps.Holds := by
  w_on; o_law
  refine HandSHeadRun.head_any (r := OpenLaw.row PySem.Challenge.rw_wholesound_k52_shares_means_and_gaps) (q := view (OpenLaw.row PySem.Challenge.rw_wholesound_k52_shares_means_and_gaps).prog [29]) (H := My.hk) (ob := My.ob) (M := 4000) (loose := My.loose) (d := HandSHeadRun.topDef (OpenLaw.row PySem.Challenge.rw_wholesound_k52_shares_means_and_gaps).prog 29) (kwd := []) My.ob_eq
    (by kernel_rfl) (fun s => by kernel_rfl) My.run (by kernel_rfl) (by kernel_rfl) (by kernel_rfl) (by rfl) (by first | assumption | decide +kernel) (by decide +kernel) ⟨rfl, rfl, rfl, rfl, rfl, by decide +kernel⟩ ?hw ?hc
  case hw => w_witness2
  case hc =>
    refine L2.walk_ofE (l := PySem.Challenge.rw_wholesound_k52_shares_means_and_gaps) (n := 63) (k := 6) (x := "_law_script") (CX := L2.CX0) rfl (by decide) (by kernel_rfl) ⟨rfl, by decide, by decide⟩ ?F (fun _ _ _ _ z => z)
    intro w mg fa h Y G hmg0
    obtain ⟨K, KX, c⟩ := Y
    have hmg : mg ("law" : PySem.Str) = some (.ref fa) := by
      have e : (HandSHeadRun.topDef (OpenLaw.row PySem.Challenge.rw_wholesound_k52_shares_means_and_gaps).prog 29).name = ("law" : PySem.Str) := by kernel_rfl
      rw [← e]
      exact hmg0
    have T : My.Top K mg := My.top_mk KX G c
    have e := hmg.symm.trans T.g_law
    cases e
    have b := L2.FunD.bindsA (ps := ["_law_script"]) T.F_law fun _ _ _ _ _ _ us hl => match us, hl with | [_], _ => rfl
    exact ⟨K, T.fd_law, My.sp_law K, KX, fun s v => b s [v] rfl, fun H a ns hl _ hS => ⟨a, ns, rfl, hS, hl, fun _ => rfl⟩, fun base _ _ => My.G_law T⟩


