import PyProof.Rows.All
import Wide.All
import OpenK.AllK
import Wide.FinOn
import KE.KStateDown
import Lean
import HandS.ForMost
import HandS.Exc
import HandS.Flow
import HandS.DictComp
import HandS.Style
import HandS.Wide
import HandS.WideBits
import HandS.IsInst
import HandS.Codes
import HandS.Walk
import HandS.Words
import HandS.WordsExc
import HandS.Defaults
import HandS.Head0
import HandS.Head1
import HandS.Head2
import HandS.HeadEnd
import HandS.HeadHook1
import HandS.HeadHook2
import HandS.SortInts
import PyProof.Rows.SortShellAny
import PyProof.InstNe
import KE.DataMinMax
import KE.SortData
import KE.IntBitsLaws
import HandS.Deep
import PySem.Challenge.RW_wholesound_k47_gains_and_halves
set_option Elab.async false
set_option linter.all false
set_option maxRecDepth 100000
set_option maxHeartbeats 4000000
set_option exponentiation.threshold 100000
namespace Pre
open PySem PySem.Spec PyProof.Rows L2
/-! ### heaps -/
theorem same_upd {H : Hp} {p : Addr} {o : HO} (h : H p = none) : Same H (upd H p o) := fun b x e => by
  rw [upd_ne (ne_of_none e h)]
  exact e
/-- a fresh thing that is then changed is no change of what was -/
theorem same_over {H H' : Hp} {p : Addr} {o : HO} (n : H p = none) (s : Same H H') : Same H (upd H' p o) := fun b x e => by
  rw [upd_ne (ne_of_none e n)]
  exact s b x e
theorem Same.tup {K : PySem.W.Frag} {H H' : Hp} {a : Addr} {xs : List V} (e : Same H H') (h : SqT K H a xs) : SqT K H' a xs := by
  rcases h with (h | ⟨o, h⟩) | h
  · exact .inl (.inl (e _ _ h))
  · exact .inl (.inr ⟨o, e _ _ h⟩)
  · exact .inr h
mutual
theorem dp_same {K : PySem.W.Frag} {H H' : Hp} (s : Same H H') : ∀ (d : PyData) (v : V), Dp K H v d → Dp K H' v d
  | .none, _, h => by cases h; exact .non
  | .bool _, _, h => by cases h; exact .bl _
  | .int _, _, h => by cases h; exact .int _
  | .str _, _, h => by cases h; exact .str _
  | .list ds, _, h => by cases h with | lst a b => exact .lst (s.seq a) (dps_same s ds _ b)
  | .tuple ds, _, h => by cases h with | tup a b => exact .tup (Same.tup s a) (dps_same s ds _ b)
  | .dict _, _, h => nomatch h
theorem dps_same {K : PySem.W.Frag} {H H' : Hp} (s : Same H H') : ∀ (ds : List PyData) (vs : List V), DpAll K H vs ds → DpAll K H' vs ds
  | [], _, h => by cases h; exact .nil
  | d :: ds, _, h => by cases h with | cons a b => exact .cons (dp_same s d _ a) (dps_same s ds _ b)
end
theorem dp_ints {K : PySem.W.Frag} {H : Hp} : ∀ ns : List Int, DpAll K H (ns.map V.int) (ns.map PyData.int)
  | [] => .nil
  | n :: r => .cons (.int n) (dp_ints r)
theorem eqv_ints : ∀ ns ms : List Int, PyData.eqvAll (ns.map PyData.int) (ms.map PyData.int) = decide (ns = ms)
  | [], [] => rfl
  | [], _ :: _ => rfl
  | _ :: _, [] => rfl
  | n :: r, m :: q => by
    show (PyData.eqv (.int n) (.int m) && PyData.eqvAll (r.map PyData.int) (q.map PyData.int)) = decide (n :: r = m :: q)
    rw [eqv_ints r q]
    show ((n == m) && decide (r = q)) = decide (n :: r = m :: q)
    by_cases h : n = m
    · subst h; simp
    · simp [h]
theorem lay_ints : ∀ ns : List Int, PyData.canLayAll0 (ns.map PyData.int) = true
  | [] => rfl
  | n :: r => by
    show (PyData.canLay0 (.int n) && PyData.canLayAll0 (r.map PyData.int)) = true
    rw [lay_ints r]
    rfl
theorem depth_ints : ∀ ns : List Int, PyData.depthAll (ns.map PyData.int) = 0
  | [] => by simp [PyData.depthAll]
  | n :: r => by
    show PyData.depthAll (.int n :: r.map PyData.int) = 0
    rw [PyData.depthAll, depth_ints r]
    simp [PyData.depth]
theorem shaped_ints (ns : List Int) : SeqAt.shaped (.list (ns.map PyData.int)) = true := by
  unfold SeqAt.shaped
  rw [PyData.canLay0, lay_ints, PyData.depth, depth_ints]
  rfl
theorem shaped_tup (ns : List Int) : SeqAt.shaped (.tuple (ns.map PyData.int)) = true := by
  unfold SeqAt.shaped
  rw [PyData.canLay0, lay_ints, PyData.depth, depth_ints]
  rfl
/-! ### comparisons of lists and tuples of whole numbers that are told alike -/
theorem ne_tup {K : PySem.W.Frag} {H : Hp} {a b : Addr} {ns : List Int} {Q : V → Hp → Prop} (ha : SqT K H a (ns.map V.int)) (hb : SqT K H b (ns.map V.int)) (q : Q (.bl false) H) : rNeD K (.ref a) (.ref b) H Q := by
  refine ⟨.tuple (ns.map PyData.int), .tuple (ns.map PyData.int), .tup ha (dp_ints ns), .tup hb (dp_ints ns), shaped_tup ns, shaped_tup ns, ?_⟩
  rw [PyData.eqv, eqv_ints, decide_eq_true rfl]
  exact q
theorem eq_tup {K : PySem.W.Frag} {H : Hp} {a b : Addr} {ns : List Int} {Q : V → Hp → Prop} (ha : SqT K H a (ns.map V.int)) (hb : SqT K H b (ns.map V.int)) (q : Q (.bl true) H) : rEqD K (.ref a) (.ref b) H Q := by
  refine ⟨.tuple (ns.map PyData.int), .tuple (ns.map PyData.int), .tup ha (dp_ints ns), .tup hb (dp_ints ns), shaped_tup ns, shaped_tup ns, ?_⟩
  rw [PyData.eqv, eqv_ints, decide_eq_true rfl]
  exact q
/-- lists of whole numbers, compared -/
theorem eqD_lst {K : PySem.W.Frag} {H : Hp} {a b : Addr} {ns ms : List Int} {Q : V → Hp → Prop} (ha : SqL K H a (ns.map V.int)) (hb : SqL K H b (ms.map V.int)) (q : Q (.bl (decide (ns = ms))) H) : rEqD K (.ref a) (.ref b) H Q := by
  refine ⟨.list (ns.map PyData.int), .list (ms.map PyData.int), .lst ha (dp_ints ns), .lst hb (dp_ints ms), shaped_ints ns, shaped_ints ms, ?_⟩
  rw [PyData.eqv, eqv_ints]
  exact q
theorem neD_lst {K : PySem.W.Frag} {H : Hp} {a b : Addr} {ns ms : List Int} {Q : V → Hp → Prop} (ha : SqL K H a (ns.map V.int)) (hb : SqL K H b (ms.map V.int)) (q : Q (.bl (!decide (ns = ms))) H) : rNeD K (.ref a) (.ref b) H Q := by
  refine ⟨.list (ns.map PyData.int), .list (ms.map PyData.int), .lst ha (dp_ints ns), .lst hb (dp_ints ms), shaped_ints ns, shaped_ints ms, ?_⟩
  rw [PyData.eqv, eqv_ints]
  exact q
theorem ne_lst {K : PySem.W.Frag} {H : Hp} {a b : Addr} {ns : List Int} {Q : V → Hp → Prop} (ha : SqL K H a (ns.map V.int)) (hb : SqL K H b (ns.map V.int)) (q : Q (.bl false) H) : rNeD K (.ref a) (.ref b) H Q :=
  neD_lst ha hb (by rw [decide_eq_true rfl]; exact q)
theorem eq_lst {K : PySem.W.Frag} {H : Hp} {a b : Addr} {ns : List Int} {Q : V → Hp → Prop} (ha : SqL K H a (ns.map V.int)) (hb : SqL K H b (ns.map V.int)) (q : Q (.bl true) H) : rEqD K (.ref a) (.ref b) H Q :=
  eqD_lst ha hb (by rw [decide_eq_true rfl]; exact q)
/-! ### powers -/
def CPowW (i j : Int) : Prop := 0 ≤ j ∧ (Builtin.Int.intBits i : Int) * j ≤ 2 ^ 27
theorem op_powW {X : Cx} : OpR X (binaryOp .Pow) (rI CPowW fun i j => .int (i ^ j.toNat)) := opI fun _ _ _ _ _ _ _ hc q => pow_int hc.1 hc.2 q
/-! ### comprehensions whose parts leave what is tracked as it is: sel tells of each item what comes of it -/
theorem take_fm {α : Type} {l : List (Option α)} {i : Nat} {o : Option α} (h : l[i]? = some o) : (l.take (i + 1)).filterMap id = (l.take i).filterMap id ++ o.toList := by
  rw [List.take_add_one, h, List.filterMap_append]
  cases o <;> rfl
theorem fm_len {α : Type} (l : List (Option α)) (i : Nat) : ((l.take i).filterMap id).length ≤ l.length :=
  Nat.le_trans (List.length_filterMap_le _ _) (by rw [List.length_take]; omega)
theorem lc_selL {K : PySem.W.Frag} {a : Addr} {xs : List V} {j : Nat} {tt : TT} {te : TE} {vs : List Nat} {σ : L2.St} {H1 : Hp} {D : Addr} {Qd : Hp → Prop} (sel : List (Option V)) (nD : H1 D = none) (hS : SqL K H1 a xs) (hlen : sel.length = xs.length) (hz : xs.length < sizeLine)
    (hw : ∀ x, wipe ((wipe σ vs).set j (some x)) vs = wipe σ vs)
    (hs : ∀ (i : Nat) (x : V) (o : Option V) (H' : Hp), xs[i]? = some x → sel[i]? = some o → Same H1 H' → ∀ Qt : Option V → Hp → Prop, (∀ H'', Same H' H'' → Qt o H'') →
      tt ((wipe σ vs).set j (some x)) H' fun b H3 => if b = true then te ((wipe σ vs).set j (some x)) H3 fun y H4 => Qt (some y) H4 else Qt none H3)
    (hd : ∀ H', Same H1 H' → H' D = some (.lst (sel.filterMap id)) → Qd H') :
    ∃ W : Nat → Nat → Hp → Prop, (∃ m, W 0 m (upd H1 D (.lst []))) ∧ ∀ i m H, W i m H →
      ((Itl K a).stop i H ∧ Qd H) ∨ ((Itl K a).go i H ∧ ∃ Nx : Hp → Prop, (∀ H', Nx H' → ∃ m', m' < m ∧ W (i + 1) m' H') ∧ ∀ x H', (Itl K a).yld i H x H' → gName j x (wipe σ vs) H' fun σ2 H2 => wipe σ2 vs = wipe σ vs ∧ tt σ2 H2 fun b H3 =>
        if b = true then te σ2 H3 fun y H4 => ∃ acc, H4 D = some (.lst acc) ∧ acc.length < sizeLine ∧ Nx (upd H4 D (.lst (acc ++ [y]))) else Nx H3) := by
  refine lc_list (K := K) (a := a) (xs := xs) (fun i H => Same H1 H ∧ H D = some (.lst ((sel.take i).filterMap id))) ⟨same_upd nD, upd_same⟩ (fun i H _ p => p.1.seq hS) ?_ ?_
  · rintro i x H hx ⟨s, hD⟩
    refine ⟨hw x, ?_⟩
    have hi : i < sel.length := by rw [hlen]; exact (List.getElem?_eq_some_iff.mp hx).1
    have ho : sel[i]? = some sel[i] := List.getElem?_eq_getElem hi
    have hl : ((sel.take i).filterMap id).length < sizeLine := Nat.lt_of_le_of_lt (fm_len sel i) (by omega)
    refine hs i x sel[i] H hx ho s (fun o H4 => match o with
      | some y => ∃ acc, H4 D = some (.lst acc) ∧ acc.length < sizeLine ∧ (Same H1 (upd H4 D (.lst (acc ++ [y]))) ∧ (upd H4 D (.lst (acc ++ [y]))) D = some (.lst ((sel.take (i + 1)).filterMap id)))
      | none => Same H1 H4 ∧ H4 D = some (.lst ((sel.take (i + 1)).filterMap id))) fun H4 s4 => ?_
    generalize sel[i] = o at ho ⊢
    cases o with
    | some y =>
      refine ⟨_, s4 _ _ hD, hl, same_over nD (s.trans s4), ?_⟩
      rw [upd_same, take_fm ho]
      rfl
    | none =>
      refine ⟨s.trans s4, ?_⟩
      rw [take_fm ho, s4 _ _ hD]
      simp
  · rintro H ⟨s, hD⟩
    refine hd H s ?_
    rw [hD, ← hlen, List.take_length]
/-- the items of a range -/
def rgV (lo : Int) (n : Nat) : List V := (List.range n).map fun (i : Nat) => V.int (lo + (i : Int))
theorem lc_selR {lo : Int} {n : Nat} {j : Nat} {tt : TT} {te : TE} {vs : List Nat} {σ : L2.St} {H1 : Hp} {D : Addr} {Qd : Hp → Prop} (sel : List (Option V)) (nD : H1 D = none) (hlen : sel.length = n) (hz : n < sizeLine)
    (hw : ∀ x, wipe ((wipe σ vs).set j (some x)) vs = wipe σ vs)
    (hs : ∀ (i : Nat) (o : Option V) (H' : Hp), i < n → sel[i]? = some o → Same H1 H' → ∀ Qt : Option V → Hp → Prop, (∀ H'', Same H' H'' → Qt o H'') →
      tt ((wipe σ vs).set j (some (.int (lo + (i : Int))))) H' fun b H3 => if b = true then te ((wipe σ vs).set j (some (.int (lo + (i : Int))))) H3 fun y H4 => Qt (some y) H4 else Qt none H3)
    (hd : ∀ H', Same H1 H' → H' D = some (.lst (sel.filterMap id)) → Qd H') :
    ∃ W : Nat → Nat → Hp → Prop, (∃ m, W 0 m (upd H1 D (.lst []))) ∧ ∀ i m H, W i m H →
      ((Itr lo n).stop i H ∧ Qd H) ∨ ((Itr lo n).go i H ∧ ∃ Nx : Hp → Prop, (∀ H', Nx H' → ∃ m', m' < m ∧ W (i + 1) m' H') ∧ ∀ x H', (Itr lo n).yld i H x H' → gName j x (wipe σ vs) H' fun σ2 H2 => wipe σ2 vs = wipe σ vs ∧ tt σ2 H2 fun b H3 =>
        if b = true then te σ2 H3 fun y H4 => ∃ acc, H4 D = some (.lst acc) ∧ acc.length < sizeLine ∧ Nx (upd H4 D (.lst (acc ++ [y]))) else Nx H3) := by
  refine lc_range (lo := lo) (n := n) (fun i H => Same H1 H ∧ H D = some (.lst ((sel.take i).filterMap id))) ⟨same_upd nD, upd_same⟩ ?_ ?_
  · rintro i H hi' ⟨s, hD⟩
    refine ⟨hw _, ?_⟩
    have hi : i < sel.length := by rw [hlen]; exact hi'
    have ho : sel[i]? = some sel[i] := List.getElem?_eq_getElem hi
    have hl : ((sel.take i).filterMap id).length < sizeLine := Nat.lt_of_le_of_lt (fm_len sel i) (by omega)
    refine hs i sel[i] H hi' ho s (fun o H4 => match o with
      | some y => ∃ acc, H4 D = some (.lst acc) ∧ acc.length < sizeLine ∧ (Same H1 (upd H4 D (.lst (acc ++ [y]))) ∧ (upd H4 D (.lst (acc ++ [y]))) D = some (.lst ((sel.take (i + 1)).filterMap id)))
      | none => Same H1 H4 ∧ H4 D = some (.lst ((sel.take (i + 1)).filterMap id))) fun H4 s4 => ?_
    generalize sel[i] = o at ho ⊢
    cases o with
    | some y =>
      refine ⟨_, s4 _ _ hD, hl, same_over nD (s.trans s4), ?_⟩
      rw [upd_same, take_fm ho]
      rfl
    | none =>
      refine ⟨s.trans s4, ?_⟩
      rw [take_fm ho, s4 _ _ hD]
      simp
  · rintro H ⟨s, hD⟩
    refine hd H s ?_
    rw [hD, ← hlen, List.take_length]
theorem fm_some {α : Type} (ys : List α) : (ys.map some).filterMap id = ys := by
  rw [List.filterMap_map]
  show List.filterMap (fun y => some y) ys = ys
  exact List.filterMap_some
/-- no test: ys tells what comes of each item -/
theorem lc_mapL {K : PySem.W.Frag} {a : Addr} {xs : List V} {j : Nat} {te : TE} {vs : List Nat} {σ : L2.St} {H1 : Hp} {D : Addr} {Qd : Hp → Prop} (ys : List V) (nD : H1 D = none) (hS : SqL K H1 a xs) (hlen : ys.length = xs.length) (hz : xs.length < sizeLine)
    (hw : ∀ x, wipe ((wipe σ vs).set j (some x)) vs = wipe σ vs)
    (hs : ∀ (i : Nat) (x y : V) (H' : Hp), xs[i]? = some x → ys[i]? = some y → Same H1 H' → ∀ Qt : V → Hp → Prop, (∀ H'', Same H' H'' → Qt y H'') → te ((wipe σ vs).set j (some x)) H' Qt)
    (hd : ∀ H', Same H1 H' → H' D = some (.lst ys) → Qd H') :
    ∃ W : Nat → Nat → Hp → Prop, (∃ m, W 0 m (upd H1 D (.lst []))) ∧ ∀ i m H, W i m H →
      ((Itl K a).stop i H ∧ Qd H) ∨ ((Itl K a).go i H ∧ ∃ Nx : Hp → Prop, (∀ H', Nx H' → ∃ m', m' < m ∧ W (i + 1) m' H') ∧ ∀ x H', (Itl K a).yld i H x H' → gName j x (wipe σ vs) H' fun σ2 H2 => wipe σ2 vs = wipe σ vs ∧ tYes σ2 H2 fun b H3 =>
        if b = true then te σ2 H3 fun y H4 => ∃ acc, H4 D = some (.lst acc) ∧ acc.length < sizeLine ∧ Nx (upd H4 D (.lst (acc ++ [y]))) else Nx H3) := by
  refine lc_selL (K := K) (a := a) (xs := xs) (tt := tYes) (ys.map some) nD hS (by rw [List.length_map]; exact hlen) hz hw ?_ ?_
  · intro i x o H' hx ho s Qt qt
    rw [List.getElem?_map] at ho
    obtain ⟨y, hy, rfl⟩ := Option.map_eq_some_iff.mp ho
    show if true = true then te ((wipe σ vs).set j (some x)) H' (fun y H4 => Qt (some y) H4) else Qt none H'
    exact iteT (hs i x y H' hx hy s (fun y H4 => Qt (some y) H4) qt)
  · intro H' s hD
    rw [fm_some] at hD
    exact hd H' s hD
theorem lc_mapR {lo : Int} {n : Nat} {j : Nat} {te : TE} {vs : List Nat} {σ : L2.St} {H1 : Hp} {D : Addr} {Qd : Hp → Prop} (ys : List V) (nD : H1 D = none) (hlen : ys.length = n) (hz : n < sizeLine)
    (hw : ∀ x, wipe ((wipe σ vs).set j (some x)) vs = wipe σ vs)
    (hs : ∀ (i : Nat) (y : V) (H' : Hp), i < n → ys[i]? = some y → Same H1 H' → ∀ Qt : V → Hp → Prop, (∀ H'', Same H' H'' → Qt y H'') → te ((wipe σ vs).set j (some (.int (lo + (i : Int))))) H' Qt)
    (hd : ∀ H', Same H1 H' → H' D = some (.lst ys) → Qd H') :
    ∃ W : Nat → Nat → Hp → Prop, (∃ m, W 0 m (upd H1 D (.lst []))) ∧ ∀ i m H, W i m H →
      ((Itr lo n).stop i H ∧ Qd H) ∨ ((Itr lo n).go i H ∧ ∃ Nx : Hp → Prop, (∀ H', Nx H' → ∃ m', m' < m ∧ W (i + 1) m' H') ∧ ∀ x H', (Itr lo n).yld i H x H' → gName j x (wipe σ vs) H' fun σ2 H2 => wipe σ2 vs = wipe σ vs ∧ tYes σ2 H2 fun b H3 =>
        if b = true then te σ2 H3 fun y H4 => ∃ acc, H4 D = some (.lst acc) ∧ acc.length < sizeLine ∧ Nx (upd H4 D (.lst (acc ++ [y]))) else Nx H3) := by
  refine lc_selR (lo := lo) (n := n) (tt := tYes) (ys.map some) nD (by rw [List.length_map]; exact hlen) hz hw ?_ ?_
  · intro i o H' hi ho s Qt qt
    rw [List.getElem?_map] at ho
    obtain ⟨y, hy, rfl⟩ := Option.map_eq_some_iff.mp ho
    show if true = true then te ((wipe σ vs).set j (some (.int (lo + (i : Int))))) H' (fun y H4 => Qt (some y) H4) else Qt none H'
    exact iteT (hs i y H' hi hy s (fun y H4 => Qt (some y) H4) qt)
  · intro H' s hD
    rw [fm_some] at hD
    exact hd H' s hD
/-- an item of a list of whole numbers -/
theorem int_at {ns : List Int} {i : Nat} {x : V} (h : (ns.map V.int)[i]? = some x) : ∃ n, ns[i]? = some n ∧ x = .int n := by
  rw [List.getElem?_map] at h
  obtain ⟨n, hn, e⟩ := Option.map_eq_some_iff.mp h
  exact ⟨n, hn, e.symm⟩
/-! ### rules with the written part named (within a comprehension Lean doesn't find it) -/
section
variable {X : Cx}
theorem k_len (K : PySem.W.Frag) (h : X.K = K) : CallR X (.builtin "len") (fun xs H Q => ∃ p ys, xs = [.ref p] ∧ (SqL K H p ys ∨ SqT K H p ys) ∧ Q (.int ys.length) H) := by subst h; exact call_len_seq
theorem k_sum (K : PySem.W.Frag) (h : X.K = K) (hc : X.calm = true) : CallR X (.builtin "sum") (rSum K) := by subst h; exact cr_sum hc
theorem k_max (K : PySem.W.Frag) (h : X.K = K) (hc : X.calm = true) : CallR X (.builtin "max") (rMax K) := by subst h; exact cr_max hc
theorem k_min (K : PySem.W.Frag) (h : X.K = K) (hc : X.calm = true) : CallR X (.builtin "min") (rMin K) := by subst h; exact cr_min hc
theorem k_isi (K : PySem.W.Frag) (h : X.K = K) : CallR X (.builtin "isinstance") (rIsi K) := by subst h; exact call_isi
theorem k_listOf (K : PySem.W.Frag) (h : X.K = K) : CallR X (.type "list") (fun xs H Q => ∃ p ys, xs = [.ref p] ∧ (SqL K H p ys ∨ SqT K H p ys) ∧ ∀ l, H l = none → Q (.ref l) (upd H l (.lst ys))) := by subst h; exact call_list_of
theorem k_tupleOf (K : PySem.W.Frag) (h : X.K = K) : CallR X (.type "tuple") (fun xs H Q => ∃ p ys, xs = [.ref p] ∧ ((SqL K H p ys ∧ ∀ l, H l = none → Q (.ref l) (upd H l (.tup ys))) ∨ (SqT K H p ys ∧ Q (.ref p) H))) := by subst h; exact call_tuple_of
theorem k_ixL (K : PySem.W.Frag) (h : X.K = K) : IxR X (rIxL K) := by subst h; exact ix_list
theorem k_ixT (K : PySem.W.Frag) (h : X.K = K) : IxR X (rIxT K) := by subst h; exact ix_tup
theorem k_slL (K : PySem.W.Frag) (h : X.K = K) : SlR X (rSlL K) := by subst h; exact sl_list
theorem k_slT (K : PySem.W.Frag) (h : X.K = K) : SlR X (rSlT K) := by subst h; exact sl_tup
theorem k_eqD (K : PySem.W.Frag) (h : X.K = K) (hu : X.A.units + 64 < cLine) : OpR X (compareOp .Eq) (rEqD K) := by subst h; exact op_eqD hu
theorem k_neD (K : PySem.W.Frag) (h : X.K = K) (hu : X.A.units + 64 < cLine) : OpR X (compareOp .NotEq) (rNeD K) := by subst h; exact op_neD hu
theorem k_in (K : PySem.W.Frag) (h : X.K = K) : OpR X (compareOp .In) (rIn K false) := by subst h; exact op_in_seq
theorem k_notIn (K : PySem.W.Frag) (h : X.K = K) : OpR X (compareOp .NotIn) (rIn K true) := by subst h; exact op_notIn_seq
theorem k_piL (K : PySem.W.Frag) (h : X.K = K) {tg l : Expr} {tl : TE} (hl : PE X l tl) : PI X tg l (iList K tl) := by subst h; exact pi_list hl
theorem k_piT (K : PySem.W.Frag) (h : X.K = K) {tg l : Expr} {tl : TE} (hl : PE X l tl) : PI X tg l (iTup K tl) := by subst h; exact pi_tup hl
theorem k_piE (K : PySem.W.Frag) (h : X.K = K) {e : Expr} {ta : TA} {p pos tpos : Pos} {elts : List Expr} {kk : Nat} (hg : Gl X "enumerate") (hm : X.mg "enumerate" = none) (ha : PA X [e] ta) (hs : starEach [e] X.env = [(false, eval e X.env)] := by rfl) : PI X (.Tuple elts kk tpos) (.Call (.Name "enumerate" p) [e] [] pos) (iEnum K ta) := by subst h; exact pi_enum hg hm ha hs
theorem k_pgT (K : PySem.W.Frag) (h : X.K = K) {es : List Expr} {k : Nat} {t : TGs} {n : Nat} {pos : Pos} (hc : X.calm = true) (hp : PGs X es t) (hn : (assignEach es X.env).length = n := by rfl) (hst : (assignEach es X.env).findIdx? (·.1) = none := by rfl) : PG X (.Tuple es k pos) (gTup K n t) := by subst h; exact pg_tup hc hp hn hst
theorem k_index (K : PySem.W.Frag) (h : X.K = K) : MtR X "list.index" (rIndex K) := by subst h; exact mt_index
end
/-! ### small things -/
theorem fresh {H : Hp} {p : Addr} (o : HO) (np : H p = none) : ∃ H', upd H p o = H' ∧ Same H H' ∧ H' p = some o := ⟨_, rfl, same_upd np, upd_same⟩
theorem cut_take (xs : List V) (k : Nat) : cutV xs none (some (k : Int)) = xs.take k := by
  unfold cutV
  rw [HT.sIx_nat, HT.sIx_none, List.drop_zero, Nat.sub_zero]
  rcases Nat.le_total k xs.length with h | h
  · rw [Nat.min_eq_left h]
  · rw [Nat.min_eq_right h, List.take_of_length_le h, List.take_length]
theorem cut_drop (xs : List V) (k : Nat) : cutV xs (some (k : Int)) none = xs.drop k := by
  unfold cutV
  rw [HT.sIx_nat, HT.sIx_none]
  rcases Nat.le_total k xs.length with h | h
  · rw [Nat.min_eq_left h, List.take_of_length_le (by rw [List.length_drop]; exact Nat.le_refl _)]
  · rw [Nat.min_eq_right h, List.drop_length, List.drop_of_length_le h, List.take_nil]
theorem rep_ints (k : Nat) (ks : List Int) : (List.replicate k (ks.map V.int)).flatten = ((List.replicate k ks).flatten).map V.int := by
  rw [List.map_flatten, List.map_replicate]
theorem rep_len {α : Type} (k : Nat) (ks : List α) : ((List.replicate k ks).flatten).length = k * ks.length := by
  induction k with
  | zero => simp
  | succ k ih => rw [List.replicate_succ, List.flatten_cons, List.length_append, ih, Nat.succ_mul]; omega
theorem rep_mem {α : Type} {k : Nat} {ks : List α} {x : α} (h : x ∈ (List.replicate k ks).flatten) : x ∈ ks := by
  obtain ⟨l, hl, hx⟩ := List.mem_flatten.mp h
  rw [(List.mem_replicate.mp hl).2] at hx
  exact hx
/-! ### comprehensions that make new things: R tells what is known of the i-th; D is no part of it -/
def Off (D : Addr) (H H' : Hp) : Prop := ∀ b o, b ≠ D → H b = some o → H' b = some o
def RelPv (R : Nat → V → Hp → Prop) (H1 : Hp) (D : Addr) (i : Nat) (H : Hp) : Prop := ∃ ys : List V, Same H1 H ∧ H D = some (.lst ys) ∧ ys.length = i ∧ ∀ (k : Nat) (y : V), ys[k]? = some y → R k y H
theorem lc_relR {lo : Int} {n : Nat} {j : Nat} {te : TE} {vs : List Nat} {σ : L2.St} {H1 : Hp} {D : Addr} {Qd : Hp → Prop} (R : Nat → V → Hp → Prop) (nD : H1 D = none) (hz : n < sizeLine)
    (mono : ∀ i y H H', Off D H H' → R i y H → R i y H')
    (hw : ∀ x, wipe ((wipe σ vs).set j (some x)) vs = wipe σ vs)
    (hs : ∀ (i : Nat) (H' : Hp) (xs : List V), i < n → Same H1 H' → H' D = some (.lst xs) → ∀ Qt : V → Hp → Prop, (∀ y H'', Same H' H'' → R i y H'' → Qt y H'') → te ((wipe σ vs).set j (some (.int (lo + (i : Int))))) H' Qt)
    (hd : ∀ H' ys, Same H1 H' → H' D = some (.lst ys) → ys.length = n → (∀ (i : Nat) (y : V), ys[i]? = some y → R i y H') → Qd H') :
    ∃ W : Nat → Nat → Hp → Prop, (∃ m, W 0 m (upd H1 D (.lst []))) ∧ ∀ i m H, W i m H →
      ((Itr lo n).stop i H ∧ Qd H) ∨ ((Itr lo n).go i H ∧ ∃ Nx : Hp → Prop, (∀ H', Nx H' → ∃ m', m' < m ∧ W (i + 1) m' H') ∧ ∀ x H', (Itr lo n).yld i H x H' → gName j x (wipe σ vs) H' fun σ2 H2 => wipe σ2 vs = wipe σ vs ∧ tYes σ2 H2 fun b H3 =>
        if b = true then te σ2 H3 fun y H4 => ∃ acc, H4 D = some (.lst acc) ∧ acc.length < sizeLine ∧ Nx (upd H4 D (.lst (acc ++ [y]))) else Nx H3) := by
  refine lc_range (lo := lo) (n := n) (RelPv R H1 D) ⟨[], same_upd nD, upd_same, rfl, fun k y h => by simp at h⟩ ?_ ?_
  · rintro i H hi ⟨ys, s, hD, hl, hR⟩
    refine ⟨hw _, ?_⟩
    show if true = true then te ((wipe σ vs).set j (some (.int (lo + (i : Int))))) H (fun y H4 => ∃ acc, H4 D = some (.lst acc) ∧ acc.length < sizeLine ∧ RelPv R H1 D (i + 1) (upd H4 D (.lst (acc ++ [y])))) else RelPv R H1 D (i + 1) H
    refine iteT (hs i H ys hi s hD _ fun y H4 s4 r4 => ?_)
    refine ⟨ys, s4 _ _ hD, by omega, ys ++ [y], same_over nD (s.trans s4), upd_same, by rw [List.length_append, hl]; rfl, fun k z hz => ?_⟩
    have off : Off D H4 (upd H4 D (.lst (ys ++ [y]))) := fun b o nb h => by rw [upd_ne nb]; exact h
    by_cases hk : k < ys.length
    · rw [List.getElem?_append_left hk] at hz
      exact mono k z H _ (fun b o nb h => off b o nb (s4 b o h)) (hR k z hz)
    · rw [List.getElem?_append_right (by omega)] at hz
      have hk2 : k - ys.length = 0 := by
        have h2 := (List.getElem?_eq_some_iff.mp hz).1
        rw [List.length_singleton] at h2
        omega
      rw [hk2] at hz
      cases hz
      have ek : k = i := by omega
      rw [ek]
      exact mono i y H4 _ off r4
  · rintro H ⟨ys, s, hD, hl, hR⟩
    exact hd H ys s hD hl hR
/-! ### ways that are told by whole numbers -/
theorem iteDT {p A B : Prop} [Decidable p] (hp : p) (h : A) : if decide p = true then A else B := by rw [decide_eq_true hp]; exact iteT h
theorem iteDF {p A B : Prop} [Decidable p] (hp : ¬ p) (h : B) : if decide p = true then A else B := by rw [decide_eq_false hp]; exact iteF h
theorem iteNT {p A B : Prop} [Decidable p] (hp : ¬ p) (h : A) : if (!decide p) = true then A else B := by rw [decide_eq_false hp]; exact iteT h
theorem iteNF {p A B : Prop} [Decidable p] (hp : p) (h : B) : if (!decide p) = true then A else B := by rw [decide_eq_true hp]; exact iteF h
theorem iteET {a b : Int} {A B : Prop} [Decidable (V.int a = V.int b)] (hp : a = b) (h : A) : if decide (V.int a = V.int b) = true then A else B := iteDT (congrArg V.int hp) h
theorem iteEF {a b : Int} {A B : Prop} [Decidable (V.int a = V.int b)] (hp : ¬ a = b) (h : B) : if decide (V.int a = V.int b) = true then A else B := iteDF (fun z => hp (V.int.inj z)) h
theorem iteENT {a b : Int} {A B : Prop} [Decidable (V.int a = V.int b)] (hp : ¬ a = b) (h : A) : if (!decide (V.int a = V.int b)) = true then A else B := iteNT (fun z => hp (V.int.inj z)) h
theorem iteENF {a b : Int} {A B : Prop} [Decidable (V.int a = V.int b)] (hp : a = b) (h : B) : if (!decide (V.int a = V.int b)) = true then A else B := iteNF (congrArg V.int hp) h
theorem iteNtt {A B : Prop} (h : B) : if (!true) = true then A else B := h
theorem iteNff {A B : Prop} (h : A) : if (!false) = true then A else B := h
/-- 1 or 0 of a comparison -/
theorem int_if {p : Prop} [Decidable p] : (if decide p = true then (1 : Int) else 0) = if p then 1 else 0 := by by_cases h : p <;> simp [h]
end Pre

namespace My
open PySem PySem.Spec PyProof.Rows L2
theorem nil_binds {K : PySem.W.Frag} {fd : FuncData} {ps : List Str} (h : ∃ ds, Vals [] ds ∧ Binds K fd ps ds) : Binds K fd ps [] := by
  obtain ⟨ds, v, b⟩ := h
  cases v
  exact b
def top (i : Nat) : Stmt := PySem.Challenge.pw_wholesound_k47_gains_and_halves.main.body.getD i (.Pass ⟨0, 0, 0, 0⟩)
abbrev s_is_whole : Stmt := top 5
abbrev N_is_whole : List Str := ["value"]
theorem sc_is_whole : FnScope N_is_whole ["value"] (defScope s_is_whole) := ⟨rfl, rfl, rfl, by decide +kernel, rfl, by decide +kernel, by decide +kernel⟩
abbrev s_is_between : Stmt := top 6
abbrev N_is_between : List Str := ["value", "low", "high"]
theorem sc_is_between : FnScope N_is_between ["value", "low", "high"] (defScope s_is_between) := ⟨rfl, rfl, rfl, by decide +kernel, rfl, by decide +kernel, by decide +kernel⟩
abbrev s_check_number : Stmt := top 7
abbrev N_check_number : List Str := ["number", "low", "high"]
theorem sc_check_number : FnScope N_check_number ["number", "low", "high"] (defScope s_check_number) := ⟨rfl, rfl, rfl, by decide +kernel, rfl, by decide +kernel, by decide +kernel⟩
abbrev s_check_folds : Stmt := top 9
abbrev N_check_folds : List Str := ["folds", "unit"]
theorem sc_check_folds : FnScope N_check_folds ["folds"] (defScope s_check_folds) := ⟨rfl, rfl, rfl, by decide +kernel, rfl, by decide +kernel, by decide +kernel⟩
abbrev s_raw_price : Stmt := top 10
abbrev N_raw_price : List Str := ["folds", "width", "unit"]
theorem sc_raw_price : FnScope N_raw_price ["folds", "width"] (defScope s_raw_price) := ⟨rfl, rfl, rfl, by decide +kernel, rfl, by decide +kernel, by decide +kernel⟩
abbrev s_told_least : Stmt := top 11
abbrev N_told_least : List Str := ["folds", "first", "last", "least", "unit"]
theorem sc_told_least : FnScope N_told_least ["folds"] (defScope s_told_least) := ⟨rfl, rfl, rfl, by decide +kernel, rfl, by decide +kernel, by decide +kernel⟩
abbrev s_one_gain : Stmt := top 13
abbrev N_one_gain : List Str := ["low", "high", "bits", "width"]
theorem sc_one_gain : FnScope N_one_gain ["low", "high", "bits"] (defScope s_one_gain) := ⟨rfl, rfl, rfl, by decide +kernel, rfl, by decide +kernel, by decide +kernel⟩
abbrev s_check_all : Stmt := top 14
abbrev N_check_all : List Str := ["things", "thing"]
theorem sc_check_all : FnScope N_check_all ["things"] (defScope s_check_all) := ⟨rfl, rfl, rfl, by decide +kernel, rfl, by decide +kernel, by decide +kernel⟩
abbrev s_greatest_gain : Stmt := top 15
abbrev N_greatest_gain : List Str := ["one", "other", "bits"]
theorem sc_greatest_gain : FnScope N_greatest_gain ["one", "other", "bits"] (defScope s_greatest_gain) := ⟨rfl, rfl, rfl, by decide +kernel, rfl, by decide +kernel, by decide +kernel⟩
abbrev s_gain_rows : Stmt := top 16
abbrev N_gain_rows : List Str := ["one", "other", "bits", "top"]
theorem sc_gain_rows : FnScope N_gain_rows ["one", "other", "bits"] (defScope s_gain_rows) := ⟨rfl, rfl, rfl, by decide +kernel, rfl, by decide +kernel, by decide +kernel⟩
abbrev s_never_pays : Stmt := top 17
abbrev N_never_pays : List Str := ["one", "other", "bits", "cost"]
theorem sc_never_pays : FnScope N_never_pays ["one", "other", "bits", "cost"] (defScope s_never_pays) := ⟨rfl, rfl, rfl, by decide +kernel, rfl, by decide +kernel, by decide +kernel⟩
abbrev s_totals_of : Stmt := top 18
abbrev N_totals_of : List Str := ["folds", "most", "told", "power", "length", "at"]
theorem sc_totals_of : FnScope N_totals_of ["folds", "most"] (defScope s_totals_of) := ⟨rfl, rfl, rfl, by decide +kernel, rfl, by decide +kernel, by decide +kernel⟩
abbrev s_halves : Stmt := top 19
abbrev N_halves : List Str := ["folds", "most"]
theorem sc_halves : FnScope N_halves ["folds", "most"] (defScope s_halves) := ⟨rfl, rfl, rfl, by decide +kernel, rfl, by decide +kernel, by decide +kernel⟩
abbrev s_least_half : Stmt := top 20
abbrev N_least_half : List Str := ["folds", "most", "cost", "told", "best", "power", "total"]
theorem sc_least_half : FnScope N_least_half ["folds", "most", "cost"] (defScope s_least_half) := ⟨rfl, rfl, rfl, by decide +kernel, rfl, by decide +kernel, by decide +kernel⟩
abbrev s_law_cell : Stmt := top 22
abbrev N_law_cell : List Str := ["_law_script", "_law_index"]
theorem sc_law_cell : FnScope N_law_cell ["_law_script", "_law_index"] (defScope s_law_cell) := ⟨rfl, rfl, rfl, by decide +kernel, rfl, by decide +kernel, by decide +kernel⟩
abbrev s_law_hash : Stmt := top 23
abbrev N_law_hash : List Str := ["_law_seed", "_law_index", "_law_mixed"]
theorem sc_law_hash : FnScope N_law_hash ["_law_seed", "_law_index"] (defScope s_law_hash) := ⟨rfl, rfl, rfl, by decide +kernel, rfl, by decide +kernel, by decide +kernel⟩
abbrev s_law_generator : Stmt := top 24
abbrev N_law_generator : List Str := ["_law_script", "_law_index", "_law_seed"]
theorem sc_law_generator : FnScope N_law_generator ["_law_script", "_law_index"] (defScope s_law_generator) := ⟨rfl, rfl, rfl, by decide +kernel, rfl, by decide +kernel, by decide +kernel⟩
abbrev s_law_random : Stmt := top 25
abbrev N_law_random : List Str := ["_law_generator_here", "_law_bound", "_law_drawn_here", "_law_turn"]
theorem sc_law_random : FnScope N_law_random ["_law_generator_here", "_law_bound"] (defScope s_law_random) := ⟨rfl, rfl, rfl, by decide +kernel, rfl, by decide +kernel, by decide +kernel⟩
abbrev s_law_price : Stmt := top 26
abbrev N_law_price : List Str := ["_law_folds", "_law_width", "_law_total", "_law_fold"]
theorem sc_law_price : FnScope N_law_price ["_law_folds", "_law_width"] (defScope s_law_price) := ⟨rfl, rfl, rfl, by decide +kernel, rfl, by decide +kernel, by decide +kernel⟩
abbrev s_law_below : Stmt := top 27
abbrev N_law_below : List Str := ["_law_many", "_law_top", "_law_found", "_law_turn", "_law_longer", "_law_row", "_law_one"]
theorem sc_law_below : FnScope N_law_below ["_law_many", "_law_top"] (defScope s_law_below) := ⟨rfl, rfl, rfl, by decide +kernel, rfl, by decide +kernel, by decide +kernel⟩
abbrev s_law_least_price : Stmt := top 28
abbrev N_law_least_price : List Str := ["_law_folds", "_law_width"]
theorem sc_law_least_price : FnScope N_law_least_price ["_law_folds"] (defScope s_law_least_price) := ⟨rfl, rfl, rfl, by decide +kernel, rfl, by decide +kernel, by decide +kernel⟩
abbrev s_law_gain : Stmt := top 29
abbrev N_law_gain : List Str := ["_law_one", "_law_other"]
theorem sc_law_gain : FnScope N_law_gain ["_law_one", "_law_other"] (defScope s_law_gain) := ⟨rfl, rfl, rfl, by decide +kernel, rfl, by decide +kernel, by decide +kernel⟩
abbrev s_law_rows_right : Stmt := top 30
abbrev N_law_rows_right : List Str := ["_law_one", "_law_other", "_law_bits", "_law_most", "_law_told", "_law_mine", "_law_yours", "_law_cost", "_law_fold"]
theorem sc_law_rows_right : FnScope N_law_rows_right ["_law_one", "_law_other", "_law_bits", "_law_most"] (defScope s_law_rows_right) := ⟨rfl, rfl, rfl, by decide +kernel, rfl, by decide +kernel, by decide +kernel⟩
abbrev s_law_small_right : Stmt := top 31
abbrev N_law_small_right : List Str := ["_law_one", "_law_other", "_law_bits", "_law_mine", "_law_most", "_law_left", "_law_right", "_law_gains", "_law_yours"]
theorem sc_law_small_right : FnScope N_law_small_right ["_law_one", "_law_other", "_law_bits"] (defScope s_law_small_right) := ⟨rfl, rfl, rfl, by decide +kernel, rfl, by decide +kernel, by decide +kernel⟩
abbrev s_law_drawn : Stmt := top 32
abbrev N_law_drawn : List Str := ["_law_generator_here", "_law_many", "_law_bits", "_law_loud", "_law_turn"]
theorem sc_law_drawn : FnScope N_law_drawn ["_law_generator_here", "_law_many", "_law_bits"] (defScope s_law_drawn) := ⟨rfl, rfl, rfl, by decide +kernel, rfl, by decide +kernel, by decide +kernel⟩
abbrev s_law_halves_right : Stmt := top 33
abbrev N_law_halves_right : List Str := ["_law_folds", "_law_most", "_law_due", "_law_power", "_law_cost", "_law_totals", "_law_size", "_law_parts", "_law_at", "_law_total", "_law_part"]
theorem sc_law_halves_right : FnScope N_law_halves_right ["_law_folds", "_law_most"] (defScope s_law_halves_right) := ⟨rfl, rfl, rfl, by decide +kernel, rfl, by decide +kernel, by decide +kernel⟩
abbrev s_law : Stmt := top 34
abbrev N_law : List Str := ["_law_script", "_law_generator_here", "_law_some", "_law_most", "_law_turn", "_law_many", "_law_folds", "_law_one", "_law_other", "_law_bits"]
theorem sc_law : FnScope N_law ["_law_script"] (defScope s_law) := ⟨rfl, rfl, rfl, by decide +kernel, rfl, by decide +kernel, by decide +kernel⟩
/-- what the top has left -/
structure Top (K : PySem.W.Frag) (mg : Str → Option Value) where
  f_is_whole : Addr
  fd_is_whole : FuncData
  F_is_whole : FunD K "is_whole" "is_whole" (defArgs s_is_whole) (defBody s_is_whole) (defScope s_is_whole) [] [] f_is_whole fd_is_whole
  b_is_whole : Binds K fd_is_whole ["value"] []
  g_is_whole : mg "is_whole" = some (.ref f_is_whole)
  f_is_between : Addr
  fd_is_between : FuncData
  F_is_between : FunD K "is_between" "is_between" (defArgs s_is_between) (defBody s_is_between) (defScope s_is_between) [] [] f_is_between fd_is_between
  b_is_between : Binds K fd_is_between ["value", "low", "high"] []
  g_is_between : mg "is_between" = some (.ref f_is_between)
  f_check_number : Addr
  fd_check_number : FuncData
  F_check_number : FunD K "check_number" "check_number" (defArgs s_check_number) (defBody s_check_number) (defScope s_check_number) [] [] f_check_number fd_check_number
  b_check_number : Binds K fd_check_number ["number", "low", "high"] []
  g_check_number : mg "check_number" = some (.ref f_check_number)
  f_check_folds : Addr
  fd_check_folds : FuncData
  F_check_folds : FunD K "check_folds" "check_folds" (defArgs s_check_folds) (defBody s_check_folds) (defScope s_check_folds) [] [] f_check_folds fd_check_folds
  b_check_folds : Binds K fd_check_folds ["folds"] []
  g_check_folds : mg "check_folds" = some (.ref f_check_folds)
  f_raw_price : Addr
  fd_raw_price : FuncData
  F_raw_price : FunD K "raw_price" "raw_price" (defArgs s_raw_price) (defBody s_raw_price) (defScope s_raw_price) [] [] f_raw_price fd_raw_price
  b_raw_price : Binds K fd_raw_price ["folds", "width"] []
  g_raw_price : mg "raw_price" = some (.ref f_raw_price)
  f_told_least : Addr
  fd_told_least : FuncData
  F_told_least : FunD K "told_least" "told_least" (defArgs s_told_least) (defBody s_told_least) (defScope s_told_least) [] [] f_told_least fd_told_least
  b_told_least : Binds K fd_told_least ["folds"] []
  g_told_least : mg "told_least" = some (.ref f_told_least)
  f_one_gain : Addr
  fd_one_gain : FuncData
  F_one_gain : FunD K "one_gain" "one_gain" (defArgs s_one_gain) (defBody s_one_gain) (defScope s_one_gain) [] [] f_one_gain fd_one_gain
  b_one_gain : Binds K fd_one_gain ["low", "high", "bits"] []
  g_one_gain : mg "one_gain" = some (.ref f_one_gain)
  f_check_all : Addr
  fd_check_all : FuncData
  F_check_all : FunD K "check_all" "check_all" (defArgs s_check_all) (defBody s_check_all) (defScope s_check_all) [] [] f_check_all fd_check_all
  b_check_all : Binds K fd_check_all ["things"] []
  g_check_all : mg "check_all" = some (.ref f_check_all)
  f_greatest_gain : Addr
  fd_greatest_gain : FuncData
  F_greatest_gain : FunD K "greatest_gain" "greatest_gain" (defArgs s_greatest_gain) (defBody s_greatest_gain) (defScope s_greatest_gain) [] [] f_greatest_gain fd_greatest_gain
  b_greatest_gain : Binds K fd_greatest_gain ["one", "other", "bits"] []
  g_greatest_gain : mg "greatest_gain" = some (.ref f_greatest_gain)
  f_gain_rows : Addr
  fd_gain_rows : FuncData
  F_gain_rows : FunD K "gain_rows" "gain_rows" (defArgs s_gain_rows) (defBody s_gain_rows) (defScope s_gain_rows) [] [] f_gain_rows fd_gain_rows
  b_gain_rows : Binds K fd_gain_rows ["one", "other", "bits"] []
  g_gain_rows : mg "gain_rows" = some (.ref f_gain_rows)
  f_never_pays : Addr
  fd_never_pays : FuncData
  F_never_pays : FunD K "never_pays" "never_pays" (defArgs s_never_pays) (defBody s_never_pays) (defScope s_never_pays) [] [] f_never_pays fd_never_pays
  b_never_pays : Binds K fd_never_pays ["one", "other", "bits", "cost"] []
  g_never_pays : mg "never_pays" = some (.ref f_never_pays)
  f_totals_of : Addr
  fd_totals_of : FuncData
  F_totals_of : FunD K "totals_of" "totals_of" (defArgs s_totals_of) (defBody s_totals_of) (defScope s_totals_of) [] [] f_totals_of fd_totals_of
  b_totals_of : Binds K fd_totals_of ["folds", "most"] []
  g_totals_of : mg "totals_of" = some (.ref f_totals_of)
  f_halves : Addr
  fd_halves : FuncData
  F_halves : FunD K "halves" "halves" (defArgs s_halves) (defBody s_halves) (defScope s_halves) [] [] f_halves fd_halves
  b_halves : Binds K fd_halves ["folds", "most"] []
  g_halves : mg "halves" = some (.ref f_halves)
  f_least_half : Addr
  fd_least_half : FuncData
  F_least_half : FunD K "least_half" "least_half" (defArgs s_least_half) (defBody s_least_half) (defScope s_least_half) [] [] f_least_half fd_least_half
  b_least_half : Binds K fd_least_half ["folds", "most", "cost"] []
  g_least_half : mg "least_half" = some (.ref f_least_half)
  f_law_cell : Addr
  fd_law_cell : FuncData
  F_law_cell : FunD K "_law_cell" "_law_cell" (defArgs s_law_cell) (defBody s_law_cell) (defScope s_law_cell) [] [] f_law_cell fd_law_cell
  b_law_cell : Binds K fd_law_cell ["_law_script", "_law_index"] []
  g_law_cell : mg "_law_cell" = some (.ref f_law_cell)
  f_law_hash : Addr
  fd_law_hash : FuncData
  F_law_hash : FunD K "_law_hash" "_law_hash" (defArgs s_law_hash) (defBody s_law_hash) (defScope s_law_hash) [] [] f_law_hash fd_law_hash
  b_law_hash : Binds K fd_law_hash ["_law_seed", "_law_index"] []
  g_law_hash : mg "_law_hash" = some (.ref f_law_hash)
  f_law_generator : Addr
  fd_law_generator : FuncData
  F_law_generator : FunD K "_law_generator" "_law_generator" (defArgs s_law_generator) (defBody s_law_generator) (defScope s_law_generator) [] [] f_law_generator fd_law_generator
  b_law_generator : Binds K fd_law_generator ["_law_script", "_law_index"] []
  g_law_generator : mg "_law_generator" = some (.ref f_law_generator)
  f_law_random : Addr
  fd_law_random : FuncData
  F_law_random : FunD K "_law_random" "_law_random" (defArgs s_law_random) (defBody s_law_random) (defScope s_law_random) [] [] f_law_random fd_law_random
  b_law_random : Binds K fd_law_random ["_law_generator_here", "_law_bound"] []
  g_law_random : mg "_law_random" = some (.ref f_law_random)
  f_law_price : Addr
  fd_law_price : FuncData
  F_law_price : FunD K "_law_price" "_law_price" (defArgs s_law_price) (defBody s_law_price) (defScope s_law_price) [] [] f_law_price fd_law_price
  b_law_price : Binds K fd_law_price ["_law_folds", "_law_width"] []
  g_law_price : mg "_law_price" = some (.ref f_law_price)
  f_law_below : Addr
  fd_law_below : FuncData
  F_law_below : FunD K "_law_below" "_law_below" (defArgs s_law_below) (defBody s_law_below) (defScope s_law_below) [] [] f_law_below fd_law_below
  b_law_below : Binds K fd_law_below ["_law_many", "_law_top"] []
  g_law_below : mg "_law_below" = some (.ref f_law_below)
  f_law_least_price : Addr
  fd_law_least_price : FuncData
  F_law_least_price : FunD K "_law_least_price" "_law_least_price" (defArgs s_law_least_price) (defBody s_law_least_price) (defScope s_law_least_price) [] [] f_law_least_price fd_law_least_price
  b_law_least_price : Binds K fd_law_least_price ["_law_folds"] []
  g_law_least_price : mg "_law_least_price" = some (.ref f_law_least_price)
  f_law_gain : Addr
  fd_law_gain : FuncData
  F_law_gain : FunD K "_law_gain" "_law_gain" (defArgs s_law_gain) (defBody s_law_gain) (defScope s_law_gain) [] [] f_law_gain fd_law_gain
  b_law_gain : Binds K fd_law_gain ["_law_one", "_law_other"] []
  g_law_gain : mg "_law_gain" = some (.ref f_law_gain)
  f_law_rows_right : Addr
  fd_law_rows_right : FuncData
  F_law_rows_right : FunD K "_law_rows_right" "_law_rows_right" (defArgs s_law_rows_right) (defBody s_law_rows_right) (defScope s_law_rows_right) [] [] f_law_rows_right fd_law_rows_right
  b_law_rows_right : Binds K fd_law_rows_right ["_law_one", "_law_other", "_law_bits", "_law_most"] []
  g_law_rows_right : mg "_law_rows_right" = some (.ref f_law_rows_right)
  f_law_small_right : Addr
  fd_law_small_right : FuncData
  F_law_small_right : FunD K "_law_small_right" "_law_small_right" (defArgs s_law_small_right) (defBody s_law_small_right) (defScope s_law_small_right) [] [] f_law_small_right fd_law_small_right
  b_law_small_right : Binds K fd_law_small_right ["_law_one", "_law_other", "_law_bits"] []
  g_law_small_right : mg "_law_small_right" = some (.ref f_law_small_right)
  f_law_drawn : Addr
  fd_law_drawn : FuncData
  F_law_drawn : FunD K "_law_drawn" "_law_drawn" (defArgs s_law_drawn) (defBody s_law_drawn) (defScope s_law_drawn) [] [] f_law_drawn fd_law_drawn
  b_law_drawn : Binds K fd_law_drawn ["_law_generator_here", "_law_many", "_law_bits"] []
  g_law_drawn : mg "_law_drawn" = some (.ref f_law_drawn)
  f_law_halves_right : Addr
  fd_law_halves_right : FuncData
  F_law_halves_right : FunD K "_law_halves_right" "_law_halves_right" (defArgs s_law_halves_right) (defBody s_law_halves_right) (defScope s_law_halves_right) [] [] f_law_halves_right fd_law_halves_right
  b_law_halves_right : Binds K fd_law_halves_right ["_law_folds", "_law_most"] []
  g_law_halves_right : mg "_law_halves_right" = some (.ref f_law_halves_right)
  f_law : Addr
  fd_law : FuncData
  F_law : FunD K "law" "law" (defArgs s_law) (defBody s_law) (defScope s_law) [] [] f_law fd_law
  b_law : Binds K fd_law ["_law_script"] []
  g_law : mg "law" = some (.ref f_law)
  n_len : mg "len" = none
  n_sum : mg "sum" = none
  n_max : mg "max" = none
  n_min : mg "min" = none
  n_int : mg "int" = none
  n_bool : mg "bool" = none
  n_list : mg "list" = none
  n_range : mg "range" = none
  n_isinstance : mg "isinstance" = none
  n_enumerate : mg "enumerate" = none
  n_sorted : mg "sorted" = none
  n_repr : mg "repr" = none
def d_is_whole : He.DefD := ⟨("is_whole", none), "is_whole", "is_whole", defArgs s_is_whole, defBody s_is_whole, defScope s_is_whole, [], []⟩
def d_is_between : He.DefD := ⟨("is_between", none), "is_between", "is_between", defArgs s_is_between, defBody s_is_between, defScope s_is_between, [], []⟩
def d_check_number : He.DefD := ⟨("check_number", none), "check_number", "check_number", defArgs s_check_number, defBody s_check_number, defScope s_check_number, [], []⟩
def d_check_folds : He.DefD := ⟨("check_folds", none), "check_folds", "check_folds", defArgs s_check_folds, defBody s_check_folds, defScope s_check_folds, [], []⟩
def d_raw_price : He.DefD := ⟨("raw_price", none), "raw_price", "raw_price", defArgs s_raw_price, defBody s_raw_price, defScope s_raw_price, [], []⟩
def d_told_least : He.DefD := ⟨("told_least", none), "told_least", "told_least", defArgs s_told_least, defBody s_told_least, defScope s_told_least, [], []⟩
def d_one_gain : He.DefD := ⟨("one_gain", none), "one_gain", "one_gain", defArgs s_one_gain, defBody s_one_gain, defScope s_one_gain, [], []⟩
def d_check_all : He.DefD := ⟨("check_all", none), "check_all", "check_all", defArgs s_check_all, defBody s_check_all, defScope s_check_all, [], []⟩
def d_greatest_gain : He.DefD := ⟨("greatest_gain", none), "greatest_gain", "greatest_gain", defArgs s_greatest_gain, defBody s_greatest_gain, defScope s_greatest_gain, [], []⟩
def d_gain_rows : He.DefD := ⟨("gain_rows", none), "gain_rows", "gain_rows", defArgs s_gain_rows, defBody s_gain_rows, defScope s_gain_rows, [], []⟩
def d_never_pays : He.DefD := ⟨("never_pays", none), "never_pays", "never_pays", defArgs s_never_pays, defBody s_never_pays, defScope s_never_pays, [], []⟩
def d_totals_of : He.DefD := ⟨("totals_of", none), "totals_of", "totals_of", defArgs s_totals_of, defBody s_totals_of, defScope s_totals_of, [], []⟩
def d_halves : He.DefD := ⟨("halves", none), "halves", "halves", defArgs s_halves, defBody s_halves, defScope s_halves, [], []⟩
def d_least_half : He.DefD := ⟨("least_half", none), "least_half", "least_half", defArgs s_least_half, defBody s_least_half, defScope s_least_half, [], []⟩
def d_law_cell : He.DefD := ⟨("_law_cell", none), "_law_cell", "_law_cell", defArgs s_law_cell, defBody s_law_cell, defScope s_law_cell, [], []⟩
def d_law_hash : He.DefD := ⟨("_law_hash", none), "_law_hash", "_law_hash", defArgs s_law_hash, defBody s_law_hash, defScope s_law_hash, [], []⟩
def d_law_generator : He.DefD := ⟨("_law_generator", none), "_law_generator", "_law_generator", defArgs s_law_generator, defBody s_law_generator, defScope s_law_generator, [], []⟩
def d_law_random : He.DefD := ⟨("_law_random", none), "_law_random", "_law_random", defArgs s_law_random, defBody s_law_random, defScope s_law_random, [], []⟩
def d_law_price : He.DefD := ⟨("_law_price", none), "_law_price", "_law_price", defArgs s_law_price, defBody s_law_price, defScope s_law_price, [], []⟩
def d_law_below : He.DefD := ⟨("_law_below", none), "_law_below", "_law_below", defArgs s_law_below, defBody s_law_below, defScope s_law_below, [], []⟩
def d_law_least_price : He.DefD := ⟨("_law_least_price", none), "_law_least_price", "_law_least_price", defArgs s_law_least_price, defBody s_law_least_price, defScope s_law_least_price, [], []⟩
def d_law_gain : He.DefD := ⟨("_law_gain", none), "_law_gain", "_law_gain", defArgs s_law_gain, defBody s_law_gain, defScope s_law_gain, [], []⟩
def d_law_rows_right : He.DefD := ⟨("_law_rows_right", none), "_law_rows_right", "_law_rows_right", defArgs s_law_rows_right, defBody s_law_rows_right, defScope s_law_rows_right, [], []⟩
def d_law_small_right : He.DefD := ⟨("_law_small_right", none), "_law_small_right", "_law_small_right", defArgs s_law_small_right, defBody s_law_small_right, defScope s_law_small_right, [], []⟩
def d_law_drawn : He.DefD := ⟨("_law_drawn", none), "_law_drawn", "_law_drawn", defArgs s_law_drawn, defBody s_law_drawn, defScope s_law_drawn, [], []⟩
def d_law_halves_right : He.DefD := ⟨("_law_halves_right", none), "_law_halves_right", "_law_halves_right", defArgs s_law_halves_right, defBody s_law_halves_right, defScope s_law_halves_right, [], []⟩
def d_law : He.DefD := ⟨("law", none), "law", "law", defArgs s_law, defBody s_law, defScope s_law, [], []⟩
def fn : List He.DefD := [d_is_whole, d_is_between, d_check_number, d_check_folds, d_raw_price, d_told_least, d_one_gain, d_check_all, d_greatest_gain, d_gain_rows, d_never_pays, d_totals_of, d_halves, d_least_half, d_law_cell, d_law_hash, d_law_generator, d_law_random, d_law_price, d_law_below, d_law_least_price, d_law_gain, d_law_rows_right, d_law_small_right, d_law_drawn, d_law_halves_right, d_law]
def fa0 : List He.Fa := [.glo "is_whole", .glo "is_between", .glo "check_number", .glo "check_folds", .glo "raw_price", .glo "told_least", .glo "one_gain", .glo "check_all", .glo "greatest_gain", .glo "gain_rows", .glo "never_pays", .glo "totals_of", .glo "halves", .glo "least_half", .glo "_law_cell", .glo "_law_hash", .glo "_law_generator", .glo "_law_random", .glo "_law_price", .glo "_law_below", .glo "_law_least_price", .glo "_law_gain", .glo "_law_rows_right", .glo "_law_small_right", .glo "_law_drawn", .glo "_law_halves_right", .glo "law", .free "len", .free "sum", .free "max"]
def fa1 : List He.Fa := [.free "min", .free "int", .free "bool", .free "list", .free "range", .free "isinstance", .free "enumerate", .free "sorted", .free "repr"]
def fa : List He.Fa := fa0 ++ fa1
/-- isinstance of an own class -/
def insB (K : PySem.W.Frag) (x : Str) : Bool := decide (PySem.W.findIn K (.ref (He.ga K x)) "__class__" = some (some (.builtin "object.__class__"))) && (decide (PySem.W.specialIn K (.builtin "object.__class__") "__get__" = some (some (.builtin "getset_descriptor.__get__"))) && (decide (PySem.W.takesIn K (.builtin "object.__class__") = some true) && (decide (PySem.W.mroIn K (He.ga K x) (.type "object") = some true) && decide (PySem.W.kitOne K (.ref (He.ga K x)) (.ref (He.ga K x)) = some true))))
theorem insB_ok {K : PySem.W.Frag} {x : Str} (cl : Cls K (He.ga K x)) (h : insB K x = true) : C8.InsC K (He.ga K x) := by
  unfold insB at h
  simp only [Bool.and_eq_true, decide_eq_true_eq] at h
  exact ⟨cl, h.1, h.2.1, h.2.2.1, h.2.2.2.1, h.2.2.2.2⟩
def eqB (K : PySem.W.Frag) (x : Str) : Bool := decide (PySem.W.findIn K (.ref (He.ga K x)) "__ne__" = some (some (.builtin "object.__ne__"))) && (decide (PySem.W.subIn K (.ref (He.ga K x)) (.type "object") = some true) && (decide (PySem.W.subIn K (.type "list") (.ref (He.ga K x)) = some false) && decide (PySem.W.kitOne K (.type "list") (.ref (He.ga K x)) = some false)))
def eqs : List Str := []
def own : List Str := []
def ex (K : PySem.W.Frag) : Bool := (own.all fun x => insB K x) && eqs.all fun x => eqB K x
abbrev R : PySem.W.OpenRow := PySem.W.OpenLaw.row PySem.Challenge.rw_wholesound_k47_gains_and_halves
abbrev Al : Type := He.AlD × Bool
def obsG (g : Addr → Option Obj) : Al := (He.obsDG 5 fa fn g, ex (He.frG g (He.asD g 5)))
def Says (K : PySem.W.Frag) : Prop := He.SaysD fa fn K ∧ ex K = true
def hk : PySem.W.Hook where
  α := Al
  obs := fun s => obsG s.heap.get?
  val := fun _ => (He.valD fn, true)
  says := fun _ h => ∃ K : PySem.W.Frag, K.In h ∧ Says K
  of := fun _ _ e => ⟨_, He.frG_in, congrArg Prod.fst e, congrArg Prod.snd e⟩
  keeps := fun _ _ _ ⟨K, hK, c⟩ k => ⟨K, PySem.W.Frag.In.keeps hK k, c⟩
def ob (s : PySem.W.SharedT) : Al := obsG (HandSHeadRun.getT s)
theorem ob_eq (s : PySem.W.SharedT) : ob s = hk.obs s.abs := by
  have e : HandSHeadRun.getT s = s.abs.heap.get? := funext (HandSHeadRun.getT_eq s)
  show obsG (HandSHeadRun.getT s) = obsG s.abs.heap.get?
  rw [e]
def loose0 : List PySem.Str := ["SoundError", "InvalidNumber", "InvalidFolds", "is_whole", "is_between", "check_number", "check_folds", "raw_price", "told_least", "one_gain", "check_all", "greatest_gain", "gain_rows", "never_pays", "totals_of", "halves", "least_half", "_law_cell", "_law_hash", "_law_generator", "_law_random", "_law_price", "_law_below", "_law_least_price", "_law_gain", "_law_rows_right", "_law_small_right", "_law_drawn", "_law_halves_right"]
abbrev loose : List PySem.Str := loose0
theorem run (w : World) : HandSHeadRun.RunEq R (PySem.W.view R.prog [34]) hk ob 8000 loose w := by
  intro os
  kernel_rfl
noncomputable def top_mk {K : PySem.W.Frag} {h : Heap} {mg : Str → Option Value} (X : K.In h) (G : h.Ns mainGlobals mg) (c : Says K) : Top K mg :=
  let p0 := c.1.def_ 0 (d := d_is_whole) rfl
  let p1 := c.1.def_ 1 (d := d_is_between) rfl
  let p2 := c.1.def_ 2 (d := d_check_number) rfl
  let p3 := c.1.def_ 3 (d := d_check_folds) rfl
  let p4 := c.1.def_ 4 (d := d_raw_price) rfl
  let p5 := c.1.def_ 5 (d := d_told_least) rfl
  let p6 := c.1.def_ 6 (d := d_one_gain) rfl
  let p7 := c.1.def_ 7 (d := d_check_all) rfl
  let p8 := c.1.def_ 8 (d := d_greatest_gain) rfl
  let p9 := c.1.def_ 9 (d := d_gain_rows) rfl
  let p10 := c.1.def_ 10 (d := d_never_pays) rfl
  let p11 := c.1.def_ 11 (d := d_totals_of) rfl
  let p12 := c.1.def_ 12 (d := d_halves) rfl
  let p13 := c.1.def_ 13 (d := d_least_half) rfl
  let p14 := c.1.def_ 14 (d := d_law_cell) rfl
  let p15 := c.1.def_ 15 (d := d_law_hash) rfl
  let p16 := c.1.def_ 16 (d := d_law_generator) rfl
  let p17 := c.1.def_ 17 (d := d_law_random) rfl
  let p18 := c.1.def_ 18 (d := d_law_price) rfl
  let p19 := c.1.def_ 19 (d := d_law_below) rfl
  let p20 := c.1.def_ 20 (d := d_law_least_price) rfl
  let p21 := c.1.def_ 21 (d := d_law_gain) rfl
  let p22 := c.1.def_ 22 (d := d_law_rows_right) rfl
  let p23 := c.1.def_ 23 (d := d_law_small_right) rfl
  let p24 := c.1.def_ 24 (d := d_law_drawn) rfl
  let p25 := c.1.def_ 25 (d := d_law_halves_right) rfl
  let p26 := c.1.def_ 26 (d := d_law) rfl
  { f_is_whole := _, fd_is_whole := p0.choose, F_is_whole := p0.choose_spec, b_is_whole := p0.choose_spec.bindsN fun _ _ _ _ _ _ us hl => match us, hl with | [_], _ => rfl, g_is_whole := He.glo_ok X G (c.1.fact 0 (f := .glo "is_whole") rfl),
    f_is_between := _, fd_is_between := p1.choose, F_is_between := p1.choose_spec, b_is_between := p1.choose_spec.bindsN fun _ _ _ _ _ _ us hl => match us, hl with | [_, _, _], _ => rfl, g_is_between := He.glo_ok X G (c.1.fact 1 (f := .glo "is_between") rfl),
    f_check_number := _, fd_check_number := p2.choose, F_check_number := p2.choose_spec, b_check_number := p2.choose_spec.bindsN fun _ _ _ _ _ _ us hl => match us, hl with | [_, _, _], _ => rfl, g_check_number := He.glo_ok X G (c.1.fact 2 (f := .glo "check_number") rfl),
    f_check_folds := _, fd_check_folds := p3.choose, F_check_folds := p3.choose_spec, b_check_folds := p3.choose_spec.bindsN fun _ _ _ _ _ _ us hl => match us, hl with | [_], _ => rfl, g_check_folds := He.glo_ok X G (c.1.fact 3 (f := .glo "check_folds") rfl),
    f_raw_price := _, fd_raw_price := p4.choose, F_raw_price := p4.choose_spec, b_raw_price := p4.choose_spec.bindsN fun _ _ _ _ _ _ us hl => match us, hl with | [_, _], _ => rfl, g_raw_price := He.glo_ok X G (c.1.fact 4 (f := .glo "raw_price") rfl),
    f_told_least := _, fd_told_least := p5.choose, F_told_least := p5.choose_spec, b_told_least := p5.choose_spec.bindsN fun _ _ _ _ _ _ us hl => match us, hl with | [_], _ => rfl, g_told_least := He.glo_ok X G (c.1.fact 5 (f := .glo "told_least") rfl),
    f_one_gain := _, fd_one_gain := p6.choose, F_one_gain := p6.choose_spec, b_one_gain := p6.choose_spec.bindsN fun _ _ _ _ _ _ us hl => match us, hl with | [_, _, _], _ => rfl, g_one_gain := He.glo_ok X G (c.1.fact 6 (f := .glo "one_gain") rfl),
    f_check_all := _, fd_check_all := p7.choose, F_check_all := p7.choose_spec, b_check_all := p7.choose_spec.bindsN fun _ _ _ _ _ _ us hl => match us, hl with | [_], _ => rfl, g_check_all := He.glo_ok X G (c.1.fact 7 (f := .glo "check_all") rfl),
    f_greatest_gain := _, fd_greatest_gain := p8.choose, F_greatest_gain := p8.choose_spec, b_greatest_gain := p8.choose_spec.bindsN fun _ _ _ _ _ _ us hl => match us, hl with | [_, _, _], _ => rfl, g_greatest_gain := He.glo_ok X G (c.1.fact 8 (f := .glo "greatest_gain") rfl),
    f_gain_rows := _, fd_gain_rows := p9.choose, F_gain_rows := p9.choose_spec, b_gain_rows := p9.choose_spec.bindsN fun _ _ _ _ _ _ us hl => match us, hl with | [_, _, _], _ => rfl, g_gain_rows := He.glo_ok X G (c.1.fact 9 (f := .glo "gain_rows") rfl),
    f_never_pays := _, fd_never_pays := p10.choose, F_never_pays := p10.choose_spec, b_never_pays := p10.choose_spec.bindsN fun _ _ _ _ _ _ us hl => match us, hl with | [_, _, _, _], _ => rfl, g_never_pays := He.glo_ok X G (c.1.fact 10 (f := .glo "never_pays") rfl),
    f_totals_of := _, fd_totals_of := p11.choose, F_totals_of := p11.choose_spec, b_totals_of := p11.choose_spec.bindsN fun _ _ _ _ _ _ us hl => match us, hl with | [_, _], _ => rfl, g_totals_of := He.glo_ok X G (c.1.fact 11 (f := .glo "totals_of") rfl),
    f_halves := _, fd_halves := p12.choose, F_halves := p12.choose_spec, b_halves := p12.choose_spec.bindsN fun _ _ _ _ _ _ us hl => match us, hl with | [_, _], _ => rfl, g_halves := He.glo_ok X G (c.1.fact 12 (f := .glo "halves") rfl),
    f_least_half := _, fd_least_half := p13.choose, F_least_half := p13.choose_spec, b_least_half := p13.choose_spec.bindsN fun _ _ _ _ _ _ us hl => match us, hl with | [_, _, _], _ => rfl, g_least_half := He.glo_ok X G (c.1.fact 13 (f := .glo "least_half") rfl),
    f_law_cell := _, fd_law_cell := p14.choose, F_law_cell := p14.choose_spec, b_law_cell := p14.choose_spec.bindsN fun _ _ _ _ _ _ us hl => match us, hl with | [_, _], _ => rfl, g_law_cell := He.glo_ok X G (c.1.fact 14 (f := .glo "_law_cell") rfl),
    f_law_hash := _, fd_law_hash := p15.choose, F_law_hash := p15.choose_spec, b_law_hash := p15.choose_spec.bindsN fun _ _ _ _ _ _ us hl => match us, hl with | [_, _], _ => rfl, g_law_hash := He.glo_ok X G (c.1.fact 15 (f := .glo "_law_hash") rfl),
    f_law_generator := _, fd_law_generator := p16.choose, F_law_generator := p16.choose_spec, b_law_generator := p16.choose_spec.bindsN fun _ _ _ _ _ _ us hl => match us, hl with | [_, _], _ => rfl, g_law_generator := He.glo_ok X G (c.1.fact 16 (f := .glo "_law_generator") rfl),
    f_law_random := _, fd_law_random := p17.choose, F_law_random := p17.choose_spec, b_law_random := p17.choose_spec.bindsN fun _ _ _ _ _ _ us hl => match us, hl with | [_, _], _ => rfl, g_law_random := He.glo_ok X G (c.1.fact 17 (f := .glo "_law_random") rfl),
    f_law_price := _, fd_law_price := p18.choose, F_law_price := p18.choose_spec, b_law_price := p18.choose_spec.bindsN fun _ _ _ _ _ _ us hl => match us, hl with | [_, _], _ => rfl, g_law_price := He.glo_ok X G (c.1.fact 18 (f := .glo "_law_price") rfl),
    f_law_below := _, fd_law_below := p19.choose, F_law_below := p19.choose_spec, b_law_below := p19.choose_spec.bindsN fun _ _ _ _ _ _ us hl => match us, hl with | [_, _], _ => rfl, g_law_below := He.glo_ok X G (c.1.fact 19 (f := .glo "_law_below") rfl),
    f_law_least_price := _, fd_law_least_price := p20.choose, F_law_least_price := p20.choose_spec, b_law_least_price := p20.choose_spec.bindsN fun _ _ _ _ _ _ us hl => match us, hl with | [_], _ => rfl, g_law_least_price := He.glo_ok X G (c.1.fact 20 (f := .glo "_law_least_price") rfl),
    f_law_gain := _, fd_law_gain := p21.choose, F_law_gain := p21.choose_spec, b_law_gain := p21.choose_spec.bindsN fun _ _ _ _ _ _ us hl => match us, hl with | [_, _], _ => rfl, g_law_gain := He.glo_ok X G (c.1.fact 21 (f := .glo "_law_gain") rfl),
    f_law_rows_right := _, fd_law_rows_right := p22.choose, F_law_rows_right := p22.choose_spec, b_law_rows_right := p22.choose_spec.bindsN fun _ _ _ _ _ _ us hl => match us, hl with | [_, _, _, _], _ => rfl, g_law_rows_right := He.glo_ok X G (c.1.fact 22 (f := .glo "_law_rows_right") rfl),
    f_law_small_right := _, fd_law_small_right := p23.choose, F_law_small_right := p23.choose_spec, b_law_small_right := p23.choose_spec.bindsN fun _ _ _ _ _ _ us hl => match us, hl with | [_, _, _], _ => rfl, g_law_small_right := He.glo_ok X G (c.1.fact 23 (f := .glo "_law_small_right") rfl),
    f_law_drawn := _, fd_law_drawn := p24.choose, F_law_drawn := p24.choose_spec, b_law_drawn := p24.choose_spec.bindsN fun _ _ _ _ _ _ us hl => match us, hl with | [_, _, _], _ => rfl, g_law_drawn := He.glo_ok X G (c.1.fact 24 (f := .glo "_law_drawn") rfl),
    f_law_halves_right := _, fd_law_halves_right := p25.choose, F_law_halves_right := p25.choose_spec, b_law_halves_right := p25.choose_spec.bindsN fun _ _ _ _ _ _ us hl => match us, hl with | [_, _], _ => rfl, g_law_halves_right := He.glo_ok X G (c.1.fact 25 (f := .glo "_law_halves_right") rfl),
    f_law := _, fd_law := p26.choose, F_law := p26.choose_spec, b_law := p26.choose_spec.bindsN fun _ _ _ _ _ _ us hl => match us, hl with | [_], _ => rfl, g_law := He.glo_ok X G (c.1.fact 26 (f := .glo "law") rfl),
    n_len := He.free_ok X G (c.1.fact 27 (f := .free "len") rfl),
    n_sum := He.free_ok X G (c.1.fact 28 (f := .free "sum") rfl),
    n_max := He.free_ok X G (c.1.fact 29 (f := .free "max") rfl),
    n_min := He.free_ok X G (c.1.fact 30 (f := .free "min") rfl),
    n_int := He.free_ok X G (c.1.fact 31 (f := .free "int") rfl),
    n_bool := He.free_ok X G (c.1.fact 32 (f := .free "bool") rfl),
    n_list := He.free_ok X G (c.1.fact 33 (f := .free "list") rfl),
    n_range := He.free_ok X G (c.1.fact 34 (f := .free "range") rfl),
    n_isinstance := He.free_ok X G (c.1.fact 35 (f := .free "isinstance") rfl),
    n_enumerate := He.free_ok X G (c.1.fact 36 (f := .free "enumerate") rfl),
    n_sorted := He.free_ok X G (c.1.fact 37 (f := .free "sorted") rfl),
    n_repr := He.free_ok X G (c.1.fact 38 (f := .free "repr") rfl) }
end My

namespace My
open PySem PySem.Spec PyProof.Rows L2 Pre
section
variable {P : Program} {w : World} {K : PySem.W.Frag} {mg : Str → Option Value} {base : Heap}
/-! ### is_whole, is_between, of whole numbers -/
def sp_is_whole : Sp := fun vs H Q _ => ∃ i : Int, vs = [.int i] ∧ Q (.bl true) H
theorem G_is_whole (T : Top K mg) : FnOk P w K mg base CX0 1 T.f_is_whole T.fd_is_whole ["value"] sp_is_whole := by
  refine T.F_is_whole.ok sc_is_whole (fun vs H Q E h => by obtain ⟨i, rfl, _⟩ := h; rfl) (fun cdv A outer s H vs Q E hr h => ?_)
  obtain ⟨i, rfl, q⟩ := h
  refine ⟨_, PSs.nox (pss_one (ps_ret (pe_and (pe_callB (k_isi K rfl) (by rfl) T.n_isinstance (by decide +kernel) (pa_cons (pv 0) (pa_cons (pe_bltn (v := .ty "int") (by rfl) T.n_int (by decide +kernel) rfl) pa_nil))) (pe_one (pe_not (pe_callB (k_isi K rfl) (by rfl) T.n_isinstance (by decide +kernel) (pa_cons (pv 0) (pa_cons (pe_bltn (v := .ty "bool") (by rfl) T.n_bool (by decide +kernel) rfl) pa_nil)))))))), ?_⟩
  refine ⟨_, rfl, _, _, _, _, true, rfl, .ty _, .base (.int i), kit_ty (by decide +kernel), true, rfl, iteT ?_⟩
  exact ⟨_, rfl, _, _, _, _, false, rfl, .ty _, .base (.int i), kit_ty (by decide +kernel), false, rfl, q⟩
/-- value a whole number, low one, high None or one -/
def sp_is_between : Sp := fun vs H Q _ => ∃ (i lo : Int) (hi : Option Int), vs = [.int i, .int lo, (match hi with | some j => .int j | none => .non)] ∧ Q (.bl (decide (lo ≤ i ∧ ∀ j, hi = some j → i ≤ j))) H
theorem G_is_between (T : Top K mg) : FnOk P w K mg base CX0 2 T.f_is_between T.fd_is_between ["value", "low", "high"] sp_is_between := by
  refine T.F_is_between.ok sc_is_between (fun vs H Q E h => by obtain ⟨i, lo, hi, rfl, _⟩ := h; rfl) (fun cdv A outer s H vs Q E hr h => ?_)
  obtain ⟨i, lo, hi, rfl, q⟩ := h
  refine ⟨_, PSs.nox (pss_one (ps_ret (pe_and (pe_call (G_is_whole T) (hr.mono (by decide)) (by rfl) T.g_is_whole T.F_is_whole.kp T.b_is_whole .nil pass0 (pa_cons (pv 0) pa_nil)) (pe_and (pe_cmpR op_le (pv 1) (pv 0) (nomark _)) (pe_one (pe_or (pe_cmpR op_isN (pv 2) pe_non (nomark _)) (pe_one (pe_cmpR op_le (pv 0) (pv 2) (nomark _))))))))), ?_⟩
  refine ⟨_, rfl, i, rfl, true, rfl, iteT ?_⟩
  refine ⟨_, rfl, _, rfl, _, _, rfl, rfl, _, rfl, ite2 (fun e => ?_) (fun e => ?_)⟩
  · have e1 : lo ≤ i := of_decide_eq_true e
    cases hi with
    | none =>
      refine ⟨_, rfl, rfl, _, rfl, iteT ?_⟩
      rw [decide_eq_true ⟨e1, fun j h => nomatch h⟩] at q
      exact q
    | some j =>
      refine ⟨_, rfl, rfl, _, rfl, iteF ⟨_, rfl, _, rfl, _, _, rfl, rfl, ?_⟩⟩
      have e2 : decide (lo ≤ i ∧ ∀ j', some j = some j' → i ≤ j') = decide (i ≤ j) := by
        by_cases h : i ≤ j
        · rw [decide_eq_true h, decide_eq_true]
          exact ⟨e1, fun j' e => by cases e; exact h⟩
        · rw [decide_eq_false h, decide_eq_false]
          exact fun z => h (z.2 j rfl)
      rw [e2] at q
      exact q
  · have e1 : ¬ lo ≤ i := fun h => e (decide_eq_true h)
    rw [decide_eq_false fun z => e1 z.1] at q
    exact q
end
end My

set_option exponentiation.threshold 100000
namespace My
open PySem PySem.Spec PyProof.Rows L2 Pre
section
variable {P : Program} {w : World} {K : PySem.W.Frag} {mg : Str → Option Value} {base : Heap}
/-! ### the law's draws -/
/-- a generator: its count is at most n -/
def GenAt (H : Hp) (g : Addr) (n : Nat) : Prop := ∃ x y z : Int, H g = some (.lst [.int x, .int y, .int z]) ∧ 0 ≤ z ∧ z ≤ (n : Int)
/-- all but one thing stand as they stood -/
def But (g : Addr) (H H' : Hp) : Prop := ∀ b o, b ≠ g → H b = some o → H' b = some o
theorem But.refl {g : Addr} {H : Hp} : But g H H := fun _ _ _ h => h
theorem But.trans {g : Addr} {H H1 H2 : Hp} (a : But g H H1) (b : But g H1 H2) : But g H H2 := fun c o n h => b c o n (a c o n h)
theorem But.same {g : Addr} {H H1 H2 : Hp} (a : But g H H1) (b : Same H1 H2) : But g H H2 := fun c o n h => b c o (a c o n h)
theorem But.of {g : Addr} {H H1 : Hp} (b : Same H H1) : But g H H1 := fun c o _ h => b c o h
theorem But.upd {g : Addr} {H H1 : Hp} {o : HO} (a : But g H H1) : But g H (upd H1 g o) := fun c u n h => by
  rw [upd_ne n]
  exact a c u n h
theorem But.free {g : Addr} {H H1 : Hp} (a : But g H H1) {p : Addr} (n : p ≠ g) (h : H1 p = none) : H p = none := by
  cases e : H p with
  | none => rfl
  | some o => rw [a p o n e] at h; cases h
/-- what is changed was not there at first -/
theorem But.fresh {g : Addr} {H H1 H2 : Hp} (s : Same H H1) (n : H g = none) (b : But g H1 H2) : Same H H2 := fun c o h => b c o (ne_of_none h n) (s c o h)
theorem GenAt.mono {H : Hp} {g : Addr} {n m : Nat} (h : GenAt H g n) (l : n ≤ m) : GenAt H g m := by
  obtain ⟨x, y, z, a, b, c⟩ := h
  exact ⟨x, y, z, a, b, by omega⟩
theorem GenAt.same {H H' : Hp} {g : Addr} {n : Nat} (h : GenAt H g n) (s : Same H H') : GenAt H' g n := by
  obtain ⟨x, y, z, a, b⟩ := h
  exact ⟨x, y, z, s _ _ a, b⟩
theorem GenAt.ne {H : Hp} {g : Addr} {n : Nat} {p : Addr} (h : GenAt H g n) (np : H p = none) : p ≠ g := by
  obtain ⟨x, y, z, a, _⟩ := h
  exact (ne_of_none a np).symm
theorem small_2900 {b : Int} (h : b ≤ 2 ^ 60) : b < 2 ^ 2900 := by omega
theorem pow_pos' (w : Nat) : (0 : Int) < 2 ^ w := Int.pow_pos (by decide)
theorem pow2_le {k m : Nat} (h : k ≤ m) : (2 : Int) ^ k ≤ 2 ^ m := by
  have e := Nat.pow_le_pow_right (show 0 < 2 by decide) h
  have e2 : ((2 ^ k : Nat) : Int) ≤ ((2 ^ m : Nat) : Int) := Int.ofNat_le.mpr e
  rw [Int.natCast_pow, Int.natCast_pow] at e2
  exact e2
def sp_law_cell (K : PySem.W.Frag) : Sp := fun vs H Q _ => ∃ (a : Addr) (ns : List Int) (i : Nat), vs = [.ref a, .int i] ∧ SqL K H a (ns.map V.int) ∧ ∀ (n : Int) H', Same H H' → Q (.int n) H'
theorem G_law_cell (T : Top K mg) : FnOk P w K mg base CX0 1 T.f_law_cell T.fd_law_cell ["_law_script", "_law_index"] (sp_law_cell K) := by
  refine T.F_law_cell.ok sc_law_cell (fun vs H Q E h => by obtain ⟨a, ns, i, rfl, _⟩ := h; rfl) (fun cdv A outer s H vs Q E hr h => ?_)
  obtain ⟨a, ns, i, rfl, hS, q⟩ := h
  refine ⟨_, PSs.nox (pss_cons (ps_if (pt_cmpR op_lt (pv 1) (pe_callB (k_len K rfl) (by rfl) T.n_len (by decide +kernel) (pa_cons (pv 0) pa_nil)) (nomark _))
    (pss_one (ps_ret (pe_ix (k_ixL K rfl) (pv 0) (pv 1) (fun _ _ => rfl))))
    pss_nil)
  (pss_one (ps_ret (pe_op op_mod (pe_callB (k_sum K rfl rfl) (by rfl) T.n_sum (by decide +kernel) (pa_cons (pe_slice (k_slL K rfl) (pv 0) po_none (po_some pe_int)) pa_nil)) pe_int)))), ?_⟩
  refine ⟨_, rfl, _, rfl, a, _, rfl, .inl hS, _, _, rfl, rfl, _, rfl, ite2 (fun e => ?_) (fun e => ?_)⟩
  · have e1 : (i : Int) < (((ns.map V.int).length : Nat) : Int) := of_decide_eq_true e
    rw [List.length_map] at e1
    have hi : i < ns.length := by omega
    refine ⟨_, rfl, _, rfl, a, _, _, .int ns[i], rfl, rfl, hS, atI_nat (by rw [List.getElem?_map, List.getElem?_eq_getElem hi]; rfl), ?_⟩
    exact q _ _ (Same.refl _)
  · refine ⟨_, rfl, _, rfl, a, _, rfl, hS, fun p np => ?_⟩
    have ec : ∃ ms : List Int, cutV (ns.map V.int) none (some 1) = ms.map V.int := by
      unfold cutV
      exact ⟨(ns.drop (HT.sIx (ns.map V.int).length 0 none)).take (HT.sIx (ns.map V.int).length (ns.map V.int).length (some 1) - HT.sIx (ns.map V.int).length 0 none), by rw [List.map_take, List.map_drop]⟩
    obtain ⟨ms, em⟩ := ec
    refine ⟨p, ms, rfl, .inl (.inl (by rw [upd_same, em])), _, _, rfl, rfl, (by show (0 : Int) < 1000003; decide), ?_⟩
    exact q _ _ (same_upd np)
theorem cmul_mod (x m j : Int) (h0 : 0 < m) (h1 : m ≤ 2 ^ 60) : CMul (x % m) j := by
  have a := Int.emod_nonneg x (show m ≠ 0 by omega)
  have b := Int.emod_lt_of_pos x h0
  exact .inl ⟨by omega, by omega⟩
def sp_law_hash : Sp := fun vs H Q _ => ∃ i j : Int, vs = [.int i, .int j] ∧ 0 ≤ j ∧ j < 2 ^ 60 ∧ ∀ n : Int, Q (.int n) H
theorem G_law_hash (T : Top K mg) : FnOk P w K mg base CX0 1 T.f_law_hash T.fd_law_hash ["_law_seed", "_law_index"] sp_law_hash := by
  refine T.F_law_hash.ok sc_law_hash (fun vs H Q E h => by obtain ⟨i, j, rfl, _⟩ := h; rfl) (fun cdv A outer s H vs Q E hr h => ?_)
  obtain ⟨i, j, rfl, h0, h1, q⟩ := h
  refine ⟨_, PSs.nox (pss_cons (ps_set (i := 2) sc_law_hash.nd rfl (by first | exact Or.inl rfl | exact Or.inr rfl) (pe_op op_mod (pe_callTy call_int1 (by rfl) T.n_int (by decide +kernel) (pa_cons (pe_op op_add (pe_op op_add (pe_op op_add (pe_op op_mul (pv 0) pe_int) (pe_op op_mul (pe_op op_mul pe_int (pv 1)) (pv 1))) (pe_op op_mul pe_int (pv 1))) pe_int) pa_nil)) pe_int))
  (pss_cons (ps_set (i := 2) sc_law_hash.nd rfl (by first | exact Or.inl rfl | exact Or.inr rfl) (pe_op op_mod (pe_callTy call_int1 (by rfl) T.n_int (by decide +kernel) (pa_cons (pe_op op_add (pe_op op_add (pe_op op_mul (pv 2) (pv 2)) (pe_op op_mul pe_int (pv 1))) pe_int) pa_nil)) pe_int))
  (pss_one (ps_ret (pe_op op_mod (pe_callTy call_int1 (by rfl) T.n_int (by decide +kernel) (pa_cons (pe_op op_mul (pv 2) pe_int) pa_nil)) pe_int))))), ?_⟩
  refine ⟨_, rfl, _, _, rfl, rfl, .inr ⟨by decide, by decide⟩, _, rfl, _, _, rfl, rfl, .inl ⟨by decide, by decide⟩, _, rfl, _, _, rfl, rfl, .inr ⟨by omega, by omega⟩, _, _, rfl, rfl, _, rfl, _, _, rfl, rfl, .inl ⟨by decide, by decide⟩, _, _, rfl, rfl, _, _, rfl, rfl,
    .inl ⟨_, rfl, _, _, rfl, rfl, (by show (0 : Int) < _; decide), ?_⟩⟩
  refine ⟨_, rfl, _, rfl, _, _, rfl, rfl, cmul_mod _ _ _ (by decide) (by decide), _, rfl, _, _, rfl, rfl, .inl ⟨by decide, by decide⟩, _, _, rfl, rfl, _, _, rfl, rfl, .inl ⟨_, rfl, _, _, rfl, rfl, (by show (0 : Int) < _; decide), ?_⟩⟩
  refine ⟨_, rfl, _, _, rfl, rfl, .inr ⟨by decide, by decide⟩, .inl ⟨_, rfl, _, _, rfl, rfl, (by show (0 : Int) < _; decide), ?_⟩⟩
  exact q _

def sp_law_generator (K : PySem.W.Frag) : Sp := fun vs H Q _ => ∃ (a : Addr) (ns : List Int) (i : Nat), vs = [.ref a, .int i] ∧ SqL K H a (ns.map V.int) ∧ ∀ H' g, Same H H' → H g = none → GenAt H' g (1000 * i) → Q (.ref g) H'
theorem G_law_generator (T : Top K mg) : FnOk P w K mg base CX0 2 T.f_law_generator T.fd_law_generator ["_law_script", "_law_index"] (sp_law_generator K) := by
  refine T.F_law_generator.ok sc_law_generator (fun vs H Q E h => by obtain ⟨a, ns, i, rfl, _⟩ := h; rfl) (fun cdv A outer s H vs Q E hr h => ?_)
  obtain ⟨a, ns, i, rfl, hS, q⟩ := h
  refine ⟨_, PSs.nox (pss_cons (ps_set (i := 2) sc_law_generator.nd rfl (by first | exact Or.inl rfl | exact Or.inr rfl) (pe_call (G_law_cell T) (hr.mono (by decide)) (by rfl) T.g_law_cell T.F_law_cell.kp T.b_law_cell .nil pass0 (pa_cons (pv 0) (pa_cons (pv 1) pa_nil))))
  (pss_one (ps_ret (pe_lst (pa_cons (pe_op op_mod (pe_callTy call_int1 (by rfl) T.n_int (by decide +kernel) (pa_cons (pe_callB (call_max2 rfl) (by rfl) T.n_max (by decide +kernel) (pa_cons (pe_op op_sub (pv 2) (pe_op op_powW pe_int pe_int)) (pa_cons pe_int pa_nil))) pa_nil)) (pe_op op_powW (pe_op op_powW pe_int pe_int) pe_int)) (pa_cons (pe_op op_mod (pe_callTy call_int1 (by rfl) T.n_int (by decide +kernel) (pa_cons (pv 2) pa_nil)) pe_int) (pa_cons (pe_op op_mul pe_int (pv 1)) pa_nil))))))), ?_⟩
  refine ⟨_, rfl, _, rfl, a, ns, i, rfl, hS, fun n H1 s1 => ?_⟩
  refine ⟨_, rfl, _, _, rfl, rfl, ⟨by decide, by decide +kernel⟩, _, _, rfl, rfl, _, _, rfl, .inl ⟨_, rfl, _, _, rfl, rfl, ⟨by decide, by decide +kernel⟩, _, _, rfl, rfl, ⟨by decide, by decide +kernel⟩, _, _, rfl, rfl, (by show (0 : Int) < _; decide +kernel), ?_⟩⟩
  refine ⟨_, rfl, .inl ⟨_, rfl, _, _, rfl, rfl, (by show (0 : Int) < _; decide), ?_⟩⟩
  refine ⟨_, rfl, _, _, rfl, rfl, .inl ⟨by decide, by decide⟩, (show 3 ≤ sizeLine by decide), fun g ng => ?_⟩
  exact q _ g (s1.trans (same_upd ng)) (s1.free ng) ⟨_, _, _, upd_same, by omega, by omega⟩
def sp_law_random : Sp := fun vs H Q _ => ∃ (g : Addr) (b : Int) (n : Nat), vs = [.ref g, .int b] ∧ GenAt H g n ∧ n ≤ 10 ^ 12 ∧ 0 < b ∧ b < 2 ^ 2900 ∧ ∀ (d : Int) H', 0 ≤ d → d < b → GenAt H' g (n + 100) → But g H H' → Q (.int d) H'
theorem G_law_random (T : Top K mg) : FnOk P w K mg base CX0 2 T.f_law_random T.fd_law_random ["_law_generator_here", "_law_bound"] sp_law_random := by
  refine T.F_law_random.ok sc_law_random (fun vs H Q E h => by obtain ⟨g, b, n, rfl, _⟩ := h; rfl) (fun cdv A outer s H vs Q E hr h => ?_)
  obtain ⟨g, b, n, rfl, ⟨x, y, z, hg, z0, z1⟩, hn, b0, b1, q⟩ := h
  refine ⟨_, PSs.nox (pss_cons (ps_if (pt_cmpR op_gt (pe_ix (k_ixL K rfl) (pv 0) pe_int (fun _ _ => rfl)) pe_int (nomark _))
    (pss_cons (ps_set (i := 2) sc_law_random.nd rfl (by first | exact Or.inl rfl | exact Or.inr rfl) (pe_op op_mod (pe_callTy call_int1 (by rfl) T.n_int (by decide +kernel) (pa_cons (pe_ix (k_ixL K rfl) (pv 0) pe_int (fun _ _ => rfl)) pa_nil)) (pv 1)))
  (pss_cons (ps_asg (pe_op op_fdivW (pe_ix (k_ixL K rfl) (pv 0) pe_int (fun _ _ => rfl)) (pv 1)) (pg_sub (pv 0) pe_int set_list))
  (pss_one (ps_ret (pv 2)))))
    pss_nil)
  (pss_cons (ps_set (i := 2) sc_law_random.nd rfl (by first | exact Or.inl rfl | exact Or.inr rfl) pe_int)
  (pss_cons (ps_for PassesOwn.never rfl (pi_range1 (by rfl) T.n_range (pa_cons (pe_op op_add pe_int (pe_op op_fdivW (pe_bits (pv 1)) pe_int)) pa_nil)) (pg_name (i := 3) sc_law_random.nd rfl (by first | exact Or.inl rfl | exact Or.inr rfl))
    (pss_cons (ps_asg (pe_op op_add (pe_ix (k_ixL K rfl) (pv 0) pe_int (fun _ _ => rfl)) pe_int) (pg_sub (pv 0) pe_int set_list))
  (pss_one (ps_set (i := 2) sc_law_random.nd rfl (by first | exact Or.inl rfl | exact Or.inr rfl) (pe_op op_add (pe_op op_mul (pv 2) pe_int) (pe_call (G_law_hash T) (hr.mono (by decide)) (by rfl) T.g_law_hash T.F_law_hash.kp T.b_law_hash .nil pass0 (pa_cons (pe_ix (k_ixL K rfl) (pv 0) pe_int (fun _ _ => rfl)) (pa_cons (pe_ix (k_ixL K rfl) (pv 0) pe_int (fun _ _ => rfl)) pa_nil))))))))
  (pss_one (ps_ret (pe_op op_mod (pe_callTy call_int1 (by rfl) T.n_int (by decide +kernel) (pa_cons (pv 2) pa_nil)) (pv 1))))))), ?_⟩
  have a0 : ∀ x y z : Int, atI [V.int x, .int y, .int z] 0 = some (.int x) := fun _ _ _ => rfl
  have a1 : ∀ x y z : Int, atI [V.int x, .int y, .int z] 1 = some (.int y) := fun _ _ _ => rfl
  have a2 : ∀ x y z : Int, atI [V.int x, .int y, .int z] 2 = some (.int z) := fun _ _ _ => rfl
  have hS : SqL K H g [.int x, .int y, .int z] := .inl (.inl hg)
  have nb : b.natAbs < 2 ^ 2900 := by
    have e : ((b.natAbs : Nat) : Int) < ((2 ^ 2900 : Nat) : Int) := by
      rw [Int.natCast_pow]
      omega
    exact Int.ofNat_lt.mp e
  refine ⟨_, rfl, g, _, 0, _, rfl, rfl, hS, a0 x y z, _, _, rfl, rfl, _, rfl, ite2 (fun e => ?_) (fun e => ?_)⟩
  · refine ⟨_, rfl, g, _, 0, _, rfl, rfl, hS, a0 x y z, .inl ⟨_, rfl, _, rfl, _, _, rfl, rfl, b0, ?_⟩⟩
    refine ⟨_, rfl, g, _, 0, _, rfl, rfl, hS, a0 x y z, _, rfl, _, _, rfl, rfl, wide_div b0 nb (by decide) (by decide), _, rfl, g, _, 0, 0, rfl, rfl, hg, rfl, _, rfl, ?_⟩
    exact q _ _ (Int.emod_nonneg _ (by omega)) (Int.emod_lt_of_pos _ b0) ⟨_, _, _, upd_same, z0, by omega⟩ (But.upd But.refl)
  · have hb : Builtin.Int.intBits b ≤ 2900 := PyProof.Rows.intBits_le nb
    have hq0 : (0 : Int) ≤ ((Builtin.Int.intBits b : Nat) : Int) / 30 := Int.ediv_nonneg (Int.natCast_nonneg _) (by decide)
    have hq1 : ((Builtin.Int.intBits b : Nat) : Int) / 30 ≤ 97 := by omega
    refine ⟨_, rfl, _, rfl, _, _, rfl, rfl, ⟨by decide, by decide +kernel⟩, _, _, rfl, rfl, _, rfl, by omega, by omega, ?_⟩
    refine for_range (lo := 0) (n := (1 + ((Builtin.Int.intBits b : Nat) : Int) / 30).toNat) (fun i σ H1 => ∃ (d z' : Int) (v : Option V), σ = [some (.ref g), some (.int b), some (.int d), v] ∧ H1 g = some (.lst [.int x, .int y, .int z']) ∧ 0 ≤ z' ∧ z' ≤ (n : Int) + (i : Int) ∧ But g H H1)
      ⟨0, z, none, rfl, hg, z0, by omega, But.refl⟩ ?_ ?_
    · rintro i σ H1 hi ⟨d, z', v, rfl, hg1, y0, y1, b1⟩
      have hS1 : SqL K H1 g [.int x, .int y, .int z'] := .inl (.inl hg1)
      refine ⟨_, rfl, g, _, 2, _, rfl, rfl, hS1, a2 x y z', _, _, rfl, rfl, _, rfl, g, _, 2, 2, rfl, rfl, hg1, rfl, ?_⟩
      have hS2 : SqL K (upd H1 g (.lst [.int x, .int y, .int (z' + 1)])) g [.int x, .int y, .int (z' + 1)] := .inl (.inl upd_same)
      refine ⟨_, rfl, _, _, rfl, rfl, .inr ⟨by decide, by decide⟩, _, rfl, g, _, 1, _, rfl, rfl, hS2, a1 _ _ _, _, rfl, g, _, 2, _, rfl, rfl, hS2, a2 _ _ _, _, _, rfl, by omega, by omega, fun r => ?_⟩
      exact ⟨_, _, rfl, rfl, _, z' + 1, _, rfl, upd_same, by omega, by omega, But.upd b1⟩
    · rintro σ H1 ⟨d, z', v, rfl, hg1, y0, y1, b1⟩
      refine ⟨_, rfl, .inl ⟨_, rfl, _, rfl, _, _, rfl, rfl, b0, ?_⟩⟩
      exact q _ _ (Int.emod_nonneg _ (by omega)) (Int.emod_lt_of_pos _ b0) ⟨_, _, _, hg1, y0, by omega⟩ b1
/-- a comprehension over a range that draws whole numbers -/
theorem lc_drawR {lo : Int} {n : Nat} {j : Nat} {te : TE} {vs : List Nat} {σ : L2.St} {H1 : Hp} {D : Addr} {Qd : Hp → Prop} (g : Addr) (m step : Nat) (P : Int → Prop) (nD : H1 D = none) (hG : GenAt H1 g m) (hz : n < sizeLine)
    (hw : ∀ x, wipe ((wipe σ vs).set j (some x)) vs = wipe σ vs)
    (hs : ∀ (i : Nat) (H' : Hp), i < n → But g H1 H' → GenAt H' g (m + step * i) → ∀ Qt : V → Hp → Prop, (∀ (y : Int) H'', P y → But g H' H'' → GenAt H'' g (m + step * (i + 1)) → Qt (.int y) H'') → te ((wipe σ vs).set j (some (.int (lo + (i : Int))))) H' Qt)
    (hd : ∀ H' (ys : List Int), But g H1 H' → GenAt H' g (m + step * n) → H' D = some (.lst (ys.map V.int)) → ys.length = n → (∀ y ∈ ys, P y) → Qd H') :
    ∃ W : Nat → Nat → Hp → Prop, (∃ m, W 0 m (upd H1 D (.lst []))) ∧ ∀ i m H, W i m H →
      ((Itr lo n).stop i H ∧ Qd H) ∨ ((Itr lo n).go i H ∧ ∃ Nx : Hp → Prop, (∀ H', Nx H' → ∃ m', m' < m ∧ W (i + 1) m' H') ∧ ∀ x H', (Itr lo n).yld i H x H' → gName j x (wipe σ vs) H' fun σ2 H2 => wipe σ2 vs = wipe σ vs ∧ tYes σ2 H2 fun b H3 =>
        if b = true then te σ2 H3 fun y H4 => ∃ acc, H4 D = some (.lst acc) ∧ acc.length < sizeLine ∧ Nx (upd H4 D (.lst (acc ++ [y]))) else Nx H3) := by
  have nDg : D ≠ g := hG.ne nD
  refine lc_range (lo := lo) (n := n) (fun i H => ∃ ys : List Int, But g H1 H ∧ GenAt H g (m + step * i) ∧ H D = some (.lst (ys.map V.int)) ∧ ys.length = i ∧ ∀ y ∈ ys, P y)
    ⟨[], But.of (same_upd nD), hG.same (same_upd nD), upd_same, rfl, (fun _ h => nomatch h)⟩ ?_ ?_
  · rintro i H hi ⟨ys, b, hg, hD, hl, hP⟩
    refine ⟨hw _, ?_⟩
    unfold tYes
    dsimp only
    rw [if_pos (show true = true from rfl)]
    refine hs i H hi b hg _ fun y H2 py b2 hg2 => ?_
    refine ⟨_, b2 _ _ nDg hD, by rw [List.length_map]; omega, ys ++ [y], ?_, ?_, ?_, ?_, ?_⟩
    · intro c o nc hc
      rw [upd_ne (ne_of_none hc nD)]
      exact b2 _ _ nc (b _ _ nc hc)
    · obtain ⟨x1, x2, x3, e1, e2⟩ := hg2
      exact ⟨x1, x2, x3, by rw [upd_ne nDg.symm]; exact e1, e2⟩
    · rw [upd_same, List.map_append]
      rfl
    · rw [List.length_append, hl]
      rfl
    · intro z hz
      rcases List.mem_append.mp hz with hz | hz
      · exact hP z hz
      · rw [List.mem_singleton.mp hz]
        exact py
  · rintro H ⟨ys, b, hg, hD, hl, hP⟩
    exact hd H ys b hg hD hl hP
end
end My

namespace My
open PySem PySem.Spec PyProof.Rows L2 Pre
/-! ### min and max of a list of pairs of whole numbers -/
def pairD (p : Int × Int) : PyData := .tuple [.int p.1, .int p.2]
def ltP2 (p q : Int × Int) : Prop := p.1 < q.1 ∨ (p.1 = q.1 ∧ p.2 < q.2)
instance (p q : Int × Int) : Decidable (ltP2 p q) := by unfold ltP2; infer_instance
theorem pair_lt (p q : Int × Int) : PySem.W.dataLt (pairD p) (pairD q) = decide (ltP2 p q) := PySem.W.dataLt_ii p.1 p.2 q.1 q.2
theorem ltP2_trans {p q r : Int × Int} (h : ¬ ltP2 q p) (k : ¬ ltP2 r q) : ¬ ltP2 r p := by
  unfold ltP2 at *
  omega
def minP (p : Int × Int) (ps : List (Int × Int)) : Int × Int := ps.foldl (fun a y => if ltP2 y a then y else a) p
def maxP (p : Int × Int) (ps : List (Int × Int)) : Int × Int := ps.foldl (fun a y => if ltP2 a y then y else a) p
theorem minP_data : ∀ (ps : List (Int × Int)) (p : Int × Int), PySem.W.minD (pairD p) (ps.map pairD) = pairD (minP p ps)
  | [], _ => rfl
  | q :: ps, p => by
    show PySem.W.minD (if PySem.W.dataLt (pairD q) (pairD p) = true then pairD q else pairD p) (ps.map pairD) = pairD (minP (if ltP2 q p then q else p) ps)
    rw [pair_lt]
    by_cases h : ltP2 q p
    · rw [decide_eq_true h, if_pos rfl, if_pos h, minP_data ps q]
    · rw [decide_eq_false h, if_neg (by decide), if_neg h, minP_data ps p]
theorem maxP_data : ∀ (ps : List (Int × Int)) (p : Int × Int), PySem.W.maxD (pairD p) (ps.map pairD) = pairD (maxP p ps)
  | [], _ => rfl
  | q :: ps, p => by
    show PySem.W.maxD (if PySem.W.dataLt (pairD p) (pairD q) = true then pairD q else pairD p) (ps.map pairD) = pairD (maxP (if ltP2 p q then q else p) ps)
    rw [pair_lt]
    by_cases h : ltP2 p q
    · rw [decide_eq_true h, if_pos rfl, if_pos h, maxP_data ps q]
    · rw [decide_eq_false h, if_neg (by decide), if_neg h, maxP_data ps p]
theorem minP_spec : ∀ (ps : List (Int × Int)) (p : Int × Int), minP p ps ∈ p :: ps ∧ ∀ q ∈ p :: ps, ¬ ltP2 q (minP p ps)
  | [], p => ⟨List.mem_cons_self, fun q hq => by
      rw [List.mem_singleton.mp hq]
      show ¬ ltP2 p p
      unfold ltP2
      omega⟩
  | r :: ps, p => by
    show minP (if ltP2 r p then r else p) ps ∈ _ ∧ ∀ q ∈ p :: r :: ps, ¬ ltP2 q (minP (if ltP2 r p then r else p) ps)
    by_cases h : ltP2 r p
    · rw [if_pos h]
      obtain ⟨h1, h2⟩ := minP_spec ps r
      refine ⟨List.mem_cons_of_mem _ h1, fun q hq => ?_⟩
      rcases List.mem_cons.mp hq with rfl | hq
      · have := h2 r List.mem_cons_self
        exact fun z => this (by unfold ltP2 at *; omega)
      · exact h2 q hq
    · rw [if_neg h]
      obtain ⟨h1, h2⟩ := minP_spec ps p
      refine ⟨?_, fun q hq => ?_⟩
      · rcases List.mem_cons.mp h1 with e | e
        · rw [e]; exact List.mem_cons_self
        · exact List.mem_cons_of_mem _ (List.mem_cons_of_mem _ e)
      · rcases List.mem_cons.mp hq with rfl | hq
        · exact h2 q List.mem_cons_self
        · rcases List.mem_cons.mp hq with rfl | hq
          · have := h2 p List.mem_cons_self
            exact fun z => this (by unfold ltP2 at *; omega)
          · exact h2 q (List.mem_cons_of_mem _ hq)
theorem maxP_spec : ∀ (ps : List (Int × Int)) (p : Int × Int), maxP p ps ∈ p :: ps ∧ ∀ q ∈ p :: ps, ¬ ltP2 (maxP p ps) q
  | [], p => ⟨List.mem_cons_self, fun q hq => by
      rw [List.mem_singleton.mp hq]
      show ¬ ltP2 p p
      unfold ltP2
      omega⟩
  | r :: ps, p => by
    show maxP (if ltP2 p r then r else p) ps ∈ _ ∧ ∀ q ∈ p :: r :: ps, ¬ ltP2 (maxP (if ltP2 p r then r else p) ps) q
    by_cases h : ltP2 p r
    · rw [if_pos h]
      obtain ⟨h1, h2⟩ := maxP_spec ps r
      refine ⟨List.mem_cons_of_mem _ h1, fun q hq => ?_⟩
      rcases List.mem_cons.mp hq with rfl | hq
      · have := h2 r List.mem_cons_self
        exact fun z => this (by unfold ltP2 at *; omega)
      · exact h2 q hq
    · rw [if_neg h]
      obtain ⟨h1, h2⟩ := maxP_spec ps p
      refine ⟨?_, fun q hq => ?_⟩
      · rcases List.mem_cons.mp h1 with e | e
        · rw [e]; exact List.mem_cons_self
        · exact List.mem_cons_of_mem _ (List.mem_cons_of_mem _ e)
      · rcases List.mem_cons.mp hq with rfl | hq
        · exact h2 q List.mem_cons_self
        · rcases List.mem_cons.mp hq with rfl | hq
          · have := h2 p List.mem_cons_self
            exact fun z => this (by unfold ltP2 at *; omega)
          · exact h2 q (List.mem_cons_of_mem _ hq)
theorem pairs_alike (ps : List (Int × Int)) : PySem.W.AlikeAll (ps.map pairD) := by
  refine ⟨fun x hx y hy => ?_, fun x hx => ?_⟩
  · obtain ⟨p, _, rfl⟩ := List.mem_map.mp hx
    obtain ⟨q, _, rfl⟩ := List.mem_map.mp hy
    rfl
  · obtain ⟨p, _, rfl⟩ := List.mem_map.mp hx
    exact fun z => nomatch z
theorem pairs_lay : ∀ ps : List (Int × Int), PyData.canLayAll0 (ps.map pairD) = true
  | [] => rfl
  | p :: ps => by simp [PyData.canLayAll0, PyData.canLay0, pairD, pairs_lay ps]
theorem pairs_depth : ∀ ps : List (Int × Int), PyData.depthAll (ps.map pairD) ≤ 2
  | [] => by simp [PyData.depthAll]
  | p :: ps => by
    have := pairs_depth ps
    simp only [List.map_cons, PyData.depthAll, pairD, PyData.depth]
    omega
/-- a list of pairs, at a -/
def PairsAt (K : PySem.W.Frag) (H : Hp) (a : Addr) (ps : List (Int × Int)) : Prop := ∃ as : List Addr, SqL K H a (as.map V.ref) ∧ as.length = ps.length ∧ ∀ (i : Nat) (t : Addr) (p : Int × Int), as[i]? = some t → ps[i]? = some p → SqT K H t [.int p.1, .int p.2]
theorem pairs_dp {K : PySem.W.Frag} {H : Hp} : ∀ {as : List Addr} {ps : List (Int × Int)}, as.length = ps.length → (∀ (i : Nat) (t : Addr) (p : Int × Int), as[i]? = some t → ps[i]? = some p → SqT K H t [.int p.1, .int p.2]) → DpAll K H (as.map V.ref) (ps.map pairD)
  | [], [], _, _ => .nil
  | [], _ :: _, h, _ => by simp at h
  | _ :: _, [], h, _ => by simp at h
  | a :: as, p :: ps, h, k => .cons (.tup (k 0 a p rfl rfl) (.cons (.int _) (.cons (.int _) .nil))) (pairs_dp (by simpa using h) fun i t q ht hq => k (i + 1) t q (by simpa using ht) (by simpa using hq))
def rMnP (K : PySem.W.Frag) (best : Int × Int → List (Int × Int) → Int × Int) : List V → Hp → VK → Prop := fun xs H Q => ∃ (a : Addr) (p : Int × Int) (ps : List (Int × Int)), xs = [.ref a] ∧ PairsAt K H a (p :: ps) ∧ ∀ t, SqT K H t [.int (best p ps).1, .int (best p ps).2] → Q (.ref t) H
section
variable {X : Cx} {K : PySem.W.Frag}
theorem pick {H : Hp} {s : Shared} {as : List Addr} {ps : List (Int × Int)} {its : List Value} {i : Nat} {v : Value} {h' : Heap} {bs cs : List Addr} {b : Int × Int} (hl : as.length = ps.length)
    (hT : ∀ (i : Nat) (t : Addr) (p : Int × Int), as[i]? = some t → ps[i]? = some p → SqT K H t [.int p.1, .int p.2]) (rv : Vals (as.map V.ref) its) (hr : ReadsAll s.heap its (ps.map pairD) cs) (hv : its.toArray[i]? = some v) (rd : Reads h' v (pairD b) bs)
    (hk : ∀ b o, s.heap.get? b = some o → h'.get? b = some o) : ∃ t, v = .ref t ∧ SqT K H t [.int b.1, .int b.2] := by
  have hv' : its[i]? = some v := by simpa using hv
  have hil : i < its.length := (List.getElem?_eq_some_iff.mp hv').1
  have hvl := rv.length
  rw [List.length_map] at hvl
  obtain ⟨u, hu, ru⟩ := rv.get (show (as.map V.ref)[i]? = some (.ref (as[i]'(by omega))) by rw [List.getElem?_map, List.getElem?_eq_getElem (by omega)]; rfl)
  rw [hv'] at hu
  cases hu
  have hp : ps[i]? = some (ps[i]'(by omega)) := List.getElem?_eq_getElem (by omega)
  obtain ⟨ds, r1, _, _, _⟩ := PySem.W.readsAll_at hr i v hv'
  have e1 : (ps.map pairD).getD i .none = pairD (ps[i]'(by omega)) := by
    rw [List.getD_eq_getElem?_getD, List.getElem?_map, hp]
    rfl
  rw [e1] at r1
  have e2 := PySem.SeqAt.Reads.unique (pairD b) _ v _ _ (by simp [pairD, PyData.canLay0, PyData.canLayAll0]) rd (Reads.keeps hk r1)
  have e3 : b = ps[i]'(by omega) := by
    unfold pairD at e2
    injection e2 with e2
    injection e2 with e4 e5
    injection e5 with e5 _
    injection e4 with e4
    injection e5 with e5
    exact Prod.ext e4 e5
  refine ⟨as[i]'(by omega), ru, ?_⟩
  rw [e3]
  exact hT i _ _ (List.getElem?_eq_getElem (by omega)) hp
theorem k_minP (K : PySem.W.Frag) (h : X.K = K) (hc : X.calm = true) (hu : X.A.units + 65 < cLine) : CallR X (.builtin "min") (rMnP K minP) := by
  subst h
  intro pins s σ H xs us Q I r h
  obtain ⟨a, p, ps, rfl, ⟨as, hS, hl, hT⟩, q⟩ := h
  obtain ⟨its, rv, hL, _⟩ := I.list hS
  rw [Vals.ref1 r]
  obtain ⟨cs, hr⟩ := Dp.readsAll I _ _ its (pairs_dp hl hT) rv
  have hd := pairs_depth (p :: ps)
  refine PySem.W.min_list_data (I.ok.hd hc) hL.isList (show ReadsAll s.heap its.toArray.toList (pairD p :: ps.map pairD) cs by simpa using hr) (pairs_alike (p :: ps)) (by rw [List.map_cons] at hd; omega) fun i v h' tk bs hv rd hk => ?_
  rw [minP_data] at rd
  obtain ⟨t, rfl, ht⟩ := pick hl hT rv hr hv rd hk
  exact ⟨.ref t, H, I.kept hk, rfl, q t ht⟩
theorem k_maxP (K : PySem.W.Frag) (h : X.K = K) (hc : X.calm = true) (hu : X.A.units + 65 < cLine) : CallR X (.builtin "max") (rMnP K maxP) := by
  subst h
  intro pins s σ H xs us Q I r h
  obtain ⟨a, p, ps, rfl, ⟨as, hS, hl, hT⟩, q⟩ := h
  obtain ⟨its, rv, hL, _⟩ := I.list hS
  rw [Vals.ref1 r]
  obtain ⟨cs, hr⟩ := Dp.readsAll I _ _ its (pairs_dp hl hT) rv
  have hd := pairs_depth (p :: ps)
  refine PySem.W.max_list_data (I.ok.hd hc) hL.isList (show ReadsAll s.heap its.toArray.toList (pairD p :: ps.map pairD) cs by simpa using hr) (pairs_alike (p :: ps)) (by rw [List.map_cons] at hd; omega) fun i v h' tk bs hv rd hk => ?_
  rw [maxP_data] at rd
  obtain ⟨t, rfl, ht⟩ := pick hl hT rv hr hv rd hk
  exact ⟨.ref t, H, I.kept hk, rfl, q t ht⟩
theorem huM {k : Nat} {A : Around} (r : Room k A) : A.units + 65 < cLine := by have := r.un; omega
end
end My

namespace My
open PySem PySem.Spec PyProof.Rows L2 Pre
/-- a comprehension over a list that makes new things: R tells what is known of the i-th -/
theorem lc_relL {K : PySem.W.Frag} {a : Addr} {xs : List V} {j : Nat} {te : TE} {vs : List Nat} {σ : L2.St} {H1 : Hp} {D : Addr} {Qd : Hp → Prop} (R : Nat → V → Hp → Prop) (nD : H1 D = none) (hS : SqL K H1 a xs) (hz : xs.length < sizeLine)
    (mono : ∀ (i : Nat) (y : V) (H H' : Hp), Pre.Off D H H' → R i y H → R i y H') (hw : ∀ x, wipe ((wipe σ vs).set j (some x)) vs = wipe σ vs)
    (hs : ∀ (i : Nat) (x : V) (H' : Hp) (zs : List V), xs[i]? = some x → Same H1 H' → H' D = some (.lst zs) → ∀ Qt : V → Hp → Prop, (∀ y H'', Same H' H'' → R i y H'' → Qt y H'') → te ((wipe σ vs).set j (some x)) H' Qt)
    (hd : ∀ H' ys, Same H1 H' → H' D = some (.lst ys) → ys.length = xs.length → (∀ (i : Nat) (y : V), ys[i]? = some y → R i y H') → Qd H') :
    ∃ W : Nat → Nat → Hp → Prop, (∃ m, W 0 m (upd H1 D (.lst []))) ∧ ∀ i m H, W i m H →
      ((Itl K a).stop i H ∧ Qd H) ∨ ((Itl K a).go i H ∧ ∃ Nx : Hp → Prop, (∀ H', Nx H' → ∃ m', m' < m ∧ W (i + 1) m' H') ∧ ∀ x H', (Itl K a).yld i H x H' → gName j x (wipe σ vs) H' fun σ2 H2 => wipe σ2 vs = wipe σ vs ∧ tYes σ2 H2 fun b H3 =>
        if b = true then te σ2 H3 fun y H4 => ∃ acc, H4 D = some (.lst acc) ∧ acc.length < sizeLine ∧ Nx (upd H4 D (.lst (acc ++ [y]))) else Nx H3) := by
  refine lc_list (K := K) (a := a) (xs := xs) (RelPv R H1 D) ⟨[], same_upd nD, upd_same, rfl, fun k y h => by simp at h⟩ (fun i H _ ⟨_, s, _⟩ => s.seq hS) ?_ ?_
  · rintro i x H hx ⟨ys, s, hD, hl, hR⟩
    have hi : i < xs.length := (List.getElem?_eq_some_iff.mp hx).1
    refine ⟨hw _, ?_⟩
    unfold tYes
    dsimp only
    rw [if_pos (show true = true from rfl)]
    refine hs i x H ys hx s hD _ fun y H4 s4 r4 => ?_
    refine ⟨ys, s4 _ _ hD, by omega, ys ++ [y], same_over nD (s.trans s4), upd_same, by rw [List.length_append, hl]; rfl, fun k z hz => ?_⟩
    have off : Pre.Off D H4 (upd H4 D (.lst (ys ++ [y]))) := fun b o nb h => by rw [upd_ne nb]; exact h
    by_cases hk : k < ys.length
    · rw [List.getElem?_append_left hk] at hz
      exact mono k z H _ (fun b o nb h => off b o nb (s4 b o h)) (hR k z hz)
    · rw [List.getElem?_append_right (by omega)] at hz
      have hk2 : k - ys.length = 0 := by
        have h2 := (List.getElem?_eq_some_iff.mp hz).1
        rw [List.length_singleton] at h2
        omega
      rw [hk2] at hz
      cases hz
      have ek : k = i := by omega
      rw [ek]
      exact mono i y H4 _ off r4
  · rintro H ⟨ys, s, hD, hl, hR⟩
    exact hd H ys s hD hl hR
/-- a list of lists of whole numbers -/
def RowsIn (H : Hp) (p : Addr) (rows : List (List Int)) : Prop := ∃ as : List Addr, H p = some (.lst (as.map V.ref)) ∧ as.length = rows.length ∧ ∀ (i : Nat) (a : Addr) (r : List Int), as[i]? = some a → rows[i]? = some r → H a = some (.lst (r.map V.int))
theorem RowsIn.same {H H' : Hp} {p : Addr} {rows : List (List Int)} (h : RowsIn H p rows) (s : Same H H') : RowsIn H' p rows := by
  obtain ⟨as, h1, h2, h3⟩ := h
  exact ⟨as, s _ _ h1, h2, fun i a r ha hr => s _ _ (h3 i a r ha hr)⟩
section
variable {X : Cx}
theorem huD {k : Nat} {A : Around} (r : Room k A) : A.units + 65 < cLine := by have := r.un; omega
theorem k_inD (K : PySem.W.Frag) (h : X.K = K) (hu : X.A.units + 65 < cLine) : OpR X (compareOp .In) (rInD K) := by subst h; exact op_inD hu
theorem k_notInD (K : PySem.W.Frag) (h : X.K = K) (hu : X.A.units + 65 < cLine) : OpR X (compareOp .NotIn) (rNotInD K) := by subst h; exact op_notInD hu
theorem k_indexD (K : PySem.W.Frag) (h : X.K = K) (hu : X.A.units + 65 < cLine) : MtR X "list.index" (rIndexD K) := by subst h; exact mt_indexD hu
end
/-- rows as data -/
def rowD (r : List Int) : PyData := .list (r.map PyData.int)
theorem rows_dp {K : PySem.W.Frag} {H : Hp} : ∀ {as : List Addr} {rows : List (List Int)}, as.length = rows.length → (∀ (i : Nat) (a : Addr) (r : List Int), as[i]? = some a → rows[i]? = some r → H a = some (.lst (r.map V.int))) → DpAll K H (as.map V.ref) (rows.map rowD)
  | [], [], _, _ => .nil
  | [], _ :: _, h, _ => by simp at h
  | _ :: _, [], h, _ => by simp at h
  | a :: as, r :: rows, h, k => .cons (.lst (.inl (.inl (k 0 a r rfl rfl))) (Pre.dp_ints r)) (rows_dp (by simpa using h) fun i t q ht hq => k (i + 1) t q (by simpa using ht) (by simpa using hq))
theorem rowD_eqv (r q : List Int) : PyData.eqv (rowD r) (rowD q) = decide (r = q) := by
  unfold rowD
  rw [PyData.eqv, eqv_ints]
theorem rows_shaped (rows : List (List Int)) : SeqAt.shaped (.list (rows.map rowD)) = true := by
  have h1 : ∀ l : List (List Int), PyData.canLayAll0 (l.map rowD) = true := fun l => by
    induction l with
    | nil => rfl
    | cons r l ih =>
      show (PyData.canLay0 (rowD r) && PyData.canLayAll0 (l.map rowD)) = true
      rw [ih]
      unfold rowD
      rw [PyData.canLay0, lay_ints]
      rfl
  have h2 : ∀ l : List (List Int), PyData.depthAll (l.map rowD) ≤ 1 := fun l => by
    induction l with
    | nil => simp [PyData.depthAll]
    | cons r l ih =>
      show PyData.depthAll (rowD r :: l.map rowD) ≤ 1
      rw [PyData.depthAll]
      unfold rowD at *
      rw [PyData.depth, depth_ints]
      omega
  show (PyData.canLay0 (.list (rows.map rowD)) && decide (PyData.depth (.list (rows.map rowD)) ≤ 64)) = true
  rw [Bool.and_eq_true]
  have := h2 rows
  exact ⟨by rw [PyData.canLay0]; exact h1 rows, decide_eq_true (by rw [PyData.depth]; omega)⟩
end My

namespace My
open PySem PySem.Spec PyProof.Rows L2 Pre
/-! ### promises for callers that stand in no repr: within them repr of lists shows its items -/
structure FnG (P : Program) (w : World) (K : PySem.W.Frag) (mg : Str → Option Value) (base : Heap) (CX : CXT) (k : Nat) (f : Addr) (fd : FuncData) (ps : List Str) (sp : Sp) : Prop where
  many : ∀ xs H Q E, sp xs H Q E → xs.length = ps.length
  does : ∀ (A : Around), A.guards = some [] → Room k A → ∀ (fr : List Env) (t : Shared) (H : Hp), Env0 P w K mg base A fr t H → ∀ (ar : Args) (us : List Value) (xs : List V), BindsTo t fd ar (ps.zip us) → Vals xs us →
    ∀ (Q : VK) (E : XK), sp xs H Q E → codeAny (model P w) A (.call (.ref f) ar) (CR CX fr P w H t Q E) t
section
variable {P : Program} {w : World} {K : PySem.W.Frag} {mg : Str → Option Value} {base : Heap} {CX : CXT} {k : Nat} {f : Addr} {fd : FuncData} {ps : List Str} {sp : Sp}
theorem FnG.of (F : FnOk P w K mg base CX k f fd ps sp) : FnG P w K mg base CX k f fd ps sp :=
  ⟨F.len, fun A _ hr fr t H e ar us xs b v Q E h => F.run A fr t H ar us xs Q E hr e b v h⟩
/-- a body makes a promise -/
theorem FnG.body {x qual : Str} {pr : Arguments} {bd : List Stmt} {sc : Scope} {dvs : List V} {kws : List (Str × V)} {N : List Str} (F : FunD K x qual pr bd sc dvs kws f fd) (S : FnScope N ps sc) (hm : ∀ xs H Q E, sp xs H Q E → xs.length = ps.length)
    (go : ∀ (cv : Value) (A : Around) (fr : List Env) (t : Shared) (H : Hp) (xs : List V) (Q : VK) (E : XK), A.guards = some [] → Room k (A.deeper (envOfC qual sc t.heap.objs.size f cv)) → sp xs H Q E →
      ∃ τ, PSs (cxOf CX P w K mg base N qual sc f cv A fr t H E) bd τ ∧ τ { nx := fun _ H1 => Q .non H1, rt := Q } (start N xs) H) : FnG P w K mg base CX (k + 1) f fd ps sp := by
  obtain ⟨c0, d0, dv, kv, dc, pm, an, cv, ct, sl, rfl, lk, hcode, _, _⟩ := F.ex
  refine ⟨hm, fun A gd hr fr t H e0 ar us xs hb rv Q E hs => ?_⟩
  have hin : K.In t.heap := e0.mod.kin.keeps fun b o z => (e0.bs b o z).1
  have hno : t.heap.NoLimit := e0.mod.nolimit.keeps fun b o z => (e0.bs b o z).1
  refine codeAny_call_function hr.depth (hin _ _ lk) rfl S.co S.gen rfl (PySem.W.codeRec_of hin hcode) (hb _ _ _ _ ?_)
  refine wpAny_newFunctionEnv_cells S.kind (fun y hy => ?_) fun env he t1 hx => ?_
  · obtain ⟨n, u⟩ := y
    rcases S.par n (List.of_mem_zip hy).1 with z | z
    · exact Or.inl z
    · exact Or.inr ⟨z, PySem.W.cellsFrom_some _ _ _ (Or.inl z)⟩
  · subst he
    refine ⟨hno.keeps hx.toInCall.keep, codeAny_func ?_⟩
    obtain ⟨τ, hτ, hq⟩ := go cv A fr t H xs Q E gd (hr.deeper _) hs
    have J := inv_start (CX := CX) (E := E) S hr.hd e0 (hm _ _ _ _ hs) rv hx
    refine wpAny_mono (hτ.run [] t1 (start N xs) H _ J hq) (fun fl t2 h2 => ?_) fun _ _ z => z
    cases fl with
    | brk => exact False.elim h2.choose_spec.choose_spec.2
    | cont => exact False.elim h2.choose_spec.choose_spec.2
    | next =>
      obtain ⟨σ2, H2, J2, q2⟩ := h2
      exact ⟨V.non, H2, J2.os, J2.bare, J2.base, J2.hok, rfl, q2⟩
    | ret u =>
      obtain ⟨v2, σ2, H2, J2, r2, q2⟩ := h2
      exact ⟨v2, H2, J2.os, J2.bare, J2.base, J2.hok, r2, q2⟩
end
section
variable {X : Cx} {CX : CXT} {k : Nat} {f : Addr} {fd : FuncData} {ps : List Str} {sp : Sp} {dvs : List V} {ds : List Value} {E : XK} {x : Str} {p pos : Pos} {e : Expr} {es : List Expr} {t : TA}
theorem go_g {pins : List (Addr × Obj)} {σ : L2.St} {H : Hp} {s : Shared} {Q : VK} {us : List Value} {xs : List V} (F : FnG X.prog X.w X.K X.mg X.base CX k f fd ps sp) (gd : X.A.guards = some []) (hr : Room k X.A) (hb : Binds X.K fd ps ds) (hd : Vals dvs ds)
    (hx : Passes CX X E) (I : Inv X pins σ H s) (r : Vals xs us) (h : sp (xs ++ dvs) H Q E) : wpAny (model X.prog X.w) X.A (call (.ref f) us) (EP X pins σ Q) X.xe s := by
  have rr := Vals.append r hd
  refine wpAny_call (codeAny_mono (F.does X.A gd hr X.stack s H I.env0 ⟨us, []⟩ (us ++ ds) (xs ++ dvs) (hb s us I.kIn (by rw [← rr.length]; exact F.many _ _ _ _ h)) rr Q E h) fun z s2 hz => ?_)
  match z, hz with
  | .error e, hz => exact hx pins σ H s e s2 I hz
  | .ok (.ret u), hz => exact I.after hz
theorem pe_callG (F : FnG X.prog X.w X.K X.mg X.base CX k f fd ps sp) (gd : X.A.guards = some []) (hr : Room k X.A) (hg : Gl X x) (hm : X.mg x = some (.ref f)) (hk : PySem.W.keepIn X.K (.ref f) = true) (hb : Binds X.K fd ps ds) (hd : Vals dvs ds) (hx : Passes CX X E)
    (ha : PA X (e :: es) t) (hdb : (x == ("__debug__" : Str)) = false := by decide) (he : starEach (e :: es) X.env = (false, eval e X.env) :: starEach es X.env := by rfl) (hpl : (backTo pos (starEach es X.env)).any (·.1) = false := by rfl) :
    PE X (.Call (.Name x p) (e :: es) [] pos) (tCall sp dvs E t) :=
  ⟨fun pins s σ H Q I h => wpAny_Call_Name_kw (ld_glob I hg hm (PySem.W.callWith_K (h₀ := X.base) I.ok.mod.kin hk (thn (ha.run pos pins s σ H _ I h) fun us s1 ⟨vs, H1, J, r, q⟩ => ⟨J.kIn, go_g F gd hr hb hd hx J r q⟩) he hpl) hdb)⟩
theorem pe_callG0 (F : FnG X.prog X.w X.K X.mg X.base CX k f fd ps sp) (gd : X.A.guards = some []) (hr : Room k X.A) (hg : Gl X x) (hm : X.mg x = some (.ref f)) (hk : PySem.W.keepIn X.K (.ref f) = true) (hb : Binds X.K fd ps ds) (hd : Vals dvs ds) (hx : Passes CX X E)
    (hdb : (x == ("__debug__" : Str)) = false := by decide) : PE X (.Call (.Name x p) [] [] pos) (tCall sp dvs E tNil) :=
  ⟨fun pins s σ H Q I h => wpAny_Call_Name_kw (ld_glob I hg hm (PySem.W.callWith_K0 I.kIn hk (go_g (us := []) F gd hr hb hd hx I .nil h)) hdb)⟩
end
/-! ### repr -/
def rRepr (K : PySem.W.Frag) : List V → Hp → VK → Prop := fun xs H Q => ∃ (x : V) (d : PyData), xs = [x] ∧ Dp K H x d ∧ d.showable = true ∧ SeqAt.shaped d = true ∧ d.shown.length ≤ sizeLine ∧ Q (.str d.shown) H
theorem call_repr {X : Cx} (gd : X.A.guards = some []) (hu : X.A.units + 65 < cLine) : CallR X (.builtin "repr") (rRepr X.K) := by
  intro pins s σ H xs us Q I r h
  obtain ⟨x, d, rfl, hd, hs, hsh, hl, q⟩ := h
  cases r with
  | cons rx rr =>
    cases rr
    rename_i u
    have hlay : d.canLay0 = true := SeqAt.canLay_of_shaped hsh
    have hdep : d.depth ≤ 64 := by
      have z : (d.canLay0 && decide (d.depth ≤ 64)) = true := hsh
      exact of_decide_eq_true (Bool.and_eq_true_iff.mp z).2
    obtain ⟨as, rd⟩ := Dp.reads I d x u hd rx
    have fin : ∀ h' v tk, (∀ b o, s.heap.get? b = some o → h'.get? b = some o) → EP X pins σ Q (.str d.shown v) { s with heap := h', toks := tk } := fun h' v tk hk => ⟨.str d.shown, H, I.kept hk, ⟨v, rfl⟩, q⟩
    cases hd with
    | non => cases rx; exact PySem.P.repr_of_none (fin _ _ _ fun _ _ z => z)
    | bl b => cases rx; exact PySem.P.repr_of_bool (fin _ _ _ fun _ _ z => z)
    | int i => obtain ⟨t, rfl⟩ := rx; exact PySem.P.repr_of_int (of_decide_eq_true hs) (fin _ _ _ fun _ _ z => z)
    | str y => obtain ⟨t, rfl⟩ := rx; exact PySem.P.repr_of_str (fin _ _ _ fun _ _ z => z) hl
    | lst _ _ => cases rx; exact repr_of_reads' rd hs (PyData.noDict_hsm (PyData.hasDict_of_canLay _ hlay)) gd (by omega) (fun _ _ z => z) fin hl
    | tup _ _ => cases rx; exact repr_of_reads' rd hs (PyData.noDict_hsm (PyData.hasDict_of_canLay _ hlay)) gd (by omega) (fun _ _ z => z) fin hl
theorem k_repr {X : Cx} (K : PySem.W.Frag) (h : X.K = K) (gd : X.A.guards = some []) (hu : X.A.units + 65 < cLine) : CallR X (.builtin "repr") (rRepr K) := by subst h; exact call_repr gd hu
theorem hu65 {k : Nat} {A : Around} (r : Room k A) : A.units + 65 < cLine := by have := r.un; omega
/-- rows of whole numbers, shown -/
theorem dp_ints {K : PySem.W.Frag} {H : Hp} : ∀ ns : List Int, DpAll K H (ns.map V.int) (ns.map PyData.int)
  | [] => .nil
  | n :: ns => .cons (.int n) (dp_ints ns)
theorem dp_row {K : PySem.W.Frag} {H : Hp} {a : Addr} {ns : List Int} (h : SqL K H a (ns.map V.int)) : Dp K H (.ref a) (.list (ns.map PyData.int)) := .lst h (dp_ints ns)
def shownR (ns : List Int) : Str := PyData.shown (.list (ns.map PyData.int))
theorem ints_lay : ∀ ns : List Int, PyData.canLayAll0 (ns.map PyData.int) = true
  | [] => rfl
  | n :: ns => by simp [PyData.canLayAll0, PyData.canLay0, ints_lay ns]
theorem ints_depth : ∀ ns : List Int, PyData.depthAll (ns.map PyData.int) ≤ 1
  | [] => by simp [PyData.depthAll]
  | n :: ns => by
    have := ints_depth ns
    simp only [List.map_cons, PyData.depthAll, PyData.depth]
    omega
theorem row_shaped (ns : List Int) : SeqAt.shaped (.list (ns.map PyData.int)) = true := by
  have h := ints_depth ns
  show (PyData.canLay0 (.list (ns.map PyData.int)) && decide (PyData.depth (.list (ns.map PyData.int)) ≤ 64)) = true
  rw [Bool.and_eq_true]
  exact ⟨by simp only [PyData.canLay0]; exact ints_lay ns, decide_eq_true (by simp only [PyData.depth]; omega)⟩
theorem ints_show : ∀ ns : List Int, (∀ n ∈ ns, n.natAbs.log2 < 1920) → PyData.showableAll (ns.map PyData.int) = true
  | [], _ => rfl
  | n :: ns, h => by
    simp only [List.map_cons, PyData.showableAll, PyData.showable]
    rw [decide_eq_true (h n List.mem_cons_self), ints_show ns fun m hm => h m (List.mem_cons_of_mem _ hm)]
    rfl
/-! ### sorted, any number -/
theorem k_sortedI {X : Cx} (K : PySem.W.Frag) (h : X.K = K) : CallR X (.builtin "sorted") (rSortedI K) := by subst h; exact cr_sortedI
def rSortedA (K : PySem.W.Frag) : List V → Hp → VK → Prop := fun vs H Q => ∃ (a : Addr) (xs : List Str), vs = [V.ref a] ∧ SqL K H a (xs.map V.str) ∧ ∀ (ys : List Str) (p : Addr), ys.Perm xs → sortedS ys = true → H p = none → Q (.ref p) (upd H p (.lst (ys.map V.str)))
theorem k_sortedS {X : Cx} (K : PySem.W.Frag) (h : X.K = K) : CallR X (.builtin "sorted") (rSortedA K) := by
  subst h
  intro pins s σ H vs us Q I r h
  obtain ⟨a, xs, rfl, hs, q⟩ := h
  obtain ⟨its, rv, hl, hz⟩ := I.list hs
  rw [Vals.ref1 r]
  refine sorted_strsAny hl.isList rv.strs (by rw [← rv.length]; exact hz) fun out ys h1 h2 h3 => ?_
  obtain ⟨ep, at_⟩ := sortedAll_at s.heap its out
  refine ⟨.ref _, upd H (s.heap.objs.size + 1) (.lst (ys.map V.str)), I.laid (t' := s.toks) (fun _ _ => sortedAll_old) (Nat.le_succ _) ⟨?_, out.toList, ep, vals_of_strs h1, at_⟩, rfl, q ys _ h2 h3 (I.hok.fresh (Nat.le_succ _))⟩
  rw [List.length_map, h2.length_eq]
  rw [List.length_map] at hz
  exact hz
theorem sorted_le : ∀ (l : List Str) (p : Str), risingS p l = true → (p :: l).Pairwise fun x y => x.cps.toList ≤ y.cps.toList
  | [], p, _ => List.pairwise_singleton _ _
  | x :: r, p, h => by
    obtain ⟨h1, h2⟩ := Bool.and_eq_true_iff.mp (show (!ltCps x.cps.toList p.cps.toList && risingS x r) = true from h)
    have hpx : p.cps.toList ≤ x.cps.toList := by
      rw [ltCps_eq] at h1
      intro z
      rw [decide_eq_true z] at h1
      cases h1
    have ih := sorted_le r x h2
    refine List.pairwise_cons.mpr ⟨fun y hy => ?_, ih⟩
    rcases List.mem_cons.mp hy with rfl | hy
    · exact hpx
    · exact List.le_trans hpx ((List.pairwise_cons.mp ih).1 y hy)
theorem sorted_uniq {xs ys : List Str} (h : xs.Perm ys) (hx : sortedS xs = true) (hy : sortedS ys = true) : xs = ys := by
  have pw : ∀ l : List Str, sortedS l = true → l.Pairwise fun x y => x.cps.toList ≤ y.cps.toList := fun l hl => by
    cases l with
    | nil => exact .nil
    | cons x r => exact sorted_le r x hl
  refine List.Perm.eq_of_pairwise (fun x y _ _ h1 h2 => ?_) (pw _ hx) (pw _ hy) h
  have e := List.le_antisymm h1 h2
  cases x with | mk a => cases y with | mk b => exact congrArg Str.mk (Array.toList_inj.mp e)
end My

namespace My
open PySem PySem.Spec PyProof.Rows L2 Pre
/-! ### the end of a law whose promise stands in no repr -/
/-- the script, tracked or one of the module's own objects -/
theorem script_env {P : Program} {w : World} {K : PySem.W.Frag} {mg mb : Str → Option Value} {a : Addr} {t : Shared} {us : List Value} {ns : List Int} (hin : K.In t.heap) (hgl : t.heap.Ns mainGlobals mg) (hbl : t.heap.Ns builtinsNs mb)
    (hbo : ∀ x : Str, x ≠ "__name__" → mb x = bootBuiltins x) (hno : t.heap.NoLimit) (hgs : t.gens = #[]) (at_a : t.heap.get? a = some { cls := .type "list", data := .seq us.toArray }) (ints_ : IntsAre us ns) (few : ns.length ≤ sizeLine) :
    ∃ (H : Hp) (base : Heap), Only H ∧ SqL K H a (ns.map V.int) ∧ K.In base ∧ base.Ns mainGlobals mg ∧ Env0 P w K mg base callerA [] t H := by
  have rv := vals_ints ints_
  have ul := ints_.length
  -- the module and the rest of the heap, whatever is tracked at a alone
  have rest : ∀ H : Hp, Only H → (∀ b, b ≠ a → H b = none) → (H a = none ∨ K.lookup a = none) → HOk P w H t.heap → SqL K H a (ns.map V.int) → ∃ (H : Hp) (base : Heap), Only H ∧ SqL K H a (ns.map V.int) ∧ K.In base ∧ base.Ns mainGlobals mg ∧ Env0 P w K mg base callerA [] t H := by
    intro H h1 h2 h3 h4 h5
    have dictFree : ∀ b o, t.heap.get? b = some o → (∃ es n, o.data = Data.dict es n) → H b = none := fun b o z ⟨es, n, d⟩ => by
      by_cases hb : b = a
      · rw [hb, at_a] at z
        cases z
        cases d
      · exact h2 b hb
    have nsKept : ∀ (b : Addr) (m : Str → Option Value), t.heap.Ns b m → (hidT t.heap H).Ns b m := fun b m z => by
      obtain ⟨o, es, ep, z1, z2, z3⟩ := z
      exact ⟨o, es, ep, hidT_get z1 (dictFree b o z1 ⟨_, _, z2⟩), z2, z3⟩
    have inKept : K.In (hidT t.heap H) := fun b o z => hidT_get (hin b o z) (by
      by_cases hb : b = a
      · rcases h3 with z3 | z3
        · rw [hb]; exact z3
        · rw [hb, z3] at z; cases z
      · exact h2 b hb)
    obtain ⟨mc, l1, l2⟩ := hno
    refine ⟨H, hidT t.heap H, h1, h5, inKept, nsKept _ _ hgl, ⟨rfl, ⟨inKept, nsKept _ _ hgl, ⟨mb, nsKept _ _ hbl, hbo⟩, ⟨mc, nsKept _ _ l1, l2⟩⟩, fun b o z => of_hidT z, ?_, trivial, fun b z => (nomatch z), h4, .of_eq hgs⟩⟩
    rw [hidT_size]
    exact Nat.le_refl _
  cases hk : K.lookup a with
  | some o =>
    have z := hin a o hk
    rw [at_a] at z
    cases z
    exact rest (fun _ => none) (fun _ => .inl rfl) (fun _ _ => rfl) (.inl rfl) (fun _ _ z => nomatch z) (.inr ⟨_, us.toArray, _, hk, rfl, rfl, rfl, by rw [List.size_toArray, ul]; exact few, by simpa using rv⟩)
  | none =>
    refine rest (upd (fun _ => none) a (.frz { cls := .type "list", data := .seq us.toArray } (.lst (ns.map V.int)))) (fun b => ?_) (fun b hb => upd_ne hb) (.inr hk) (fun b u z => ?_) (.inl (.inr ⟨_, upd_same⟩))
    · by_cases hb : b = a
      · rw [hb]; exact .inr ⟨_, _, upd_same⟩
      · exact .inl (upd_ne hb)
    · by_cases hb : b = a
      · subst hb
        rw [upd_same] at z
        cases z
        exact ⟨at_a, by rw [List.length_map]; exact few, us, _, rv, at_a⟩
      · rw [upd_ne hb] at z
        cases z
theorem end_g {l : PySem.W.OpenLaw} {n k : Nat} {q : Program} {loose : List Str} {XP : (Str → Option Value) → Heap → Prop} {YP : World → Heap → Prop} {d : DefRec} {x : Str} (hn : l.most = some n) (hn2 : n ≤ sizeLine) (hdf : d.params.defaults = []) (hr : Room k callerA)
    (F : ∀ (w : World) (mg : Str → Option Value) (fa : Addr) (h : Heap), YP w h → h.Ns mainGlobals mg → mg d.name = some (.ref fa) →
      ∃ (K : PySem.W.Frag) (fd : FuncData) (sp : Sp), K.In h ∧ (∀ (s : Shared) (u : Value), BindsTo s fd ⟨[u], []⟩ [(x, u)]) ∧
        (∀ (H : Hp) (a : Addr) (ns : List Int), ns.length ≤ n → SqL K H a (ns.map V.int) → sp [.ref a] H (fun v _ => v = .bl true) fun _ _ _ => False) ∧
        ∀ base : Heap, K.In base → base.Ns mainGlobals mg → FnG l.prog w K mg base CX0 k fa fd [x] sp) :
    PySem.W.WalkO q loose XP YP l.row.toRowW d [] (fun f vs => PySem.call f vs) := by
  refine Att.attach_call hn hdf fun w s₀ t mg mb fa o pm cd doc a us ns G Y ho hd hcd hmg at_a hi hl hg => ?_
  obtain ⟨K, fd, sp, hin, hb, hsp, hF⟩ := F w mg fa _ Y G.T.g hmg
  obtain ⟨H, base, only, hS, hKb, hgb, e0⟩ := script_env (P := l.prog) (w := w) hin G.T.g G.T.b G.T.builtins G.T.nolimit hg at_a hi (Nat.le_trans hl hn2)
  refine codeAny_mono ((hF base hKb hgb).does callerA rfl hr [] t H e0 ⟨[.ref a], []⟩ [.ref a] [.ref a] (hb t (.ref a)) (.cons rfl .nil) _ _ (hsp H a ns hl hS)) fun r t2 h => ?_
  match r, h with
  | .error e, h => exact (show False from h).elim
  | .ok (.ret u), h =>
    obtain ⟨v, H2, os, bare, un, hok2, rv, qv⟩ := h
    have qv : v = .bl true := qv
    subst qv
    have rv : u = Value.bool true := rv
    subst rv
    refine ⟨rfl, OldK.of_keep fun b o z => ?_, os, bare⟩
    rcases only b with hb | ⟨ob, ys, hb⟩
    · exact un.keep b o z hb (fun y => nomatch y) (fun y => nomatch y)
    · have z1 : t.heap.get? b = some ob := (e0.hok b _ hb).1
      have z2 : t2.heap.get? b = some ob := (hok2 b _ (un.frzs b ob _ hb)).1
      rw [z] at z1
      cases z1
      exact z2
end My

namespace My
open PySem PySem.Spec PyProof.Rows L2 Pre
/-! ### data in a heap: what is told of a value by lists and tuples that stand there (none of them frozen) -/
mutual
inductive Dt (H : Hp) : V → PyData → Prop
  | non : Dt H .non .none
  | bl (b : Bool) : Dt H (.bl b) (.bool b)
  | int (n : Int) : Dt H (.int n) (.int n)
  | str (x : Str) : Dt H (.str x) (.str x)
  | lst {a : Addr} {xs : List V} {ds : List PyData} : H a = some (.lst xs) → DtA H xs ds → Dt H (.ref a) (.list ds)
  | tup {a : Addr} {xs : List V} {ds : List PyData} : H a = some (.tup xs) → DtA H xs ds → Dt H (.ref a) (.tuple ds)
inductive DtA (H : Hp) : List V → List PyData → Prop
  | nil : DtA H [] []
  | cons {v : V} {vs : List V} {d : PyData} {ds : List PyData} : Dt H v d → DtA H vs ds → DtA H (v :: vs) (d :: ds)
end
mutual
theorem Dt.same {H H' : Hp} (s : Same H H') : ∀ {d : PyData} {v : V}, Dt H v d → Dt H' v d
  | .none, _, h => by cases h; exact .non
  | .bool _, _, h => by cases h; exact .bl _
  | .int _, _, h => by cases h; exact .int _
  | .str _, _, h => by cases h; exact .str _
  | .list _, _, h => by cases h with | lst a b => exact .lst (s _ _ a) (DtA.same s b)
  | .tuple _, _, h => by cases h with | tup a b => exact .tup (s _ _ a) (DtA.same s b)
  | .dict _, _, h => nomatch h
theorem DtA.same {H H' : Hp} (s : Same H H') : ∀ {ds : List PyData} {vs : List V}, DtA H vs ds → DtA H' vs ds
  | [], _, h => by cases h; exact .nil
  | _ :: _, _, h => by cases h with | cons a b => exact .cons (Dt.same s a) (DtA.same s b)
end
mutual
theorem Dt.dp {K : PySem.W.Frag} {H : Hp} : ∀ {d : PyData} {v : V}, Dt H v d → Dp K H v d
  | .none, _, h => by cases h; exact .non
  | .bool _, _, h => by cases h; exact .bl _
  | .int _, _, h => by cases h; exact .int _
  | .str _, _, h => by cases h; exact .str _
  | .list _, _, h => by cases h with | lst a b => exact .lst (.inl (.inl a)) (DtA.dp b)
  | .tuple _, _, h => by cases h with | tup a b => exact .tup (.inl (.inl a)) (DtA.dp b)
  | .dict _, _, h => nomatch h
theorem DtA.dp {K : PySem.W.Frag} {H : Hp} : ∀ {ds : List PyData} {vs : List V}, DtA H vs ds → DpAll K H vs ds
  | [], _, h => by cases h; exact .nil
  | _ :: _, _, h => by cases h with | cons a b => exact .cons (Dt.dp a) (DtA.dp b)
end
theorem DtA.len {H : Hp} : ∀ {ds : List PyData} {vs : List V}, DtA H vs ds → vs.length = ds.length
  | [], _, h => by cases h; rfl
  | _ :: _, _, h => by cases h with | cons a b => rw [List.length_cons, List.length_cons, DtA.len b]
theorem DtA.app {H : Hp} : ∀ {ds : List PyData} {vs : List V} {es : List PyData} {us : List V}, DtA H vs ds → DtA H us es → DtA H (vs ++ us) (ds ++ es)
  | [], _, _, _, h, k => by cases h; exact k
  | _ :: _, _, _, _, h, k => by cases h with | cons a b => exact .cons a (DtA.app b k)
theorem DtA.get {H : Hp} : ∀ {ds : List PyData} {vs : List V} {i : Nat} {d : PyData}, DtA H vs ds → ds[i]? = some d → ∃ v, vs[i]? = some v ∧ Dt H v d
  | [], _, _, _, _, k => by simp at k
  | _ :: _, _, 0, _, h, k => by
    cases h with
    | cons a b => rw [List.getElem?_cons_zero] at k; cases k; exact ⟨_, rfl, a⟩
  | _ :: _, _, i + 1, _, h, k => by
    cases h with
    | cons a b => rw [List.getElem?_cons_succ] at k; rw [List.getElem?_cons_succ]; exact DtA.get b k
theorem DtA.got {H : Hp} {ds : List PyData} {vs : List V} {i : Nat} {v : V} (h : DtA H vs ds) (k : vs[i]? = some v) : ∃ d, ds[i]? = some d ∧ Dt H v d := by
  have hi := (List.getElem?_eq_some_iff.mp k).1
  have hl := h.len
  obtain ⟨u, hu, d⟩ := h.get (List.getElem?_eq_getElem (show i < ds.length by omega))
  rw [k] at hu
  cases hu
  exact ⟨_, List.getElem?_eq_getElem (by omega), d⟩
theorem DtA.take {H : Hp} : ∀ {ds : List PyData} {vs : List V} (n : Nat), DtA H vs ds → DtA H (vs.take n) (ds.take n)
  | _, _, 0, _ => .nil
  | [], _, _ + 1, h => by cases h; exact .nil
  | _ :: _, _, n + 1, h => by cases h with | cons a b => exact .cons a (DtA.take n b)
theorem DtA.drop {H : Hp} : ∀ {ds : List PyData} {vs : List V} (n : Nat), DtA H vs ds → DtA H (vs.drop n) (ds.drop n)
  | _, _, 0, h => h
  | [], _, _ + 1, h => by cases h; exact .nil
  | _ :: _, _, n + 1, h => by cases h with | cons a b => exact DtA.drop n b
theorem DtA.rev {H : Hp} : ∀ {ds : List PyData} {vs : List V}, DtA H vs ds → DtA H vs.reverse ds.reverse
  | [], _, h => by cases h; exact .nil
  | _ :: _, _, h => by
    cases h with
    | cons a b => rw [List.reverse_cons, List.reverse_cons]; exact DtA.app (DtA.rev b) (.cons a .nil)
theorem DtA.ints {H : Hp} : ∀ ns : List Int, DtA H (ns.map V.int) (ns.map PyData.int)
  | [] => .nil
  | n :: r => .cons (.int n) (DtA.ints r)
theorem DtA.intsE {H : Hp} : ∀ {ns : List Int} {vs : List V}, DtA H vs (ns.map PyData.int) → vs = ns.map V.int
  | [], _, h => by cases h; rfl
  | n :: r, _, h => by
    cases h with
    | cons a b => cases a; rw [DtA.intsE b]; rfl
/-- a list of whole numbers -/
theorem Dt.ints {H : Hp} {a : Addr} {ns : List Int} (h : H a = some (.lst (ns.map V.int))) : Dt H (.ref a) (rowD ns) := .lst h (DtA.ints ns)
theorem Dt.intsE {H : Hp} {v : V} {ns : List Int} (h : Dt H v (rowD ns)) : ∃ a, v = .ref a ∧ H a = some (.lst (ns.map V.int)) := by
  unfold rowD at h
  cases h with
  | lst a b => rw [DtA.intsE b] at a; exact ⟨_, rfl, a⟩
theorem Dt.listE {H : Hp} {v : V} {ds : List PyData} (h : Dt H v (.list ds)) : ∃ a xs, v = .ref a ∧ H a = some (.lst xs) ∧ DtA H xs ds := by
  cases h with
  | lst a b => exact ⟨_, _, rfl, a, b⟩
theorem Dt.tupE {H : Hp} {v : V} {ds : List PyData} (h : Dt H v (.tuple ds)) : ∃ a xs, v = .ref a ∧ H a = some (.tup xs) ∧ DtA H xs ds := by
  cases h with
  | tup a b => exact ⟨_, _, rfl, a, b⟩
/-! ### what is owned (and changes) is left out -/
def rs (S : List Addr) (H : Hp) : Hp := fun a => if a ∈ S then none else H a
theorem rs_nil (H : Hp) : rs [] H = H := by funext a; simp [rs]
theorem rs_in {S : List Addr} {H : Hp} {a : Addr} (h : a ∈ S) : rs S H a = none := if_pos h
theorem rs_out {S : List Addr} {H : Hp} {a : Addr} (h : a ∉ S) : rs S H a = H a := if_neg h
theorem rs_some {S : List Addr} {H : Hp} {a : Addr} {o : HO} (h : rs S H a = some o) : a ∉ S ∧ H a = some o := by
  by_cases m : a ∈ S
  · rw [rs_in m] at h; cases h
  · rw [rs_out m] at h; exact ⟨m, h⟩
theorem rs_le {S : List Addr} {H : Hp} : Same (rs S H) H := fun _ _ h => (rs_some h).2
theorem rs_same {S : List Addr} {H H' : Hp} (s : Same H H') : Same (rs S H) (rs S H') := fun b o h => by
  obtain ⟨m, e⟩ := rs_some h
  rw [rs_out m]
  exact s b o e
theorem rs_upd {S : List Addr} {H : Hp} {p : Addr} {o : HO} (h : p ∈ S) : rs S (L2.upd H p o) = rs S H := by
  funext a
  by_cases m : a ∈ S
  · rw [rs_in m, rs_in m]
  · rw [rs_out m, rs_out m, upd_ne (fun e => m (by rw [e]; exact h))]
/-- all of them stand -/
def Has (S : List Addr) (H : Hp) : Prop := ∀ a ∈ S, ∃ o, H a = some o
theorem Has.nil {H : Hp} : Has [] H := fun _ h => nomatch h
theorem Has.same {S : List Addr} {H H' : Hp} (h : Has S H) (s : Same H H') : Has S H' := fun a m => by
  obtain ⟨o, e⟩ := h a m
  exact ⟨o, s a o e⟩
theorem Has.cons {S : List Addr} {H : Hp} {p : Addr} {o : HO} (h : Has S H) (e : H p = some o) : Has (p :: S) H := fun a m => by
  rcases List.mem_cons.mp m with rfl | m
  · exact ⟨o, e⟩
  · exact h a m
theorem Has.upd {S : List Addr} {H : Hp} {p : Addr} {o : HO} (h : Has S H) : Has S (L2.upd H p o) := fun a m => by
  by_cases e : a = p
  · subst e; exact ⟨o, upd_same⟩
  · rw [upd_ne e]; exact h a m
theorem Has.out {S : List Addr} {H : Hp} {p : Addr} (h : Has S H) (n : H p = none) : p ∉ S := fun m => by
  obtain ⟨o, e⟩ := h p m
  rw [n] at e
  cases e
theorem GenAt.has {H : Hp} {g : Addr} {n : Nat} (h : GenAt H g n) : Has [g] H := by
  obtain ⟨x, y, z, e, _⟩ := h
  exact Has.nil.cons e
/-- all but what is owned stays -/
def Sta (S : List Addr) (H H' : Hp) : Prop := Same (rs S H) (rs S H')
theorem Sta.of {S : List Addr} {H H' : Hp} (s : Same H H') : Sta S H H' := rs_same s
theorem Sta.trans {S : List Addr} {H H1 H2 : Hp} (a : Sta S H H1) (b : Sta S H1 H2) : Sta S H H2 := fun c o h => b c o (a c o h)
theorem Sta.at_ {S : List Addr} {H H' : Hp} (s : Sta S H H') {a : Addr} {o : HO} (m : a ∉ S) (h : H a = some o) : H' a = some o := (rs_some (s a o (by rw [rs_out m]; exact h))).2
theorem Sta.upd {S : List Addr} {H : Hp} {p : Addr} {o : HO} (h : p ∈ S) : Sta S H (L2.upd H p o) := fun c u e => by rw [rs_upd h]; exact e
theorem Sta.more {S : List Addr} {H H' : Hp} {p : Addr} (s : Sta S H H') : Sta (p :: S) H H' := fun c o h => by
  obtain ⟨m, e⟩ := rs_some h
  have m2 : c ∉ S := fun z => m (List.mem_cons_of_mem _ z)
  rw [rs_out m]
  exact s.at_ m2 e
theorem But.sta {g : Addr} {H H' : Hp} (b : But g H H') : Sta [g] H H' := fun c o h => by
  obtain ⟨m, e⟩ := rs_some h
  rw [rs_out m]
  exact b c o (fun z => m (by rw [z]; exact List.mem_cons_self)) e
/-- what was there ahead of a new thing does not speak of it -/
theorem under {S : List Addr} {H H' : Hp} {p : Addr} (n : H p = none) (s : Same H H') : Same (rs S H) (rs (p :: S) H') := fun c o h => by
  obtain ⟨m, e⟩ := rs_some h
  rw [rs_out (fun z => by
    rcases List.mem_cons.mp z with rfl | z
    · rw [n] at e; cases e
    · exact m z)]
  exact s c o e
theorem over {S : List Addr} {H : Hp} {p : Addr} : Same (rs (p :: S) H) (rs S H) := fun c o h => by
  obtain ⟨m, e⟩ := rs_some h
  rw [rs_out (fun z => m (List.mem_cons_of_mem _ z))]
  exact e
/-! ### a new list, a new tuple, a sum of lists -/
theorem dt_new {S : List Addr} {H : Hp} {p : Addr} {xs : List V} {ds : List PyData} (hS : Has S H) (n : H p = none) (h : DtA (rs S H) xs ds) : Dt (rs S (upd H p (.lst xs))) (.ref p) (.list ds) :=
  .lst (by rw [rs_out (hS.out n)]; exact upd_same) (h.same (rs_same (same_upd n)))
theorem dt_newT {S : List Addr} {H : Hp} {p : Addr} {xs : List V} {ds : List PyData} (hS : Has S H) (n : H p = none) (h : DtA (rs S H) xs ds) : Dt (rs S (upd H p (.tup xs))) (.ref p) (.tuple ds) :=
  .tup (by rw [rs_out (hS.out n)]; exact upd_same) (h.same (rs_same (same_upd n)))
theorem d_lst {S : List Addr} {H : Hp} {xs : List V} {ds : List PyData} {Q : VK} (hS : Has S H) (h : DtA (rs S H) xs ds) (hz : xs.length ≤ sizeLine) (k : ∀ p H', Same H H' → H p = none → H' p = some (.lst xs) → Dt (rs S H') (.ref p) (.list ds) → Q (.ref p) H') : xs.length ≤ sizeLine ∧ ∀ p, H p = none → Q (.ref p) (upd H p (.lst xs)) :=
  ⟨hz, fun p n => k p _ (same_upd n) n upd_same (dt_new hS n h)⟩
theorem d_tup {S : List Addr} {H : Hp} {xs : List V} {ds : List PyData} {Q : VK} (hS : Has S H) (h : DtA (rs S H) xs ds) (hz : xs.length ≤ sizeLine) (k : ∀ p H', Same H H' → H p = none → H' p = some (.tup xs) → Dt (rs S H') (.ref p) (.tuple ds) → Q (.ref p) H') : xs.length ≤ sizeLine ∧ ∀ p, H p = none → Q (.ref p) (upd H p (.tup xs)) :=
  ⟨hz, fun p n => k p _ (same_upd n) n upd_same (dt_newT hS n h)⟩
theorem d_cat {S : List Addr} {H : Hp} {v w : V} {ds es : List PyData} {Q : VK} (hS : Has S H) (hv : Dt (rs S H) v (.list ds)) (hw : Dt (rs S H) w (.list es)) (hz : ds.length + es.length ≤ sizeLine) (k : ∀ p H', Same H H' → H p = none → Dt (rs S H') (.ref p) (.list (ds ++ es)) → Q (.ref p) H') : rCat v w H Q := by
  obtain ⟨a, xs, rfl, ha, hx⟩ := hv.listE
  obtain ⟨b, ys, rfl, hb, hy⟩ := hw.listE
  exact ⟨a, b, xs, ys, rfl, rfl, (rs_some ha).2, (rs_some hb).2, by rw [hx.len, hy.len]; exact hz, fun p n => k p _ (same_upd n) n (dt_new hS n (hx.app hy))⟩
theorem d_eq {K : PySem.W.Frag} {H : Hp} {v w : V} {d e : PyData} {Q : VK} (hv : Dt H v d) (hw : Dt H w e) (sd : SeqAt.shaped d = true) (se : SeqAt.shaped e = true) (q : Q (.bl (PyData.eqv d e)) H) : rEqD K v w H Q := ⟨d, e, hv.dp, hw.dp, sd, se, q⟩
theorem d_ne {K : PySem.W.Frag} {H : Hp} {v w : V} {d e : PyData} {Q : VK} (hv : Dt H v d) (hw : Dt H w e) (sd : SeqAt.shaped d = true) (se : SeqAt.shaped e = true) (q : Q (.bl (!PyData.eqv d e)) H) : rNeD K v w H Q := ⟨d, e, hv.dp, hw.dp, sd, se, q⟩
/-! ### comprehensions -/
/-- what comes of an item: nothing, or data -/
def Out (S : List Addr) (H : Hp) : Option PyData → Option V → Prop
  | some d, some v => Dt (rs S H) v d
  | none, none => True
  | _, _ => False
def accP (S : List Addr) (H1 : Hp) (D : Addr) (ds : List PyData) (H : Hp) : Prop := Same H1 H ∧ ∃ ys, H D = some (.lst ys) ∧ DtA (rs (D :: S) H) ys ds
theorem acc_step {S : List Addr} {H1 : Hp} {D : Addr} {sel : List (Option PyData)} {i : Nat} {o : Option PyData} {H H4 : Hp} (nD : H1 D = none) (ho : sel[i]? = some o) (hz : sel.length < sizeLine) (h : accP S H1 D ((sel.take i).filterMap id) H) (s4 : Same H H4) :
    ∀ y : Option V, Out (D :: S) H4 o y → match y with
      | some v => ∃ acc, H4 D = some (.lst acc) ∧ acc.length < sizeLine ∧ accP S H1 D ((sel.take (i + 1)).filterMap id) (upd H4 D (.lst (acc ++ [v])))
      | none => accP S H1 D ((sel.take (i + 1)).filterMap id) H4 := by
  obtain ⟨s, ys, hD, hy⟩ := h
  intro y hO
  rw [take_fm ho]
  cases o with
  | none =>
    cases y with
    | none => exact ⟨s.trans s4, ys, s4 _ _ hD, by simpa using hy.same (rs_same s4)⟩
    | some v => exact absurd hO (fun z => z)
  | some d =>
    cases y with
    | none => exact absurd hO (fun z => z)
    | some v =>
      refine ⟨ys, s4 _ _ hD, ?_, same_over nD (s.trans s4), ys ++ [v], upd_same, ?_⟩
      · rw [hy.len]
        exact Nat.lt_of_le_of_lt (fm_len sel i) hz
      · rw [rs_upd List.mem_cons_self]
        exact (hy.same (rs_same s4)).app (.cons hO .nil)
theorem acc_end {S : List Addr} {H1 : Hp} {D : Addr} {ds : List PyData} {H : Hp} (hS : Has S H1) (nD : H1 D = none) (h : accP S H1 D ds H) : Dt (rs S H) (.ref D) (.list ds) := by
  obtain ⟨s, ys, hD, hy⟩ := h
  exact .lst (by rw [rs_out (hS.out nD)]; exact hD) (hy.same over)
theorem lc_dR {lo : Int} {n : Nat} {j : Nat} {tt : TT} {te : TE} {vs : List Nat} {σ : L2.St} {H1 : Hp} {D : Addr} {Qd : Hp → Prop} {S : List Addr} (hS : Has S H1) (sel : List (Option PyData)) (nD : H1 D = none) (hlen : sel.length = n) (hz : n < sizeLine)
    (hw : ∀ x, wipe ((wipe σ vs).set j (some x)) vs = wipe σ vs)
    (hs : ∀ (i : Nat) (o : Option PyData) (H' : Hp), i < n → sel[i]? = some o → Same H1 H' → Has (D :: S) H' → ∀ Qt : Option V → Hp → Prop, (∀ y H'', Same H' H'' → Out (D :: S) H'' o y → Qt y H'') →
      tt ((wipe σ vs).set j (some (.int (lo + (i : Int))))) H' fun b H3 => if b = true then te ((wipe σ vs).set j (some (.int (lo + (i : Int))))) H3 fun y H4 => Qt (some y) H4 else Qt none H3)
    (hd : ∀ H', Same H1 H' → H' D ≠ none → Dt (rs S H') (.ref D) (.list (sel.filterMap id)) → Qd H') :
    ∃ W : Nat → Nat → Hp → Prop, (∃ m, W 0 m (upd H1 D (.lst []))) ∧ ∀ i m H, W i m H →
      ((Itr lo n).stop i H ∧ Qd H) ∨ ((Itr lo n).go i H ∧ ∃ Nx : Hp → Prop, (∀ H', Nx H' → ∃ m', m' < m ∧ W (i + 1) m' H') ∧ ∀ x H', (Itr lo n).yld i H x H' → gName j x (wipe σ vs) H' fun σ2 H2 => wipe σ2 vs = wipe σ vs ∧ tt σ2 H2 fun b H3 =>
        if b = true then te σ2 H3 fun y H4 => ∃ acc, H4 D = some (.lst acc) ∧ acc.length < sizeLine ∧ Nx (upd H4 D (.lst (acc ++ [y]))) else Nx H3) := by
  refine lc_range (lo := lo) (n := n) (fun i H => accP S H1 D ((sel.take i).filterMap id) H) ⟨same_upd nD, [], upd_same, .nil⟩ ?_ ?_
  · rintro i H hi h
    refine ⟨hw _, ?_⟩
    have ho : sel[i]? = some (sel[i]'(by omega)) := List.getElem?_eq_getElem (by omega)
    obtain ⟨s, ys, hD, hy⟩ := id h
    exact hs i _ H hi ho s ((hS.same s).cons hD) (fun o H4 => match o with
      | some y => ∃ acc, H4 D = some (.lst acc) ∧ acc.length < sizeLine ∧ accP S H1 D ((sel.take (i + 1)).filterMap id) (upd H4 D (.lst (acc ++ [y])))
      | none => accP S H1 D ((sel.take (i + 1)).filterMap id) H4) fun y H4 s4 hO => acc_step nD ho (by omega) h s4 y hO
  · rintro H h
    rw [← hlen, List.take_length] at h
    refine hd H h.1 ?_ (acc_end hS nD h)
    obtain ⟨_, ys, hD, _⟩ := h
    rw [hD]
    exact fun z => nomatch z
theorem lc_dL {K : PySem.W.Frag} {a : Addr} {xs : List V} {j : Nat} {tt : TT} {te : TE} {vs : List Nat} {σ : L2.St} {H1 : Hp} {D : Addr} {Qd : Hp → Prop} {S : List Addr} (hS : Has S H1) (sel : List (Option PyData)) (nD : H1 D = none) (hA : SqL K H1 a xs) (hlen : sel.length = xs.length) (hz : xs.length < sizeLine)
    (hw : ∀ x, wipe ((wipe σ vs).set j (some x)) vs = wipe σ vs)
    (hs : ∀ (i : Nat) (x : V) (o : Option PyData) (H' : Hp), xs[i]? = some x → sel[i]? = some o → Same H1 H' → Has (D :: S) H' → ∀ Qt : Option V → Hp → Prop, (∀ y H'', Same H' H'' → Out (D :: S) H'' o y → Qt y H'') →
      tt ((wipe σ vs).set j (some x)) H' fun b H3 => if b = true then te ((wipe σ vs).set j (some x)) H3 fun y H4 => Qt (some y) H4 else Qt none H3)
    (hd : ∀ H', Same H1 H' → H' D ≠ none → Dt (rs S H') (.ref D) (.list (sel.filterMap id)) → Qd H') :
    ∃ W : Nat → Nat → Hp → Prop, (∃ m, W 0 m (upd H1 D (.lst []))) ∧ ∀ i m H, W i m H →
      ((Itl K a).stop i H ∧ Qd H) ∨ ((Itl K a).go i H ∧ ∃ Nx : Hp → Prop, (∀ H', Nx H' → ∃ m', m' < m ∧ W (i + 1) m' H') ∧ ∀ x H', (Itl K a).yld i H x H' → gName j x (wipe σ vs) H' fun σ2 H2 => wipe σ2 vs = wipe σ vs ∧ tt σ2 H2 fun b H3 =>
        if b = true then te σ2 H3 fun y H4 => ∃ acc, H4 D = some (.lst acc) ∧ acc.length < sizeLine ∧ Nx (upd H4 D (.lst (acc ++ [y]))) else Nx H3) := by
  refine lc_list (K := K) (a := a) (xs := xs) (fun i H => accP S H1 D ((sel.take i).filterMap id) H) ⟨same_upd nD, [], upd_same, .nil⟩ (fun i H _ p => p.1.seq hA) ?_ ?_
  · rintro i x H hx h
    refine ⟨hw _, ?_⟩
    have hi := (List.getElem?_eq_some_iff.mp hx).1
    have ho : sel[i]? = some (sel[i]'(by omega)) := List.getElem?_eq_getElem (by omega)
    obtain ⟨s, ys, hD, hy⟩ := id h
    exact hs i x _ H hx ho s ((hS.same s).cons hD) (fun o H4 => match o with
      | some y => ∃ acc, H4 D = some (.lst acc) ∧ acc.length < sizeLine ∧ accP S H1 D ((sel.take (i + 1)).filterMap id) (upd H4 D (.lst (acc ++ [y])))
      | none => accP S H1 D ((sel.take (i + 1)).filterMap id) H4) fun y H4 s4 hO => acc_step nD ho (by omega) h s4 y hO
  · rintro H h
    rw [← hlen, List.take_length] at h
    refine hd H h.1 ?_ (acc_end hS nD h)
    obtain ⟨_, ys, hD, _⟩ := h
    rw [hD]
    exact fun z => nomatch z
/-- maps: each item's data -/
theorem sel_map {α : Type} (l : List α) (f : α → PyData) : (l.map fun x => some (f x)).filterMap id = l.map f := by
  induction l with
  | nil => rfl
  | cons x l ih =>
    show f x :: (l.map fun x => some (f x)).filterMap id = _
    rw [ih]
    rfl
/-- over any walk -/
theorem lc_dW {J : It} {n : Nat} {G : Hp → Prop} {Y : Nat → Hp → V → Hp → Prop} (w : Walk J n G Y) {g : TG} {tt : TT} {te : TE} {vs : List Nat} {σ : L2.St} {H1 : Hp} {D : Addr} {Qd : Hp → Prop} {S : List Addr} (hS : Has S H1) (sel : List (Option PyData)) (nD : H1 D = none) (hlen : sel.length = n) (hz : n < sizeLine)
    (hG : ∀ H', Same H1 H' → G H')
    (hs : ∀ (i : Nat) (o : Option PyData) (H0 : Hp) (x : V) (H' : Hp), i < n → sel[i]? = some o → Same H1 H0 → Has (D :: S) H0 → Y i H0 x H' → ∀ Qt : Option V → Hp → Prop, (∀ y H'', Same H0 H'' → Out (D :: S) H'' o y → Qt y H'') →
      g x (wipe σ vs) H' fun σ2 H2 => wipe σ2 vs = wipe σ vs ∧ tt σ2 H2 fun b H3 => if b = true then te σ2 H3 fun y H4 => Qt (some y) H4 else Qt none H3)
    (hd : ∀ H', Same H1 H' → H' D ≠ none → Dt (rs S H') (.ref D) (.list (sel.filterMap id)) → Qd H') :
    ∃ W : Nat → Nat → Hp → Prop, (∃ m, W 0 m (upd H1 D (.lst []))) ∧ ∀ i m H, W i m H →
      (J.stop i H ∧ Qd H) ∨ (J.go i H ∧ ∃ Nx : Hp → Prop, (∀ H', Nx H' → ∃ m', m' < m ∧ W (i + 1) m' H') ∧ ∀ x H', J.yld i H x H' → g x (wipe σ vs) H' fun σ2 H2 => wipe σ2 vs = wipe σ vs ∧ tt σ2 H2 fun b H3 =>
        if b = true then te σ2 H3 fun y H4 => ∃ acc, H4 D = some (.lst acc) ∧ acc.length < sizeLine ∧ Nx (upd H4 D (.lst (acc ++ [y]))) else Nx H3) := by
  refine lc_it w (fun i H => accP S H1 D ((sel.take i).filterMap id) H) ⟨same_upd nD, [], upd_same, .nil⟩ (fun i H _ p => hG H p.1) ?_ ?_
  · rintro i x H H' hi h y
    have ho : sel[i]? = some (sel[i]'(by omega)) := List.getElem?_eq_getElem (by omega)
    obtain ⟨s, ys, hD, hy⟩ := id h
    exact hs i _ H x H' hi ho s ((hS.same s).cons hD) y (fun o H4 => match o with
      | some y => ∃ acc, H4 D = some (.lst acc) ∧ acc.length < sizeLine ∧ accP S H1 D ((sel.take (i + 1)).filterMap id) (upd H4 D (.lst (acc ++ [y])))
      | none => accP S H1 D ((sel.take (i + 1)).filterMap id) H4) fun y H4 s4 hO => acc_step nD ho (by omega) h s4 y hO
  · rintro H h
    rw [← hlen, List.take_length] at h
    refine hd H h.1 ?_ (acc_end hS nD h)
    obtain ⟨_, ys, hD, _⟩ := h
    rw [hD]
    exact fun z => nomatch z
theorem dt_pairs {K : PySem.W.Frag} {H : Hp} {a : Addr} {ps : List (Int × Int)} (h : Dt H (.ref a) (.list (ps.map pairD))) : PairsAt K H a ps := by
  cases h with
  | lst ha hx =>
    rename_i xs
    have key : ∀ (ps : List (Int × Int)) (xs : List V), DtA H xs (ps.map pairD) → ∃ as : List Addr, xs = as.map V.ref ∧ as.length = ps.length ∧ ∀ (i : Nat) (t : Addr) (p : Int × Int), as[i]? = some t → ps[i]? = some p → SqT K H t [.int p.1, .int p.2] := fun ps => by
      induction ps with
      | nil => intro xs h; cases h; exact ⟨[], rfl, rfl, fun i t p ht => by simp at ht⟩
      | cons p ps ih =>
        intro xs h
        cases h with
        | cons b c =>
          obtain ⟨as, rfl, hl, k⟩ := ih _ c
          obtain ⟨t, ys, rfl, ht, hy⟩ := (show Dt H _ (.tuple [.int p.1, .int p.2]) from b).tupE
          rw [DtA.intsE (ns := [p.1, p.2]) hy] at ht
          refine ⟨t :: as, rfl, by rw [List.length_cons, List.length_cons, hl], fun i u q hu hq => ?_⟩
          cases i with
          | zero =>
            rw [List.getElem?_cons_zero] at hu hq
            cases hu
            cases hq
            exact .inl (.inl ht)
          | succ i =>
            rw [List.getElem?_cons_succ] at hu hq
            exact k i u q hu hq
    obtain ⟨as, rfl, hl, k⟩ := key ps xs hx
    exact ⟨as, .inl (.inl ha), hl, k⟩
end My

namespace My
/-! ### the mathematics: prices by widths -/
def price (ns : List Int) (w : Nat) : Int := (ns.map fun n => n / 2 ^ w + 1 + (w : Int)).sum
def cc (ns : List Int) (w : Nat) : Int := (ns.map fun n => (n + 2 ^ w) / 2 ^ (w + 1)).sum
def Folds (ns : List Int) : Prop := ∀ n ∈ ns, 0 ≤ n ∧ n < 2 ^ 40
theorem half_step (n : Int) (w : Nat) : n / 2 ^ w - n / 2 ^ (w + 1) = (n + 2 ^ w) / 2 ^ (w + 1) := by
  have hp := pow_pos' w
  have e1 : n / 2 ^ (w + 1) = n / 2 ^ w / 2 := by
    rw [Int.pow_succ, Int.ediv_ediv_of_nonneg (Int.le_of_lt hp)]
  have e2 : (n + 2 ^ w) / 2 ^ (w + 1) = (n / 2 ^ w + 1) / 2 := by
    rw [Int.pow_succ, ← Int.ediv_ediv_of_nonneg (Int.le_of_lt hp), Int.add_ediv_of_dvd_right (Int.dvd_refl _), Int.ediv_self (Int.ne_of_gt hp)]
  rw [e1, e2]
  omega
theorem price_step : ∀ (ns : List Int) (w : Nat), price ns (w + 1) = price ns w + ns.length - cc ns w
  | [], _ => rfl
  | n :: r, w => by
    have ih := price_step r w
    have h := half_step n w
    unfold price cc at ih ⊢
    simp only [List.map_cons, List.sum_cons, List.length_cons]
    rw [ih]
    push_cast
    omega
theorem cc_anti : ∀ (ns : List Int), (∀ n ∈ ns, 0 ≤ n) → ∀ w, cc ns (w + 1) ≤ cc ns w
  | [], _, _ => Int.le_refl _
  | n :: r, h, w => by
    have ih := cc_anti r (fun x hx => h x (List.mem_cons_of_mem _ hx)) w
    have hn := h n List.mem_cons_self
    have hp := pow_pos' w
    have e1 : (n + 2 ^ w) / 2 ^ (w + 1) = (n / 2 ^ w + 1) / 2 := by
      rw [Int.pow_succ, ← Int.ediv_ediv_of_nonneg (Int.le_of_lt hp), Int.add_ediv_of_dvd_right (Int.dvd_refl _), Int.ediv_self (Int.ne_of_gt hp)]
    have hp2 := pow_pos' (w + 1)
    have e2 : (n + 2 ^ (w + 1)) / 2 ^ (w + 1 + 1) = (n / 2 ^ (w + 1) + 1) / 2 := by
      rw [Int.pow_succ 2 (w + 1), ← Int.ediv_ediv_of_nonneg (Int.le_of_lt hp2), Int.add_ediv_of_dvd_right (Int.dvd_refl _), Int.ediv_self (Int.ne_of_gt hp2)]
    have e3 : n / 2 ^ (w + 1) = n / 2 ^ w / 2 := by
      rw [Int.pow_succ, Int.ediv_ediv_of_nonneg (Int.le_of_lt hp)]
    have hq : 0 ≤ n / 2 ^ w := Int.ediv_nonneg hn (Int.le_of_lt hp)
    unfold cc at ih ⊢
    simp only [List.map_cons, List.sum_cons]
    rw [e1, e2, e3]
    omega
theorem cc_le (ns : List Int) (h : ∀ n ∈ ns, 0 ≤ n) (v : Nat) : ∀ d, cc ns (v + d) ≤ cc ns v
  | 0 => Int.le_refl _
  | d + 1 => Int.le_trans (cc_anti ns h (v + d)) (cc_le ns h v d)
theorem cc_40 : ∀ (ns : List Int), Folds ns → cc ns 40 = 0
  | [], _ => rfl
  | n :: r, h => by
    have ih := cc_40 r fun x hx => h x (List.mem_cons_of_mem _ hx)
    have hn := h n List.mem_cons_self
    have e : (n + 2 ^ 40) / 2 ^ (40 + 1) = 0 := Int.ediv_eq_zero_of_lt (by omega) (by omega)
    unfold cc at ih ⊢
    simp only [List.map_cons, List.sum_cons]
    rw [ih, e]
    rfl
theorem Folds.nn {ns : List Int} (h : Folds ns) : ∀ n ∈ ns, 0 ≤ n := fun n hn => (h n hn).1
/-- m is the least price, f the first and l the last width that has it -/
structure IsLeast (ns : List Int) (m : Int) (f l : Nat) : Prop where
  fl : f ≤ l
  l40 : l ≤ 40
  at_ : ∀ w, f ≤ w → w ≤ l → price ns w = m
  lo : ∀ w, w < f → m < price ns w
  hi : ∀ w, l < w → m < price ns w
theorem IsLeast.le {ns : List Int} {m : Int} {f l : Nat} (h : IsLeast ns m f l) (w : Nat) : m ≤ price ns w := by
  by_cases h1 : w < f
  · exact Int.le_of_lt (h.lo w h1)
  · by_cases h2 : l < w
    · exact Int.le_of_lt (h.hi w h2)
    · exact Int.le_of_eq (h.at_ w (by omega) (by omega)).symm
theorem IsLeast.uniq {ns : List Int} {m m' : Int} {f l f' l' : Nat} (a : IsLeast ns m f l) (b : IsLeast ns m' f' l') : m = m' ∧ f = f' ∧ l = l' := by
  have e : m = m' := Int.le_antisymm (by rw [← b.at_ f' (Nat.le_refl _) b.fl]; exact a.le f') (by rw [← a.at_ f (Nat.le_refl _) a.fl]; exact b.le f)
  subst e
  have z : ∀ {f l f' l' : Nat}, IsLeast ns m f l → IsLeast ns m f' l' → f ≤ f' ∧ l' ≤ l := fun {f l f' l'} a b => by
    constructor
    · by_cases h : f ≤ f'
      · exact h
      · have h1 := a.lo f' (by omega)
        rw [b.at_ f' (Nat.le_refl _) b.fl] at h1
        omega
    · by_cases h : l' ≤ l
      · exact h
      · have h1 := a.hi l' (by omega)
        rw [b.at_ l' b.fl (Nat.le_refl _)] at h1
        omega
  have h1 := z a b
  have h2 := z b a
  omega
theorem fall (ns : List Int) (f : Nat) (h : ∀ w, w < f → (ns.length : Int) < cc ns w) : ∀ d, d ≤ f → 0 < d → price ns f < price ns (f - d)
  | 0, _, h0 => absurd h0 (by omega)
  | d + 1, hd, _ => by
    have e := price_step ns (f - (d + 1))
    have hw := h (f - (d + 1)) (by omega)
    have e2 : f - (d + 1) + 1 = f - d := by omega
    rw [e2] at e
    by_cases h0 : d = 0
    · subst h0
      rw [Nat.sub_zero] at e
      omega
    · have ih := fall ns f h d (by omega) (by omega)
      omega
theorem rise (ns : List Int) (nn : ∀ n ∈ ns, 0 ≤ n) (v : Nat) (h : cc ns v < ns.length) : ∀ d, price ns v < price ns (v + d + 1)
  | 0 => by
    have e := price_step ns v
    show price ns v < price ns (v + 1)
    omega
  | d + 1 => by
    have ih := rise ns nn v h d
    have e := price_step ns (v + d + 1)
    have c := cc_le ns nn v (d + 1)
    have c' : cc ns (v + d + 1) ≤ cc ns v := c
    show price ns v < price ns (v + d + 1 + 1)
    omega
/-- what the program's two loops find is the least price -/
theorem told_least (ns : List Int) (hF : Folds ns) (ne : ns ≠ []) (f l : Nat) (hf : cc ns f ≤ ns.length) (hlo : ∀ w, w < f → (ns.length : Int) < cc ns w) (hfl : f ≤ l) (hat : ∀ w, f ≤ w → w ≤ l → price ns w = price ns f)
    (hne : price ns (l + 1) ≠ price ns f) : IsLeast ns (price ns f) f l := by
  have hlen : 0 < ns.length := by cases ns with | nil => exact absurd rfl ne | cons _ _ => simp
  have c40 := cc_40 ns hF
  have hf40 : f ≤ 40 := by
    by_cases h : f ≤ 40
    · exact h
    · have := hlo 40 (by omega)
      omega
  have el := hat l hfl (Nat.le_refl _)
  have hcl : cc ns l < ns.length := by
    have e := price_step ns l
    obtain ⟨d, rfl⟩ : ∃ d, l = f + d := ⟨l - f, by omega⟩
    have c := cc_le ns hF.nn f d
    omega
  refine ⟨hfl, ?_, hat, fun w hw => ?_, fun w hw => ?_⟩
  · by_cases h : l ≤ 40
    · exact h
    · have e : price ns 41 = price ns 40 + ns.length - cc ns 40 := price_step ns 40
      have h1 := hat 40 hf40 (by omega)
      have h2 := hat 41 (by omega) (by omega)
      omega
  · have h := fall ns f hlo (f - w) (by omega) (by omega)
    rw [show f - (f - w) = w by omega] at h
    exact h
  · obtain ⟨d, rfl⟩ : ∃ d, w = l + d + 1 := ⟨w - l - 1, by omega⟩
    have h := rise ns hF.nn l hcl d
    omega
theorem least_ex (P : Nat → Prop) [DecidablePred P] : ∀ n, P n → ∃ k, P k ∧ k ≤ n ∧ ∀ w, w < k → ¬ P w := by
  intro n
  induction n using Nat.strongRecOn with
  | _ n ih =>
    intro hn
    by_cases h : ∃ w, w < n ∧ P w
    · obtain ⟨w, hw, pw⟩ := h
      obtain ⟨k, a, b, c⟩ := ih w hw pw
      exact ⟨k, a, by omega, c⟩
    · exact ⟨n, hn, Nat.le_refl _, fun w hw pw => h ⟨w, hw, pw⟩⟩
theorem least_is (ns : List Int) (hF : Folds ns) (ne : ns ≠ []) : ∃ m f l, IsLeast ns m f l := by
  have hlen : 0 < ns.length := by cases ns with | nil => exact absurd rfl ne | cons _ _ => simp
  have c40 := cc_40 ns hF
  obtain ⟨f, h1, h2, h3⟩ := least_ex (fun w => cc ns w ≤ ns.length) 40 (by show cc ns 40 ≤ ns.length; omega)
  obtain ⟨l, g1, g2, g3⟩ := least_ex (fun w => f ≤ w ∧ price ns (w + 1) ≠ price ns f) 40 ⟨h2, by
    have r := rise ns hF.nn 40 (by omega) 0
    have q : price ns f ≤ price ns 40 := by
      obtain ⟨d, hd⟩ : ∃ d, 40 = f + d := ⟨40 - f, by omega⟩
      have up : ∀ d, price ns f ≤ price ns (f + d) := fun d => by
        induction d with
        | zero => exact Int.le_refl _
        | succ d ih =>
          have e := price_step ns (f + d)
          have c := cc_le ns hF.nn f d
          show price ns f ≤ price ns (f + d + 1)
          omega
      rw [hd]
      exact up d
    have r' : price ns 40 < price ns 41 := r
    show price ns 41 ≠ price ns f
    omega⟩
  refine ⟨_, f, l, told_least ns hF ne f l h1 (fun w hw => by have := h3 w hw; omega) g1.1 (fun w hw hl => ?_) g1.2⟩
  have key : ∀ d, f + d ≤ l → price ns (f + d) = price ns f := fun d => by
    induction d with
    | zero => intro _; rfl
    | succ d ih =>
      intro hd
      have := g3 (f + d) (by omega)
      by_cases hq : price ns (f + d + 1) = price ns f
      · exact hq
      · exact absurd ⟨by omega, hq⟩ this
  have := key (w - f) (by omega)
  rw [show f + (w - f) = w by omega] at this
  exact this
/-- what the law finds over 45 widths -/
theorem law_least (ns : List Int) (m0 : Int) (f0 l0 : Nat) (h : IsLeast ns m0 f0 l0) (m : Int) (hm : m ∈ (List.range 45).map (price ns)) (hle : ∀ y ∈ (List.range 45).map (price ns), m ≤ y) :
    m = m0 ∧ ((List.range 45).filter fun w => decide (price ns w = m)) = (List.range (l0 + 1 - f0)).map (fun d => f0 + d) := by
  have e : m = m0 := by
    obtain ⟨w, hw, ew⟩ := List.mem_map.mp hm
    have a := h.le w
    have b := hle (price ns f0) (List.mem_map.mpr ⟨f0, List.mem_range.mpr (by have := h.fl; have := h.l40; omega), rfl⟩)
    rw [h.at_ f0 (Nat.le_refl _) h.fl] at b
    omega
  refine ⟨e, ?_⟩
  subst e
  have e1 : (List.range 45).filter (fun w => decide (price ns w = m)) = (List.range 45).filter (fun w => decide (f0 ≤ w ∧ w ≤ l0)) := by
    refine List.filter_congr fun w _ => ?_
    have : price ns w = m ↔ f0 ≤ w ∧ w ≤ l0 := by
      constructor
      · intro hp
        constructor
        · by_cases q : f0 ≤ w
          · exact q
          · have := h.lo w (by omega); omega
        · by_cases q : w ≤ l0
          · exact q
          · have := h.hi w (by omega); omega
      · rintro ⟨a, b⟩
        exact h.at_ w a b
    simp only [this]
  rw [e1]
  have hfl := h.fl
  have h40 := h.l40
  have key : ∀ n, (List.range n).filter (fun w => decide (f0 ≤ w ∧ w ≤ l0)) = (List.range (min n (l0 + 1) - f0)).map (fun d => f0 + d) := fun n => by
    induction n with
    | zero => simp
    | succ n ih =>
      rw [List.range_succ, List.filter_append, ih]
      by_cases c : f0 ≤ n ∧ n ≤ l0
      · rw [List.filter_cons_of_pos (by simpa using c)]
        rw [show min (n + 1) (l0 + 1) - f0 = (min n (l0 + 1) - f0) + 1 by omega, List.range_succ, List.map_append]
        simp
        omega
      · rw [List.filter_cons_of_neg (by simpa using c)]
        rw [show min (n + 1) (l0 + 1) - f0 = (min n (l0 + 1) - f0) by omega]
        simp
  rw [key 45, show min 45 (l0 + 1) - f0 = l0 + 1 - f0 by omega]
theorem price_app (a b : List Int) (w : Nat) : price (a ++ b) w = price a w + price b w := by
  unfold price
  rw [List.map_append, List.sum_append]
theorem price_rev (a : List Int) (w : Nat) : price a.reverse w = price a w := by
  unfold price
  rw [List.map_reverse, List.sum_reverse]
theorem IsLeast.rev {a : List Int} {m : Int} {f l : Nat} (h : IsLeast a m f l) : IsLeast a.reverse m f l :=
  ⟨h.fl, h.l40, fun w x y => by rw [price_rev]; exact h.at_ w x y, fun w x => by rw [price_rev]; exact h.lo w x, fun w x => by rw [price_rev]; exact h.hi w x⟩
theorem convex {ns : List Int} (h : Folds ns) (w : Nat) : ¬ price ns (w + 2) - price ns (w + 1) < price ns (w + 1) - price ns w := by
  have a := price_step ns w
  have b := price_step ns (w + 1)
  have c := cc_anti ns h.nn w
  have b' : price ns (w + 2) = price ns (w + 1) + ns.length - cc ns (w + 1) := b
  omega
/-- a sum of prices, as the program says it -/
theorem price_raw : ∀ (ns : List Int) (w : Nat), (ns.length : Int) * ((w : Int) + 1) + (ns.map fun n => n / 2 ^ w).sum = price ns w
  | [], w => by simp [price]
  | n :: r, w => by
    have ih := price_raw r w
    unfold price at ih ⊢
    simp only [List.map_cons, List.sum_cons, List.length_cons]
    rw [← ih]
    push_cast
    rw [Int.add_mul]
    omega
def minI : List Int → Int
  | [] => 0
  | x :: xs => xs.foldl min x
def maxI : List Int → Int
  | [] => 0
  | x :: xs => xs.foldl max x
theorem fold_min : ∀ (xs : List Int) (x : Int), xs.foldl min x ∈ x :: xs ∧ ∀ y ∈ x :: xs, xs.foldl min x ≤ y
  | [], x => ⟨List.mem_cons_self, fun y hy => by rw [List.mem_singleton.mp hy]; exact Int.le_refl _⟩
  | a :: xs, x => by
    obtain ⟨h1, h2⟩ := fold_min xs (min x a)
    show xs.foldl min (min x a) ∈ _ ∧ ∀ y ∈ x :: a :: xs, xs.foldl min (min x a) ≤ y
    have h3 := h2 (min x a) List.mem_cons_self
    refine ⟨?_, fun y hy => ?_⟩
    · rcases List.mem_cons.mp h1 with e | e
      · rw [e]
        rcases Int.le_total x a with h | h
        · rw [Int.min_eq_left h]; exact List.mem_cons_self
        · rw [Int.min_eq_right h]; exact List.mem_cons_of_mem _ List.mem_cons_self
      · exact List.mem_cons_of_mem _ (List.mem_cons_of_mem _ e)
    · rcases List.mem_cons.mp hy with rfl | hy
      · omega
      · rcases List.mem_cons.mp hy with rfl | hy
        · omega
        · exact h2 y (List.mem_cons_of_mem _ hy)
theorem fold_max : ∀ (xs : List Int) (x : Int), xs.foldl max x ∈ x :: xs ∧ ∀ y ∈ x :: xs, y ≤ xs.foldl max x
  | [], x => ⟨List.mem_cons_self, fun y hy => by rw [List.mem_singleton.mp hy]; exact Int.le_refl _⟩
  | a :: xs, x => by
    obtain ⟨h1, h2⟩ := fold_max xs (max x a)
    show xs.foldl max (max x a) ∈ _ ∧ ∀ y ∈ x :: a :: xs, y ≤ xs.foldl max (max x a)
    have h3 := h2 (max x a) List.mem_cons_self
    refine ⟨?_, fun y hy => ?_⟩
    · rcases List.mem_cons.mp h1 with e | e
      · rw [e]
        rcases Int.le_total x a with h | h
        · rw [Int.max_eq_right h]; exact List.mem_cons_of_mem _ List.mem_cons_self
        · rw [Int.max_eq_left h]; exact List.mem_cons_self
      · exact List.mem_cons_of_mem _ (List.mem_cons_of_mem _ e)
    · rcases List.mem_cons.mp hy with rfl | hy
      · omega
      · rcases List.mem_cons.mp hy with rfl | hy
        · omega
        · exact h2 y (List.mem_cons_of_mem _ hy)
theorem min_uniq {l : List Int} {m : Int} (h1 : m ∈ l) (h2 : ∀ y ∈ l, m ≤ y) : m = minI l := by
  cases l with
  | nil => cases h1
  | cons x xs =>
    obtain ⟨h3, h4⟩ := fold_min xs x
    exact Int.le_antisymm (h2 _ h3) (h4 _ h1)
theorem max_uniq {l : List Int} {m : Int} (h1 : m ∈ l) (h2 : ∀ y ∈ l, y ≤ m) : m = maxI l := by
  cases l with
  | nil => cases h1
  | cons x xs =>
    obtain ⟨h3, h4⟩ := fold_max xs x
    exact Int.le_antisymm (h4 _ h1) (h2 _ h3)
theorem price_take (ns : List Int) (w : Nat) {i : Nat} {n : Int} (h : ns[i]? = some n) : price (ns.take (i + 1)) w = price (ns.take i) w + n / 2 ^ w + 1 + (w : Int) := by
  unfold price
  rw [List.take_add_one, h, List.map_append, List.sum_append]
  show _ + ([n / 2 ^ w + 1 + (w : Int)]).sum = _
  rw [List.sum_singleton]
  omega
end My

namespace My
open PySem PySem.Spec PyProof.Rows L2 Pre
section
variable {P : Program} {w : World} {K : PySem.W.Frag} {mg : Str → Option Value} {base : Heap}
def sp_check_number : Sp := fun vs H Q _ => ∃ (i lo : Int) (hi : Option Int), vs = [.int i, .int lo, (match hi with | some j => .int j | none => .non)] ∧ lo ≤ i ∧ (∀ j, hi = some j → i ≤ j) ∧ Q .non H
theorem G_check_number (T : Top K mg) : FnOk P w K mg base CX0 3 T.f_check_number T.fd_check_number ["number", "low", "high"] sp_check_number := by
  refine T.F_check_number.ok sc_check_number (fun vs H Q E h => by obtain ⟨i, lo, hi, rfl, _⟩ := h; rfl) (fun cdv A outer s H vs Q E hr h => ?_)
  obtain ⟨i, lo, hi, rfl, h0, h1, q⟩ := h
  refine ⟨_, PSs.nox (pss_one (ps_if (pt_not (pt_val (pe_call (G_is_between T) (hr.mono (by decide)) (by rfl) T.g_is_between T.F_is_between.kp T.b_is_between .nil pass0 (pa_cons (pv 0) (pa_cons (pv 1) (pa_cons (pv 2) pa_nil))))))
    (pss_one ps_never)
    pss_nil)), ?_⟩
  refine ⟨_, rfl, _, rfl, _, rfl, i, lo, hi, rfl, _, rfl, ?_⟩
  rw [decide_eq_true ⟨h0, h1⟩]
  exact iteF q
def sp_check_folds (K : PySem.W.Frag) : Sp := fun vs H Q _ => ∃ (a : Addr) (ns : List Int), vs = [.ref a] ∧ SqL K H a (ns.map V.int) ∧ (∃ u, Rd H a u ∧ ∃ xs, u = .lst xs) ∧ (∀ n ∈ ns, 0 ≤ n) ∧ ns.length < sizeLine ∧ ∀ H', Same H H' → Q .non H'
theorem rd_ty {H : Hp} {a : Addr} {u : HO} {xs : List V} (h : Rd H a u) (e : u = .lst xs) : TyX K H (.ref a) (.type "list") := by
  subst e
  rcases h with h | ⟨o, h⟩
  · exact .base (.lst h)
  · exact .base (.frz h)
theorem G_check_folds (T : Top K mg) : FnOk P w K mg base CX0 3 T.f_check_folds T.fd_check_folds ["folds"] (sp_check_folds K) := by
  refine T.F_check_folds.ok sc_check_folds (fun vs H Q E h => by obtain ⟨a, ns, rfl, _⟩ := h; rfl) (fun cdv A outer s H vs Q E hr h => ?_)
  obtain ⟨a, ns, rfl, hS, ⟨u, hu, xs, eu⟩, nn, hz, q⟩ := h
  refine ⟨_, PSs.nox (pss_one (ps_if (PW.pt (pw_or (pt_not (pt_val (pe_callB (k_isi K rfl) (by rfl) T.n_isinstance (by decide +kernel) (pa_cons (pv 0) (pa_cons (pe_bltn (v := .ty "list") (by rfl) T.n_list (by decide +kernel) rfl) pa_nil))))) (pw_or1 (pt_cmpR (k_neD K rfl hr.units) (pe_lc (own := [("unit", 1)]) (g := gName 1) (by rfl) sc_check_folds.nd (k_piL K rfl (pv 0)) (blkOk_by (own := [("unit", 1)]) (N := N_check_folds) (sc := defScope s_check_folds) (by decide +kernel)) (fun _ _ _ _ _ => (pg_name (i := 1) sc_check_folds.nd rfl (by first | exact Or.inl rfl | exact Or.inr rfl))) (fun _ _ _ _ _ => (pts_one (pt_not (pt_val (pe_call (G_is_between T) (hr.mono (by decide)) (by rfl) T.g_is_between T.F_is_between.kp T.b_is_between .nil pass0 (pa_cons (pv 1) (pa_cons pe_int (pa_cons pe_non pa_nil)))))))) (fun _ _ _ _ _ => (pv 1))) (pe_lst pa_nil) (nomark _)))))
    (pss_one ps_never)
    pss_nil)), ?_⟩
  refine ⟨_, rfl, _, _, _, _, true, rfl, .ty _, rd_ty hu eu, kit_ty (by decide +kernel), true, rfl, iteF ?_⟩
  refine ⟨_, rfl, a, rfl, ⟨_, hS⟩, fun D nD => ?_⟩
  refine lc_selL (K := K) (xs := ns.map V.int) (ns.map fun _ => none) nD hS (by rw [List.length_map, List.length_map]) (by rw [List.length_map]; exact hz) (fun x => rfl) ?_ ?_
  · intro i x o H' hx ho s Qt qt
    obtain ⟨n, hn, rfl⟩ : ∃ n, ns[i]? = some n ∧ V.int n = x := by
      rw [List.getElem?_map] at hx
      exact Option.map_eq_some_iff.mp hx
    obtain ⟨_, _, rfl⟩ : ∃ n, ns[i]? = some n ∧ none = o := by
      rw [List.getElem?_map] at ho
      exact Option.map_eq_some_iff.mp ho
    have h0 := nn n (List.mem_of_getElem? hn)
    refine ⟨_, rfl, n, 0, none, rfl, _, rfl, ?_⟩
    rw [decide_eq_true ⟨h0, fun j h => nomatch h⟩]
    exact iteF (qt _ (Same.refl _))
  · intro H' s hD
    have e0 : (ns.map fun _ => (none : Option V)).filterMap id = [] := by
      induction ns with
      | nil => rfl
      | cons n r ih => simp
    rw [e0] at hD
    refine ⟨Nat.zero_le _, fun p np => ?_⟩
    have hD' : (upd H' p (.lst [])) D = some (.lst []) := same_upd np _ _ hD
    refine ⟨.list [], .list [], .lst (.inl (.inl hD')) .nil, .lst (.inl (.inl upd_same)) .nil, by decide +kernel, by decide +kernel, _, rfl, iteF ?_⟩
    exact q _ (s.trans (same_upd np))
/-! ### raw_price, price -/
def sp_raw_price (K : PySem.W.Frag) : Sp := fun vs H Q _ => ∃ (a : Addr) (ns : List Int) (i : Nat), vs = [.ref a, .int i] ∧ SqL K H a (ns.map V.int) ∧ ns.length ≤ 1000 ∧ ∀ H', Same H H' → Q (.int (price ns i)) H'
theorem G_raw_price (T : Top K mg) : FnOk P w K mg base CX0 1 T.f_raw_price T.fd_raw_price ["folds", "width"] (sp_raw_price K) := by
  refine T.F_raw_price.ok sc_raw_price (fun vs H Q E h => by obtain ⟨a, ns, i, rfl, _⟩ := h; rfl) (fun cdv A outer s H vs Q E hr h => ?_)
  obtain ⟨a, ns, i, rfl, hS, hl, q⟩ := h
  refine ⟨_, PSs.nox (pss_one (ps_ret (pe_op op_add (pe_op op_mul (pe_callB (k_len K rfl) (by rfl) T.n_len (by decide +kernel) (pa_cons (pv 0) pa_nil)) (pe_op op_add (pv 1) pe_int)) (pe_callB (k_sum K rfl rfl) (by rfl) T.n_sum (by decide +kernel) (pa_cons (pe_lc (own := [("unit", 2)]) (g := gName 2) (tt := tYes) (by rfl) sc_raw_price.nd (k_piL K rfl (pv 0)) (blkOk_by (own := [("unit", 2)]) (N := N_raw_price) (sc := defScope s_raw_price) (by decide +kernel)) (fun _ _ _ _ _ => (pg_name (i := 2) sc_raw_price.nd rfl (by first | exact Or.inl rfl | exact Or.inr rfl))) (fun _ _ _ _ _ => pts_nil) (fun _ _ _ _ _ => (pe_op op_shr (pv 2) (pv 1)))) pa_nil))))), ?_⟩
  have hlen : (ns.map V.int).length = ns.length := List.length_map ..
  refine ⟨_, rfl, a, _, rfl, .inl hS, _, rfl, _, _, rfl, rfl, _, _, rfl, rfl, .inl ⟨by rw [hlen]; omega, by rw [hlen]; omega⟩, ?_⟩
  refine ⟨_, rfl, a, rfl, ⟨_, hS⟩, fun D nD => ?_⟩
  refine lc_mapL (K := K) (xs := ns.map V.int) ((ns.map fun n => n / 2 ^ i).map V.int) nD hS (by simp) (by rw [hlen]; exact small1000 hl) (fun x => rfl) ?_ ?_
  · intro k x y H' hx hy s Qt qt
    obtain ⟨n, hn, rfl⟩ := int_at hx
    rw [List.getElem?_map, List.getElem?_map, hn] at hy
    cases hy
    exact ⟨_, rfl, _, rfl, _, _, rfl, rfl, Int.natCast_nonneg _, qt _ (Same.refl _)⟩
  · intro H' s hD
    refine ⟨D, _, rfl, .inl (.inl hD), _, _, rfl, rfl, ?_⟩
    show Q (.int ((((ns.map V.int).length : Nat) : Int) * ((i : Int) + 1) + (ns.map fun n => n / 2 ^ i).sum)) H'
    rw [hlen, price_raw]
    exact q _ s
/-- folds that the program may be asked -/
def FoldsAt (K : PySem.W.Frag) (H : Hp) (a : Addr) (ns : List Int) : Prop := Rd H a (.lst (ns.map V.int)) ∧ Folds ns ∧ ns.length ≤ 1000
theorem FoldsAt.sq {K : PySem.W.Frag} {H : Hp} {a : Addr} {ns : List Int} (h : FoldsAt K H a ns) : SqL K H a (ns.map V.int) := .inl h.1
theorem FoldsAt.same {K : PySem.W.Frag} {H H' : Hp} {a : Addr} {ns : List Int} (h : FoldsAt K H a ns) (s : Same H H') : FoldsAt K H' a ns := by
  obtain ⟨r, z⟩ := h
  refine ⟨?_, z⟩
  rcases r with r | ⟨o, r⟩
  · exact .inl (s _ _ r)
  · exact .inr ⟨o, s _ _ r⟩
/-! ### told_least, least_width -/
/-- the told tuple -/
def LeastV (ns : List Int) (xs : List V) : Prop := (ns = [] ∧ xs = [.int 0, .int 0, .non]) ∨ (ns ≠ [] ∧ ∃ (m : Int) (f l : Nat), IsLeast ns m f l ∧ xs = [.int m, .int f, .int l])
def sp_told_least (K : PySem.W.Frag) : Sp := fun vs H Q _ => ∃ (a : Addr) (ns : List Int), vs = [.ref a] ∧ FoldsAt K H a ns ∧ ∀ H' p xs, Same H H' → H' p = some (.tup xs) → LeastV ns xs → Q (.ref p) H'
theorem G_told_least (T : Top K mg) : FnOk P w K mg base CX0 2 T.f_told_least T.fd_told_least ["folds"] (sp_told_least K) := by
  refine T.F_told_least.ok sc_told_least (fun vs H Q E h => by obtain ⟨a, ns, rfl, _⟩ := h; rfl) (fun cdv A outer s H vs Q E hr h => ?_)
  obtain ⟨a, ns, rfl, hA, q⟩ := h
  refine ⟨_, PSs.nox (pss_cons (ps_if (pt_cmpR (k_eqD K rfl hr.units) (pv 0) (pe_lst pa_nil) (nomark _))
    (pss_one (ps_ret (pe_tup (pa_cons pe_int (pa_cons pe_int (pa_cons pe_non pa_nil))))))
    pss_nil)
  (pss_cons (ps_set (i := 1) sc_told_least.nd rfl (by first | exact Or.inl rfl | exact Or.inr rfl) pe_int)
  (pss_cons (ps_while PassesOwn.never (pt_cmpR op_gt (pe_callB (k_sum K rfl rfl) (by rfl) T.n_sum (by decide +kernel) (pa_cons (pe_lc (own := [("unit", 4)]) (g := gName 4) (tt := tYes) (by rfl) sc_told_least.nd (k_piL K rfl (pv 0)) (blkOk_by (own := [("unit", 4)]) (N := N_told_least) (sc := defScope s_told_least) (by decide +kernel)) (fun _ _ _ _ _ => (pg_name (i := 4) sc_told_least.nd rfl (by first | exact Or.inl rfl | exact Or.inr rfl))) (fun _ _ _ _ _ => pts_nil) (fun _ _ _ _ _ => (pe_op op_shr (pe_op op_add (pv 4) (pe_op op_shl pe_int (pv 1))) (pe_op op_add (pv 1) pe_int)))) pa_nil)) (pe_callB (k_len K rfl) (by rfl) T.n_len (by decide +kernel) (pa_cons (pv 0) pa_nil)) (nomark _))
    (pss_one (ps_set (i := 1) sc_told_least.nd rfl (by first | exact Or.inl rfl | exact Or.inr rfl) (pe_op op_add (pv 1) pe_int))))
  (pss_cons (ps_par (by rfl) sc_told_least.nd (i := 2) (j := 3) rfl rfl (by decide) rfl rfl (pa_cons (pv 1) (pa_cons (pe_call (G_raw_price T) (hr.mono (by decide)) (by rfl) T.g_raw_price T.F_raw_price.kp T.b_raw_price .nil pass0 (pa_cons (pv 0) (pa_cons (pv 1) pa_nil))) pa_nil)) (by rfl))
  (pss_cons (ps_while PassesOwn.never (pt_cmpR op_eq (pe_call (G_raw_price T) (hr.mono (by decide)) (by rfl) T.g_raw_price T.F_raw_price.kp T.b_raw_price .nil pass0 (pa_cons (pv 0) (pa_cons (pe_op op_add (pv 2) pe_int) pa_nil))) (pv 3) (nomark _))
    (pss_one (ps_set (i := 2) sc_told_least.nd rfl (by first | exact Or.inl rfl | exact Or.inr rfl) (pe_op op_add (pv 2) pe_int))))
  (pss_one (ps_ret (pe_tup (pa_cons (pv 3) (pa_cons (pv 1) (pa_cons (pv 2) pa_nil))))))))))), ?_⟩
  have hlen : (ns.map V.int).length = ns.length := List.length_map ..
  -- folds == []
  refine ⟨_, rfl, Nat.zero_le _, fun p np => ?_⟩
  have s1 : Same H (upd H p (.lst [])) := same_upd np
  generalize hH1 : upd H p (.lst []) = H1 at s1
  have hp : H1 p = some (.lst []) := by rw [← hH1]; exact upd_same
  refine ⟨.list (ns.map PyData.int), .list [], .lst (s1.seq hA.sq) (dp_ints ns), .lst (.inl (.inl hp)) .nil, ?_, by decide +kernel, _, rfl, ?_⟩
  · exact shaped_ints ns
  have eE : PyData.eqv (.list (ns.map PyData.int)) (.list []) = decide (ns = []) := by
    rw [PyData.eqv]
    exact eqv_ints ns []
  rw [eE]
  refine ite2 (fun e => ?_) (fun e => ?_)
  · have e0 : ns = [] := of_decide_eq_true e
    refine ⟨by decide, fun t nt => ?_⟩
    exact q _ t _ (s1.trans (same_upd nt)) upd_same (.inl ⟨e0, rfl⟩)
  · have ne : ns ≠ [] := fun z => e (decide_eq_true z)
    have hpos : 0 < ns.length := by cases ns with | nil => exact absurd rfl ne | cons _ _ => simp
    have hF := hA.2.1
    have c40 := cc_40 ns hF
    -- while: first
    refine ⟨fun m σ H2 => ∃ f : Nat, σ = [some (.ref a), some (.int f), none, none, none] ∧ m + f = 40 ∧ Same H H2 ∧ ∀ u, u < f → (ns.length : Int) < cc ns u, ⟨40, 0, rfl, rfl, s1, fun u hu => absurd hu (by omega)⟩, ?_⟩
    rintro m σ H2 ⟨f, rfl, hm, s2, hlo⟩
    have hA2 := hA.same s2
    refine ⟨_, rfl, a, rfl, ⟨_, hA2.sq⟩, fun D nD => ?_⟩
    refine lc_mapL (K := K) (xs := ns.map V.int) ((ns.map fun n => (n + 2 ^ f) / 2 ^ (f + 1)).map V.int) nD hA2.sq (by simp) (by rw [hlen]; exact small1000 hA.2.2) (fun x => rfl) ?_ ?_
    · intro k x y H' hx hy s Qt qt
      obtain ⟨n, hn, rfl⟩ := int_at hx
      rw [List.getElem?_map, List.getElem?_map, hn] at hy
      cases hy
      refine ⟨_, rfl, _, rfl, _, _, rfl, rfl, ⟨Int.natCast_nonneg _, by omega, by decide⟩, _, _, rfl, rfl, _, rfl, _, _, rfl, rfl, _, _, rfl, rfl, by omega, ?_⟩
      have e1 : V.int ((n + 1 * 2 ^ ((f : Int)).toNat) / 2 ^ ((f : Int) + 1).toNat) = V.int ((n + 2 ^ f) / 2 ^ (f + 1)) := by
        rw [show ((f : Int) + 1).toNat = f + 1 by omega, Int.toNat_natCast, Int.one_mul]
      show Qt (V.int ((n + 1 * 2 ^ ((f : Int)).toNat) / 2 ^ ((f : Int) + 1).toNat)) H'
      rw [e1]
      exact qt _ (Same.refl _)
    · intro H3 s3 hD
      refine ⟨D, _, rfl, .inl (.inl hD), _, rfl, a, _, rfl, .inl (s3.seq hA2.sq), _, _, rfl, rfl, _, rfl, ?_⟩
      rw [hlen]
      refine ite2 (fun c => ?_) (fun c => ?_)
      · have c1 : cc ns f > ns.length := of_decide_eq_true c
        have hf : f < 40 := by
          by_cases h : f < 40
          · exact h
          · have : f = 40 := by omega
            subst this
            omega
        refine ⟨fun σ' H' => ∃ f' : Nat, σ' = [some (.ref a), some (.int f'), none, none, none] ∧ f' = f + 1 ∧ Same H H', fun σ' H' ⟨f', e1, e2, e3⟩ => ⟨m - 1, by omega, f', e1, by omega, e3, fun u hu => ?_⟩, ?_⟩
        · by_cases h : u < f
          · exact hlo u h
          · have : u = f := by omega
            subst this
            exact c1
        · refine ⟨_, rfl, _, _, rfl, rfl, f + 1, ?_, rfl, s2.trans s3⟩
          show [some (V.ref a), some (.int ((f : Int) + 1)), none, none, none] = _
          rw [show ((f + 1 : Nat) : Int) = (f : Int) + 1 by omega]
      · have c1 : cc ns f ≤ ns.length := by
          have : ¬ cc ns f > ns.length := fun h => c (decide_eq_true h)
          omega
        have s4 := s2.trans s3
        have hA4 := hA.same s4
        -- last, least = first, raw_price(folds, first)
        refine ⟨_, rfl, _, rfl, _, rfl, a, ns, f, rfl, hA4.sq, hA.2.2, fun H5 s5 => ?_⟩
        refine ⟨_, _, rfl, ?_⟩
        -- while: last
        refine ⟨fun m σ H2 => ∃ l : Nat, σ = [some (.ref a), some (.int f), some (.int l), some (.int (price ns f)), none] ∧ m + l = 41 ∧ f ≤ l ∧ Same H H2 ∧ ∀ u, f ≤ u → u ≤ l → price ns u = price ns f, ⟨41 - f, f, rfl, by omega, Nat.le_refl _, s4.trans s5, fun u h1 h2 => by rw [show u = f by omega]⟩, ?_⟩
        rintro m σ H6 ⟨l, rfl, hm, hfl, s6, hat⟩
        refine ⟨_, rfl, _, rfl, _, _, rfl, rfl, a, ns, l + 1, rfl, (hA.same s6).sq, hA.2.2, fun H7 s7 => ?_⟩
        refine ⟨_, rfl, rfl, _, rfl, ite2 (fun c => ?_) (fun c => ?_)⟩
        · have c2 : price ns (l + 1) = price ns f := V.int.inj (of_decide_eq_true c)
          have hl : l < 41 := by
            by_cases h : l < 41
            · exact h
            · have : l = 41 := by omega
              subst this
              have e := price_step ns 41
              have h1 : cc ns 41 ≤ cc ns 40 := cc_le ns hF.nn 40 1
              have h2 := hat 41 hfl (Nat.le_refl _)
              omega
          refine ⟨fun σ' H' => ∃ l' : Nat, σ' = [some (.ref a), some (.int f), some (.int l'), some (.int (price ns f)), none] ∧ l' = l + 1 ∧ Same H H', fun σ' H' ⟨l', e1, e2, e3⟩ => ⟨m - 1, by omega, l', e1, by omega, by omega, e3, fun u h1 h2 => ?_⟩, ?_⟩
          · by_cases h : u ≤ l
            · exact hat u h1 h
            · rw [show u = l + 1 by omega]
              exact c2
          · refine ⟨_, rfl, _, _, rfl, rfl, l + 1, ?_, rfl, s6.trans s7⟩
            show [some (V.ref a), some (.int f), some (.int ((l : Int) + 1)), some (.int (price ns f)), none] = _
            rw [show ((l + 1 : Nat) : Int) = (l : Int) + 1 by omega]
        · have c2 : price ns (l + 1) ≠ price ns f := fun z => c (decide_eq_true (congrArg V.int z))
          refine ⟨_, rfl, _, rfl, _, rfl, (show 3 ≤ sizeLine by decide), fun t nt => ?_⟩
          exact q _ t _ ((s6.trans s7).trans (same_upd nt)) upd_same (.inr ⟨ne, _, f, l, My.told_least ns hF ne f l c1 hlo hfl hat c2, rfl⟩)
end
end My

namespace My
open PySem PySem.Spec PyProof.Rows L2 Pre
theorem at_ints {l : List Int} {k : Nat} (h : k < l.length) : atI (l.map V.int) (k : Int) = some (.int (l.getD k 0)) := by
  refine at_of (j := k) (by omega) ?_
  rw [List.getElem?_map, List.getElem?_eq_getElem h, List.getD_eq_getElem?_getD, List.getElem?_eq_getElem h]
  rfl
section
variable {P : Program} {w : World} {K : PySem.W.Frag} {mg : Str → Option Value} {base : Heap}
def sp_law_price (K : PySem.W.Frag) : Sp := fun vs H Q _ => ∃ (a : Addr) (ns : List Int) (v : Nat), vs = [.ref a, .int v] ∧ SqL K H a (ns.map V.int) ∧ v ≤ 200 ∧ Q (.int (price ns v)) H
theorem G_law_price (T : Top K mg) : FnOk P w K mg base CX0 1 T.f_law_price T.fd_law_price ["_law_folds", "_law_width"] (sp_law_price K) := by
  refine T.F_law_price.ok sc_law_price (fun vs H Q E h => by obtain ⟨a, ns, v, rfl, _⟩ := h; rfl) (fun cdv A outer s H vs Q E hr h => ?_)
  obtain ⟨a, ns, v, rfl, hA, hv, q⟩ := h
  refine ⟨_, PSs.nox (pss_cons (ps_set (i := 2) sc_law_price.nd rfl (by first | exact Or.inl rfl | exact Or.inr rfl) pe_int)
  (pss_cons (ps_for PassesOwn.never rfl (k_piL K rfl (pv 0)) (pg_name (i := 3) sc_law_price.nd rfl (by first | exact Or.inl rfl | exact Or.inr rfl))
    (pss_one (ps_set (i := 2) sc_law_price.nd rfl (by first | exact Or.inl rfl | exact Or.inr rfl) (pe_op op_add (pe_op op_add (pe_op op_add (pv 2) (pe_op op_fdivW (pv 3) (pe_op op_shl pe_int (pv 1)))) pe_int) (pv 1)))))
  (pss_one (ps_ret (pv 2))))), ?_⟩
  refine ⟨_, rfl, a, rfl, ⟨_, hA⟩, for_list (K := K) (a := a) (xs := ns.map V.int) (fun i σ H1 => ∃ v3, σ = [some (.ref a), some (.int v), some (.int (price (ns.take i) v)), v3] ∧ H1 = H) ⟨none, rfl, rfl⟩ (fun i σ H1 _ ⟨_, _, e⟩ => by rw [e]; exact hA) ?_ ?_⟩
  · rintro i x σ H1 hx ⟨v3, rfl, rfl⟩
    obtain ⟨n, hn, rfl⟩ := int_at hx
    have hp := pow_pos' v
    have hp2 : (2 : Int) ^ v ≤ 2 ^ 200 := pow2_le hv
    refine ⟨_, rfl, _, rfl, _, rfl, _, _, rfl, rfl, ⟨by omega, by omega, by decide⟩, _, _, rfl, rfl, ?_, ?_⟩
    · show CDivW n (1 * 2 ^ ((v : Int)).toNat)
      rw [Int.one_mul, Int.toNat_natCast]
      exact wide_div (b := 201) hp (by omega) (by decide) (by decide)
    dsimp only
    rw [Int.one_mul, Int.toNat_natCast]
    refine ⟨_, _, rfl, rfl, _, _, rfl, rfl, _, rfl, _, _, rfl, rfl, some (.int n), ?_, rfl⟩
    rw [price_take ns v hn]
    rfl
  · rintro σ H1 ⟨v3, rfl, rfl⟩
    rw [List.length_map, List.take_length]
    exact ⟨_, rfl, q⟩
end
end My

namespace My
open PySem PySem.Spec PyProof.Rows L2 Pre
/-! ### all rows of so many numbers below t -/
def rowsD (rows : List (List Int)) : PyData := .list (rows.map rowD)
def moreK (t : Nat) (r : List Int) : List (List Int) := (List.range t).map fun (o : Nat) => r ++ [(o : Int)]
def belowK : Nat → Nat → List (List Int)
  | 0, _ => [[]]
  | m + 1, t => (belowK m t).flatMap (moreK t)
theorem below_mem : ∀ (m t : Nat) (r : List Int), r ∈ belowK m t ↔ r.length = m ∧ ∀ x ∈ r, 0 ≤ x ∧ x < (t : Int)
  | 0, t, r => by
    show r ∈ [[]] ↔ _
    rw [List.mem_singleton]
    constructor
    · rintro rfl; exact ⟨rfl, fun x h => nomatch h⟩
    · rintro ⟨h, _⟩; exact List.length_eq_zero_iff.mp h
  | m + 1, t, r => by
    show r ∈ (belowK m t).flatMap (moreK t) ↔ _
    rw [List.mem_flatMap]
    constructor
    · rintro ⟨q, hq, hr⟩
      obtain ⟨o, ho, rfl⟩ := List.mem_map.mp hr
      obtain ⟨h1, h2⟩ := (below_mem m t q).mp hq
      refine ⟨by rw [List.length_append, h1]; rfl, fun x hx => ?_⟩
      rcases List.mem_append.mp hx with hx | hx
      · exact h2 x hx
      · rw [List.mem_singleton.mp hx]
        have := List.mem_range.mp ho
        omega
    · rintro ⟨h1, h2⟩
      have hne : r ≠ [] := fun z => by rw [z] at h1; cases h1
      refine ⟨r.dropLast, (below_mem m t _).mpr ⟨by rw [List.length_dropLast, h1]; rfl, fun x hx => h2 x (List.dropLast_subset r hx)⟩, List.mem_map.mpr ⟨(r.getLast hne).toNat, ?_, ?_⟩⟩
      · have := h2 _ (List.getLast_mem hne)
        exact List.mem_range.mpr (by omega)
      · have := h2 _ (List.getLast_mem hne)
        rw [Int.toNat_of_nonneg this.1]
        exact List.dropLast_concat_getLast hne
theorem flatm_len {α β : Type} (f : α → List β) (c : Nat) : ∀ l : List α, (∀ x ∈ l, (f x).length = c) → (l.flatMap f).length = l.length * c
  | [], _ => by simp
  | x :: l, h => by
    rw [List.flatMap_cons, List.length_append, h x List.mem_cons_self, flatm_len f c l fun y hy => h y (List.mem_cons_of_mem _ hy), List.length_cons, Nat.succ_mul]
    omega
theorem below_len : ∀ m t : Nat, (belowK m t).length = t ^ m
  | 0, _ => rfl
  | m + 1, t => by
    show ((belowK m t).flatMap (moreK t)).length = _
    rw [flatm_len (moreK t) t _ (fun r _ => by unfold moreK; rw [List.length_map, List.length_range]), below_len m t, Nat.pow_succ]
theorem flat_nextR {α β : Type} (f : α → List β) (l : List α) (i : Nat) (x : α) (h : l[i]? = some x) : (l.take (i + 1)).flatMap f = (l.take i).flatMap f ++ f x := by
  rw [List.take_add_one, h, List.flatMap_append]
  simp
theorem flat_take_len {α β : Type} (f : α → List β) (l : List α) (i : Nat) : ((l.take i).flatMap f).length ≤ (l.flatMap f).length := by
  have h : l.flatMap f = (l.take i).flatMap f ++ (l.drop i).flatMap f := by rw [← List.flatMap_append, List.take_append_drop]
  rw [h, List.length_append]
  omega
local macro_rules | `(tactic| walk_at "go") => `(tactic| repeat (first | (with_reducible first | refine iteT ?_ | refine iteF ?_ | refine iteNtt ?_ | refine iteNff ?_ | refine iteET (by omega) ?_ | refine iteEF (by omega) ?_ | refine iteENT (by omega) ?_ | refine iteENF (by omega) ?_ | refine iteDT (by omega) ?_ | refine iteDF (by omega) ?_ | refine iteNT (by omega) ?_ | refine iteNF (by omega) ?_) | refine ⟨_, rfl, ?_⟩ | refine ⟨_, _, rfl, rfl, ?_⟩ | refine ⟨_, _, rfl, ?_⟩ | refine ⟨rfl, ?_⟩ | refine .inl ⟨_, rfl, ?_⟩ | refine .inr ⟨_, rfl, ?_⟩))
local macro_rules | `(tactic| walk_at "b") => `(tactic| try dsimp (config := { proj := false, iota := false, eta := false, zeta := false }) only)
section
variable {P : Program} {w : World} {K : PySem.W.Frag} {mg : Str → Option Value} {base : Heap}
def sp_law_below : Sp := fun vs H Q _ => ∃ (S : List Addr) (m t : Nat), vs = [.int m, .int t] ∧ Has S H ∧ m ≤ 100 ∧ t ≤ 1000 ∧ (∀ i, i ≤ m → t ^ i ≤ 5000) ∧ ∀ H' p, Same H H' → H p = none → Dt (rs S H') (.ref p) (rowsD (belowK m t)) → Q (.ref p) H'
theorem G_law_below (T : Top K mg) : FnOk P w K mg base CX0 1 T.f_law_below T.fd_law_below ["_law_many", "_law_top"] sp_law_below := by
  refine T.F_law_below.ok sc_law_below (fun vs H Q E h => by obtain ⟨S, m, t, rfl, _⟩ := h; rfl) (fun cdv A outer s H vs Q E hr h => ?_)
  obtain ⟨S, m, t, rfl, hS, hm, ht, hb, q⟩ := h
  refine ⟨_, PSs.nox (pss_cons (ps_set (i := 2) sc_law_below.nd rfl (by first | exact Or.inl rfl | exact Or.inr rfl) (pe_lst (pa_cons (pe_lst pa_nil) pa_nil)))
  (pss_cons (ps_for PassesOwn.never rfl (pi_range1 (by rfl) T.n_range (pa_cons (pv 0) pa_nil)) (pg_name (i := 3) sc_law_below.nd rfl (by first | exact Or.inl rfl | exact Or.inr rfl))
    (pss_cons (ps_set (i := 4) sc_law_below.nd rfl (by first | exact Or.inl rfl | exact Or.inr rfl) (pe_lst pa_nil))
  (pss_cons (ps_for PassesOwn.never rfl (k_piL K rfl (pv 2)) (pg_name (i := 5) sc_law_below.nd rfl (by first | exact Or.inl rfl | exact Or.inr rfl))
    (pss_one (ps_set (i := 4) sc_law_below.nd rfl (by first | exact Or.inl rfl | exact Or.inr rfl) (pe_op op_cat (pv 4) (pe_lc (own := [("_law_one", 6)]) (g := gName 6) (tt := tYes) (by rfl) sc_law_below.nd (pi_range1 (by rfl) T.n_range (pa_cons (pv 1) pa_nil)) (blkOk_by (own := [("_law_one", 6)]) (N := N_law_below) (sc := defScope s_law_below) (by decide +kernel)) (fun _ _ _ _ _ => (pg_name (i := 6) sc_law_below.nd rfl (by first | exact Or.inl rfl | exact Or.inr rfl))) (fun _ _ _ _ _ => pts_nil) (fun _ _ _ _ _ => (pe_op op_cat (pv 5) (pe_lst (pa_cons (pv 6) pa_nil)))))))))
  (pss_one (ps_set (i := 2) sc_law_below.nd rfl (by first | exact Or.inl rfl | exact Or.inr rfl) (pv 4))))))
  (pss_one (ps_ret (pv 2))))), ?_⟩
  refine ⟨Nat.zero_le _, fun c nc => ?_⟩
  have d0 := dt_new hS nc (xs := []) (ds := []) .nil
  have s0 := same_upd (o := .lst []) nc
  generalize upd H c (.lst []) = H1 at d0 s0
  refine ⟨(show 1 ≤ sizeLine by decide), fun f nf => ?_⟩
  have hS1 := hS.same s0
  have d1 := dt_new hS1 nf (xs := [.ref c]) (ds := [rowD []]) (.cons d0 .nil)
  have s1 := same_upd (o := .lst [.ref c]) nf
  generalize upd H1 f (.lst [.ref c]) = H2 at d1 s1
  walk_at "go"
  refine ⟨by omega, by omega, ?_⟩
  rw [Int.toNat_natCast]
  refine for_range (lo := 0) (n := m) (fun i σ H3 => ∃ (p : Addr) (v3 v4 v5 v6 : Option V), σ = [some (.int m), some (.int t), some (.ref p), v3, v4, v5, v6] ∧ Same H H3 ∧ H p = none ∧ Dt (rs S H3) (.ref p) (rowsD (belowK i t))) ⟨f, none, none, none, none, rfl, s0.trans s1, s0.free nf, d1⟩ ?_ ?_
  · rintro i σ H3 hi ⟨p, v3, v4, v5, v6, rfl, s3, np, d3⟩
    refine ⟨Nat.zero_le _, fun g ng => ?_⟩
    have hS3 := hS.same s3
    have d4 := dt_new hS3 ng (xs := []) (ds := []) .nil
    have s4 := same_upd (o := .lst []) ng
    generalize upd H3 g (.lst []) = H4 at d4 s4
    walk_at "go"
    obtain ⟨p', xs, e, hp, hx⟩ := d3.listE
    cases e
    have hxl := hx.len
    rw [List.length_map, below_len] at hxl
    have hti := hb i (by omega)
    have hti1 := hb (i + 1) (by omega)
    rw [← below_len] at hti1
    refine ⟨⟨_, .inl (.inl (s4 _ _ (rs_le _ _ hp)))⟩, for_list (K := K) (a := p) (xs := xs) (fun k σ H5 => ∃ (g' : Addr) (v3 v5 v6 : Option V), σ = [some (.int m), some (.int t), some (.ref p), v3, some (.ref g'), v5, v6] ∧ Same H3 H5 ∧ H3 g' = none ∧ Dt (rs S H5) (.ref g') (rowsD (((belowK i t).take k).flatMap (moreK t)))) ⟨g, some (.int (0 + (i : Int))), v5, v6, rfl, s4, ng, d4⟩ (fun k σ H5 _ ⟨_, _, _, _, _, s, _⟩ => .inl (.inl (s _ _ (rs_le _ _ hp)))) ?_ ?_⟩
    · rintro k x σ H5 hxk ⟨g', v3, v5, v6, rfl, s5, ng', d5⟩
      obtain ⟨dx, hdx, hxd⟩ := hx.got hxk
      rw [List.getElem?_map] at hdx
      obtain ⟨r, hr, rfl⟩ := Option.map_eq_some_iff.mp hdx
      have hrl := ((below_mem i t r).mp (List.mem_of_getElem? hr)).1
      walk_at "go"
      refine ⟨by omega, by omega, fun D nD => ?_⟩
      rw [Int.toNat_natCast]
      have hS5 := hS3.same s5
      refine lc_dR (lo := 0) (n := t) (S := S) hS5 ((moreK t r).map fun z => some (rowD z)) nD (by unfold moreK; simp) (by rw [sizeLine_eq]; omega) (fun x => rfl) ?_ ?_
      · intro o dd H' ho hdd s' hH Qt qt
        unfold moreK at hdd
        rw [List.getElem?_map, List.getElem?_map, List.getElem?_range ho] at hdd
        cases hdd
        walk_at "go"
        refine ⟨(show 1 ≤ sizeLine by decide), fun c1 nc1 => ?_⟩
        have d6 := dt_new hH nc1 (xs := [.int (0 + (o : Int))]) (ds := [.int (0 + (o : Int))]) (.cons (.int _) .nil)
        have s6 := same_upd (o := .lst [.int (0 + (o : Int))]) nc1
        generalize upd H' c1 (.lst [.int (0 + (o : Int))]) = H6 at d6 s6
        have hxr : Dt (rs (D :: S) H6) x (rowD r) := hxd.same (fun b u hb => under (S := S) (H := H5) nD (s'.trans s6) b u (rs_same s5 b u hb))
        refine d_cat (hH.same s6) hxr d6 (by rw [List.length_map, hrl, sizeLine_eq]; show i + 1 ≤ _; omega) fun c2 H7 s7 nc2 d7 => ?_
        refine qt _ _ (s6.trans s7) ?_
        show Dt (rs (D :: S) H7) (.ref c2) (rowD (r ++ [(o : Int)]))
        rw [Int.zero_add] at d7
        unfold rowD
        rw [List.map_append]
        exact d7
      · intro H6 s6 _ d6
        rw [sel_map] at d6
        have hl1 := flat_take_len (moreK t) (belowK i t) k
        refine d_cat (hS5.same s6) (d5.same (rs_same s6)) d6 ?_ fun g2 H7 s7 ng2 d7 => ?_
        · rw [List.length_map, List.length_map, sizeLine_eq]
          have : (moreK t r).length = t := by unfold moreK; rw [List.length_map, List.length_range]
          have e2 : ((belowK i t).flatMap (moreK t)).length ≤ 5000 := hti1
          omega
        · refine ⟨g2, v3, some x, v6, rfl, (s5.trans s6).trans s7, (s5.trans s6).free ng2, ?_⟩
          unfold rowsD
          rw [flat_nextR _ _ _ r hr, List.map_append]
          exact d7
    · rintro σ H5 ⟨g', v3, v5, v6, rfl, s5, ng', d5⟩
      walk_at "go"
      refine ⟨g', v3, some (.ref g'), v5, v6, rfl, s3.trans s5, s3.free ng', ?_⟩
      rw [hxl, ← below_len, List.take_length] at d5
      exact d5
  · rintro σ H3 ⟨p, v3, v4, v5, v6, rfl, s3, np, d3⟩
    walk_at "go"
    exact q _ p s3 np d3
end
end My

namespace My
/-! ### gains -/
theorem p2_le {a b : Nat} (h : a ≤ b) : (2 : Int) ^ a ≤ 2 ^ b := pow2_le h
def gg (e : Nat) : Int := 2 ^ e - 1 - e
theorem gg_nn : ∀ e, 0 ≤ gg e
  | 0 => by decide
  | e + 1 => by
    have := gg_nn e
    unfold gg at *
    rw [Int.pow_succ]
    omega
theorem gg_up {a b : Nat} (h : a ≤ b) : gg a ≤ gg b := by
  obtain ⟨d, rfl⟩ : ∃ d, b = a + d := ⟨b - a, by omega⟩
  clear h
  induction d with
  | zero => exact Int.le_refl _
  | succ d ih =>
    have h0 := gg_nn (a + d)
    have : gg (a + d + 1) = 2 * 2 ^ (a + d) - 1 - ((a + d + 1 : Nat) : Int) := by unfold gg; rw [Int.pow_succ, Int.mul_comm]
    have hp := pow_pos' (a + d)
    show gg a ≤ gg (a + d + 1)
    rw [this]
    unfold gg at *
    omega
def gI (low high : Int) (bits w : Nat) : Int := low * w + high * (2 ^ (bits - w) - 1 - bits + w)
theorem gI_gg (low high : Int) {bits w : Nat} (h : w ≤ bits) : gI low high bits w = low * w + high * gg (bits - w) := by
  unfold gI gg
  congr 2
  omega
def og (low high : Int) (bits : Nat) : Int := minI ((List.range (bits + 1)).map fun (w : Nat) => gI low high bits w)
theorem minI_mem {l : List Int} (h : l ≠ []) : minI l ∈ l ∧ ∀ y ∈ l, minI l ≤ y := by
  cases l with
  | nil => exact absurd rfl h
  | cons x xs => exact fold_min xs x
theorem maxI_mem {l : List Int} (h : l ≠ []) : maxI l ∈ l ∧ ∀ y ∈ l, y ≤ maxI l := by
  cases l with
  | nil => exact absurd rfl h
  | cons x xs => exact fold_max xs x
theorem rng_ne {α : Type} (n : Nat) (f : Nat → α) : (List.range (n + 1)).map f ≠ [] := fun z => by
  have := congrArg List.length z
  simp at this
theorem og_le (low high : Int) {bits w : Nat} (h : w ≤ bits) : og low high bits ≤ gI low high bits w :=
  (minI_mem (rng_ne bits _)).2 _ (List.mem_map.mpr ⟨w, List.mem_range.mpr (by omega), rfl⟩)
theorem og_at (low high : Int) (bits : Nat) : ∃ w, w ≤ bits ∧ og low high bits = gI low high bits w := by
  obtain ⟨w, hw, e⟩ := List.mem_map.mp (minI_mem (rng_ne bits fun (w : Nat) => gI low high bits w)).1
  exact ⟨w, by have := List.mem_range.mp hw; omega, e.symm⟩
theorem og_nn {low high : Int} (h1 : 0 ≤ low) (h2 : 0 ≤ high) (bits : Nat) : 0 ≤ og low high bits := by
  obtain ⟨w, hw, e⟩ := og_at low high bits
  rw [e, gI_gg _ _ hw]
  have a := Int.mul_nonneg h1 (Int.natCast_nonneg w)
  have b := Int.mul_nonneg h2 (gg_nn (bits - w))
  omega
/-- the least price, as the law finds it -/
def leastP (ns : List Int) : Int := minI ((List.range 42).map fun (w : Nat) => price ns w)
theorem leastP_le (ns : List Int) {w : Nat} (h : w < 42) : leastP ns ≤ price ns w :=
  (minI_mem (rng_ne 41 _)).2 _ (List.mem_map.mpr ⟨w, List.mem_range.mpr h, rfl⟩)
theorem leastP_at (ns : List Int) : ∃ w, w < 42 ∧ leastP ns = price ns w := by
  obtain ⟨w, hw, e⟩ := List.mem_map.mp (minI_mem (rng_ne 41 fun (w : Nat) => price ns w)).1
  exact ⟨w, List.mem_range.mp hw, e.symm⟩
theorem leastP_nil : leastP [] = 0 := by decide
theorem leastP_is {ns : List Int} {m : Int} {f l : Nat} (h : IsLeast ns m f l) : leastP ns = m := by
  obtain ⟨w, hw, e⟩ := leastP_at ns
  have a := h.le w
  have b := leastP_le ns (w := f) (by have := h.fl; have := h.l40; omega)
  rw [h.at_ f (Nat.le_refl _) h.fl] at b
  omega
def Below (b : Nat) (ns : List Int) : Prop := ∀ n ∈ ns, 0 ≤ n ∧ n < 2 ^ b
theorem price_cons (n : Int) (ns : List Int) (w : Nat) : price (n :: ns) w = n / 2 ^ w + 1 + w + price ns w := by
  unfold price
  rw [List.map_cons, List.sum_cons]
theorem price_high : ∀ {ns : List Int} {b w : Nat}, Below b ns → b ≤ w → price ns w = ns.length * (1 + (w : Int))
  | [], _, _, _, _ => by simp [price]
  | n :: ns, b, w, h, hw => by
    have ih := price_high (fun k hk => h k (List.mem_cons_of_mem _ hk)) hw
    have hn := h n List.mem_cons_self
    have := p2_le hw
    rw [price_cons, ih, Int.ediv_eq_zero_of_lt hn.1 (by omega), List.length_cons, Int.natCast_add, Int.add_mul]
    omega
theorem least_low {ns : List Int} {b : Nat} (h : Below b ns) (hb : b ≤ 30) : ∃ a, a ≤ b ∧ leastP ns = price ns a := by
  obtain ⟨w, hw, e⟩ := leastP_at ns
  by_cases c : w ≤ b
  · exact ⟨w, c, e⟩
  · refine ⟨b, Nat.le_refl _, ?_⟩
    have h1 := leastP_le ns (w := b) (by omega)
    rw [price_high h (show b ≤ w by omega)] at e
    rw [price_high h (Nat.le_refl b)] at *
    have h2 : (ns.length : Int) * (1 + (b : Int)) ≤ ns.length * (1 + (w : Int)) := Int.mul_le_mul_of_nonneg_left (by omega) (by omega)
    omega
theorem mono_sub {x y : Int} {k : Nat} (h0 : 0 ≤ x) (h : x ≤ y) : x - x / 2 ^ k ≤ y - y / 2 ^ k := by
  obtain ⟨d, hd⟩ : ∃ d : Nat, y = x + d := ⟨(y - x).toNat, by omega⟩
  subst hd
  clear h
  induction d with
  | zero => simp
  | succ d ih =>
    have hp := pow_pos' k
    have h1 : (x + ((d + 1 : Nat) : Int)) / 2 ^ k ≤ (x + (d : Int)) / 2 ^ k + 1 := by
      have e : (x + (d : Int)) / 2 ^ k + 1 = (x + (d : Int) + 2 ^ k) / 2 ^ k := by rw [Int.add_ediv_of_dvd_right (Int.dvd_refl _), Int.ediv_self (by omega)]
      rw [e]
      exact Int.ediv_le_ediv hp (by omega)
    omega
theorem ediv_pow (n : Int) (a b : Nat) : n / 2 ^ (a + b) = n / 2 ^ a / 2 ^ b := by
  rw [Int.pow_add, Int.ediv_ediv_of_nonneg (Int.le_of_lt (pow_pos' a))]
theorem top_div {e k : Nat} (h : k ≤ e) : ((2 : Int) ^ e - 1) / 2 ^ k = 2 ^ (e - k) - 1 := by
  have hk := pow_pos' k
  have e1 : (2 : Int) ^ e = 2 ^ (e - k) * 2 ^ k := by rw [← Int.pow_add]; congr 1; omega
  rw [e1, show (2 : Int) ^ (e - k) * 2 ^ k - 1 = (2 ^ k - 1) + (2 ^ (e - k) - 1) * 2 ^ k by rw [Int.sub_mul]; omega, Int.add_mul_ediv_right _ _ (by omega), Int.ediv_eq_zero_of_lt (by omega) (by omega), Int.zero_add]
theorem one_step {n : Int} {bits w b : Nat} (h0 : 0 ≤ n) (h1 : n < 2 ^ bits) (hw : w ≤ b) (hb : b ≤ bits) : n / 2 ^ w + 1 + w - (n / 2 ^ b + 1 + b) ≤ gg (bits - w) := by
  obtain ⟨k, rfl⟩ : ∃ k, b = w + k := ⟨b - w, by omega⟩
  obtain ⟨e, rfl⟩ : ∃ e, bits = w + e := ⟨bits - w, by omega⟩
  rw [ediv_pow, Nat.add_sub_cancel_left]
  have hp := pow_pos' w
  have x0 : 0 ≤ n / 2 ^ w := Int.ediv_nonneg h0 (by omega)
  have x1 : n / 2 ^ w < 2 ^ e := by
    rw [Int.ediv_lt_iff_lt_mul hp, ← Int.pow_add, Nat.add_comm]
    exact h1
  have m := mono_sub (k := k) x0 (show n / 2 ^ w ≤ 2 ^ e - 1 by omega)
  rw [top_div (by omega)] at m
  have g := gg_nn (e - k)
  unfold gg at *
  omega
theorem up_step : ∀ {ns : List Int} {a w : Nat}, (∀ n ∈ ns, 0 ≤ n) → a ≤ w → price ns w ≤ price ns a + ns.length * ((w : Int) - a)
  | [], _, _, _, _ => by simp [price]
  | n :: ns, a, w, h, hw => by
    have ih := up_step (fun k hk => h k (List.mem_cons_of_mem _ hk)) hw
    have hn := h n List.mem_cons_self
    have : n / 2 ^ w ≤ n / 2 ^ a := by
      obtain ⟨k, rfl⟩ : ∃ k, w = a + k := ⟨w - a, by omega⟩
      rw [ediv_pow]
      exact Int.ediv_le_self _ (Int.ediv_nonneg hn (Int.le_of_lt (pow_pos' a)))
    rw [price_cons, price_cons, List.length_cons, Int.natCast_add, Int.add_mul]
    omega
theorem down_step : ∀ {ns : List Int} {bits w b : Nat}, Below bits ns → w ≤ b → b ≤ bits → price ns w ≤ price ns b + ns.length * gg (bits - w)
  | [], _, _, _, _, _, _ => by simp [price]
  | n :: ns, bits, w, b, h, hw, hb => by
    have ih := down_step (fun k hk => h k (List.mem_cons_of_mem _ hk)) hw hb
    have hn := h n List.mem_cons_self
    have := one_step hn.1 hn.2 hw hb
    rw [price_cons, price_cons, List.length_cons, Int.natCast_add, Int.add_mul]
    omega
theorem Below.app {b : Nat} {xs ys : List Int} (h : Below b xs) (k : Below b ys) : Below b (xs ++ ys) := fun n hn => by
  rcases List.mem_append.mp hn with hn | hn
  · exact h n hn
  · exact k n hn
def gainF (A B : List Int) : Int := leastP (A ++ B) - leastP A - leastP B
theorem gain_side {A B : List Int} {bits a b : Nat} (hA : Below bits A) (hB : Below bits B) (hb30 : bits ≤ 30) (ea : leastP A = price A a) (eb : leastP B = price B b) (hab : a ≤ b) (hb : b ≤ bits) : gainF A B ≤ og A.length B.length bits := by
  obtain ⟨w, hw, e⟩ := og_at A.length B.length bits
  rw [e, gI_gg _ _ hw]
  unfold gainF
  rw [ea, eb]
  have hAn : ∀ n ∈ A, 0 ≤ n := fun n hn => (hA n hn).1
  have n1 : (0 : Int) ≤ A.length := Int.natCast_nonneg _
  have n2 : (0 : Int) ≤ B.length := Int.natCast_nonneg _
  have key : ∀ v, v < 42 → leastP (A ++ B) ≤ price A v + price B v := fun v hv => by rw [← price_app]; exact leastP_le _ hv
  have z1 := Int.mul_nonneg n1 (Int.natCast_nonneg w)
  have z2 := Int.mul_nonneg n2 (gg_nn (bits - w))
  by_cases c1 : w < a
  · have k := key a (by omega)
    have d := down_step hB hab hb
    have g : (B.length : Int) * gg (bits - a) ≤ B.length * gg (bits - w) := Int.mul_le_mul_of_nonneg_left (gg_up (by omega)) n2
    omega
  · by_cases c2 : b < w
    · have k := key b (by omega)
      have u := up_step hAn hab
      have g : (A.length : Int) * ((b : Int) - a) ≤ A.length * (w : Int) := Int.mul_le_mul_of_nonneg_left (by omega) n1
      omega
    · have k := key w (by omega)
      have u := up_step hAn (show a ≤ w by omega)
      have d := down_step hB (show w ≤ b by omega) hb
      have g : (A.length : Int) * ((w : Int) - a) ≤ A.length * (w : Int) := Int.mul_le_mul_of_nonneg_left (by omega) n1
      omega
theorem price_comm (A B : List Int) (w : Nat) : price (A ++ B) w = price (B ++ A) w := by rw [price_app, price_app, Int.add_comm]
theorem leastP_congr {A B : List Int} (h : ∀ w, price A w = price B w) : leastP A = leastP B := by
  unfold leastP
  congr 1
  exact List.map_congr_left fun w _ => h w
theorem gain_comm (A B : List Int) : gainF A B = gainF B A := by
  unfold gainF
  rw [leastP_congr (price_comm A B)]
  omega
def gmax (n1 n2 : Int) (bits : Nat) : Int := if og n2 n1 bits > og n1 n2 bits then og n2 n1 bits else og n1 n2 bits
theorem gmax_comm (n1 n2 : Int) (bits : Nat) : gmax n1 n2 bits = gmax n2 n1 bits := by
  unfold gmax
  split <;> split <;> omega
theorem gmax_nn {n1 n2 : Int} (h1 : 0 ≤ n1) (h2 : 0 ≤ n2) (bits : Nat) : 0 ≤ gmax n1 n2 bits := by
  have a := og_nn h1 h2 bits
  have b := og_nn h2 h1 bits
  unfold gmax
  split <;> omega
theorem gain_le {A B : List Int} {bits : Nat} (hA : Below bits A) (hB : Below bits B) (hb : bits ≤ 30) : gainF A B ≤ gmax A.length B.length bits := by
  obtain ⟨a, ha, ea⟩ := least_low hA hb
  obtain ⟨b, hb', eb⟩ := least_low hB hb
  by_cases c : a ≤ b
  · have := gain_side hA hB hb ea eb c hb'
    unfold gmax
    split <;> omega
  · have := gain_side hB hA hb eb ea (by omega) ha
    rw [gain_comm] at this
    unfold gmax
    split <;> omega
theorem price_rep (k : Nat) (n : Int) (w : Nat) : price (List.replicate k n) w = k * (n / 2 ^ w + 1 + w) := by
  induction k with
  | zero => simp [price]
  | succ k ih => rw [List.replicate_succ, price_cons, ih, Int.natCast_add, Int.add_mul]; omega
theorem gain_rows (n1 n2 bits : Nat) (hb : bits ≤ 30) : gainF (List.replicate n1 0) (List.replicate n2 (2 ^ bits - 1)) = og n1 n2 bits := by
  have p1 : (0 : Int) ≤ n1 := Int.natCast_nonneg _
  have p2 : (0 : Int) ≤ n2 := Int.natCast_nonneg _
  have hlow : ∀ w, w ≤ bits → price (List.replicate n2 (2 ^ bits - 1)) w = n2 * (1 + bits) + n2 * gg (bits - w) := fun w hw => by
    rw [price_rep, top_div hw, ← Int.mul_add]
    congr 1
    unfold gg
    omega
  have hhigh : ∀ w, bits ≤ w → price (List.replicate n2 ((2 : Int) ^ bits - 1)) w = n2 * (1 + w) := fun w hw => by
    have := p2_le hw
    have hp := pow_pos' bits
    rw [price_rep, Int.ediv_eq_zero_of_lt (by omega) (by omega), Int.zero_add]
  have hz : ∀ w, price (List.replicate n1 0) w = n1 + n1 * w := fun w => by
    rw [price_rep, Int.zero_ediv, Int.zero_add, Int.mul_add, Int.mul_one]
  have e1 : leastP (List.replicate n1 0) = n1 := by
    obtain ⟨w, hw, e⟩ := leastP_at (List.replicate n1 0)
    have h0 := leastP_le (List.replicate n1 0) (w := 0) (by decide)
    rw [hz] at e h0
    have := Int.mul_nonneg p1 (Int.natCast_nonneg w)
    simp at h0
    omega
  have e2 : leastP (List.replicate n2 ((2 : Int) ^ bits - 1)) = n2 * (1 + bits) := by
    obtain ⟨w, hw, e⟩ := leastP_at (List.replicate n2 ((2 : Int) ^ bits - 1))
    have h0 := leastP_le (List.replicate n2 ((2 : Int) ^ bits - 1)) (w := bits) (by omega)
    rw [hhigh bits (Nat.le_refl _)] at h0
    by_cases c : w ≤ bits
    · rw [hlow w c] at e
      have := Int.mul_nonneg p2 (gg_nn (bits - w))
      omega
    · rw [hhigh w (by omega)] at e
      have : (n2 : Int) * (1 + bits) ≤ n2 * (1 + w) := Int.mul_le_mul_of_nonneg_left (by omega) p2
      omega
  unfold gainF
  rw [e1, e2]
  obtain ⟨v, hv, ev⟩ := leastP_at (List.replicate n1 0 ++ List.replicate n2 ((2 : Int) ^ bits - 1))
  obtain ⟨w, hw, ew⟩ := og_at n1 n2 bits
  have h1 := leastP_le (List.replicate n1 0 ++ List.replicate n2 ((2 : Int) ^ bits - 1)) (w := w) (by omega)
  rw [price_app, hz, hlow w hw] at h1
  rw [gI_gg _ _ hw] at ew
  rw [price_app, hz] at ev
  have h2 : og n1 n2 bits ≤ leastP (List.replicate n1 0 ++ List.replicate n2 ((2 : Int) ^ bits - 1)) - n1 - n2 * (1 + bits) := by
    by_cases c : v ≤ bits
    · have := og_le n1 n2 c
      rw [gI_gg _ _ c] at this
      rw [hlow v c] at ev
      omega
    · have := og_le n1 n2 (Nat.le_refl bits)
      rw [gI_gg _ _ (Nat.le_refl bits), Nat.sub_self, show gg 0 = 0 from rfl, Int.mul_zero] at this
      rw [hhigh v (by omega)] at ev
      have a : (n2 : Int) * (1 + bits) ≤ n2 * (1 + v) := Int.mul_le_mul_of_nonneg_left (by omega) p2
      have b : (n1 : Int) * bits ≤ n1 * v := Int.mul_le_mul_of_nonneg_left (by omega) p1
      omega
  omega
end My

namespace My
/-! ### halves -/
def part (ns : List Int) (size k : Nat) : List Int := (ns.drop (k * size)).take size
def tot (ns : List Int) (p : Nat) : Int := ((List.range (2 ^ p)).map fun k => leastP (part ns (ns.length / 2 ^ p) k)).sum
theorem least_app (A B : List Int) : leastP A + leastP B ≤ leastP (A ++ B) := by
  obtain ⟨w, hw, e⟩ := leastP_at (A ++ B)
  rw [e, price_app]
  have := leastP_le A hw
  have := leastP_le B hw
  omega
theorem part_half (ns : List Int) (s k : Nat) : part ns (2 * s) k = part ns s (2 * k) ++ part ns s (2 * k + 1) := by
  unfold part
  rw [show k * (2 * s) = 2 * k * s by rw [Nat.mul_comm 2 k, Nat.mul_assoc], show 2 * s = s + s by omega, List.take_add, List.drop_drop, show (2 * k + 1) * s = 2 * k * s + s by rw [Nat.add_mul, Nat.one_mul]]
theorem sum_pairs (f : Nat → Int) : ∀ n, ((List.range (2 * n)).map f).sum = ((List.range n).map fun k => f (2 * k) + f (2 * k + 1)).sum
  | 0 => rfl
  | n + 1 => by
    rw [show 2 * (n + 1) = 2 * n + 1 + 1 by omega, List.range_succ, List.range_succ, List.range_succ]
    simp only [List.map_append, List.sum_append, List.map_cons, List.map_nil, List.sum_cons, List.sum_nil]
    rw [sum_pairs f n]
    omega
theorem sum_mono {f g : Nat → Int} : ∀ n, (∀ k, k < n → f k ≤ g k) → ((List.range n).map f).sum ≤ ((List.range n).map g).sum
  | 0, _ => Int.le_refl _
  | n + 1, h => by
    rw [List.range_succ]
    simp only [List.map_append, List.sum_append, List.map_cons, List.map_nil, List.sum_cons, List.sum_nil]
    have := sum_mono n fun k hk => h k (by omega)
    have := h n (by omega)
    omega
/-- a half more never costs more -/
theorem tot_anti (ns : List Int) (p : Nat) (h : ns.length % 2 ^ (p + 1) = 0) : tot ns (p + 1) ≤ tot ns p := by
  obtain ⟨q, hq⟩ : ∃ q, ns.length = 2 ^ (p + 1) * q := ⟨_, (Nat.mul_div_cancel' (Nat.dvd_of_mod_eq_zero h)).symm⟩
  have hp : 0 < 2 ^ p := Nat.pow_pos (by decide)
  have e1 : ns.length / 2 ^ (p + 1) = q := by rw [hq, Nat.mul_div_cancel_left _ (Nat.pow_pos (by decide))]
  have e2 : ns.length / 2 ^ p = 2 * q := by rw [hq, Nat.pow_succ, Nat.mul_assoc, Nat.mul_div_cancel_left _ hp]
  unfold tot
  rw [e1, e2, Nat.pow_succ, Nat.mul_comm (2 ^ p) 2, sum_pairs]
  refine sum_mono _ fun k _ => ?_
  rw [part_half]
  exact least_app _ _
theorem half_ok {n p : Nat} (h : n % 2 ^ (p + 1) = 0) : n % 2 ^ p = 0 := by
  obtain ⟨q, hq⟩ : ∃ q, n = 2 ^ (p + 1) * q := ⟨_, (Nat.mul_div_cancel' (Nat.dvd_of_mod_eq_zero h)).symm⟩
  rw [hq, Nat.pow_succ, Nat.mul_assoc, Nat.mul_mod_right]
/-- how many halvings there are, up to k -/
def cnt (n : Nat) : Nat → Nat
  | 0 => 0
  | k + 1 => if n % 2 ^ k = 0 ∧ cnt n k = k then k + 1 else cnt n k
theorem cnt_le (n : Nat) : ∀ k, cnt n k ≤ k
  | 0 => Nat.le_refl _
  | k + 1 => by
    have := cnt_le n k
    unfold cnt
    split <;> omega
theorem cnt_ok (n : Nat) : ∀ k p, p < cnt n k → n % 2 ^ p = 0
  | 0, p, h => absurd h (Nat.not_lt_zero _)
  | k + 1, p, h => by
    unfold cnt at h
    split at h
    · rename_i c
      by_cases e : p = k
      · rw [e]; exact c.1
      · exact cnt_ok n k p (by omega)
    · exact cnt_ok n k p h
theorem cnt_stop (n : Nat) {k m : Nat} (h : cnt n k = k) (hk : n % 2 ^ k ≠ 0) (hm : k ≤ m) : cnt n m = k := by
  induction m with
  | zero => rw [show k = 0 by omega]; rfl
  | succ m ih =>
    by_cases e : k = m + 1
    · rw [← e]; exact h
    · have i := ih (by omega)
      unfold cnt
      rw [if_neg]
      · exact i
      · rintro ⟨c1, c2⟩
        rw [i] at c2
        rw [c2] at hk
        exact hk c1
def totals (ns : List Int) (most : Nat) : List Int := (List.range (cnt ns.length (most + 1))).map fun p => tot ns p
theorem totals_desc (ns : List Int) (most : Nat) : (totals ns most).Pairwise fun a b => b ≤ a := by
  unfold totals
  have key : ∀ d p, p + d < cnt ns.length (most + 1) → tot ns (p + d) ≤ tot ns p := fun d => by
    induction d with
    | zero => intro p _; exact Int.le_refl _
    | succ d ih =>
      intro p hp
      exact Int.le_trans (tot_anti ns (p + d) (cnt_ok _ _ _ hp)) (ih p (by omega))
  rw [List.pairwise_map]
  refine List.Pairwise.imp_of_mem ?_ List.pairwise_lt_range
  intro a b _ hb hab
  have hb := List.mem_range.mp hb
  have := key (b - a) a (by omega)
  rw [show a + (b - a) = b by omega] at this
  exact this
end My

namespace My
open PySem PySem.Spec PyProof.Rows L2 Pre
theorem cut_mid (xs : List V) {i j : Nat} (h : i ≤ j) : cutV xs (some (i : Int)) (some (j : Int)) = (xs.drop i).take (j - i) := by
  unfold cutV
  rw [HT.sIx_nat, HT.sIx_nat]
  rcases Nat.le_total i xs.length with hi | hi
  · rw [Nat.min_eq_left hi]
    rcases Nat.le_total j xs.length with hj | hj
    · rw [Nat.min_eq_left hj]
    · rw [Nat.min_eq_right hj, List.take_of_length_le (by rw [List.length_drop]; omega), List.take_of_length_le (by rw [List.length_drop]; omega)]
  · rw [Nat.min_eq_right hi, Nat.min_eq_right (by omega), List.drop_length, List.drop_of_length_le hi, List.take_nil, List.take_nil]
theorem cut_part (ns : List Int) (s k : Nat) : cutV (ns.map V.int) (some ((k : Int) * s)) (some (((k : Int) + 1) * s)) = (part ns s k).map V.int := by
  rw [show (k : Int) * s = ((k * s : Nat) : Int) by rw [Int.natCast_mul], show ((k : Int) + 1) * s = (((k + 1) * s : Nat) : Int) by rw [Int.natCast_mul]; rfl]
  rw [cut_mid _ (Nat.mul_le_mul_right s (Nat.le_succ k)), Nat.succ_mul, Nat.add_sub_cancel_left]
  unfold part
  rw [List.map_take, List.map_drop]
theorem part_mem {ns : List Int} {s k : Nat} {n : Int} (h : n ∈ part ns s k) : n ∈ ns := List.mem_of_mem_drop (List.mem_of_mem_take h)
theorem part_len (ns : List Int) (s k : Nat) : (part ns s k).length ≤ ns.length := by
  unfold part
  rw [List.length_take, List.length_drop]
  omega
local macro_rules | `(tactic| walk_at "go") => `(tactic| repeat (first | (with_reducible first | refine iteT ?_ | refine iteF ?_ | refine iteNtt ?_ | refine iteNff ?_ | refine iteET (by omega) ?_ | refine iteEF (by omega) ?_ | refine iteENT (by omega) ?_ | refine iteENF (by omega) ?_ | refine iteDT (by omega) ?_ | refine iteDF (by omega) ?_ | refine iteNT (by omega) ?_ | refine iteNF (by omega) ?_) | refine ⟨_, rfl, ?_⟩ | refine ⟨_, _, rfl, rfl, ?_⟩ | refine ⟨_, _, rfl, ?_⟩ | refine ⟨rfl, ?_⟩ | refine .inl ⟨_, rfl, ?_⟩ | refine .inr ⟨_, rfl, ?_⟩))
local macro_rules | `(tactic| walk_at "b") => `(tactic| try dsimp (config := { proj := false, iota := false, eta := false, zeta := false }) only)
section
variable {P : Program} {w : World} {K : PySem.W.Frag} {mg : Str → Option Value} {base : Heap}
theorem least_v {ns : List Int} {xs : List V} (h : LeastV ns xs) : atI xs 0 = some (.int (leastP ns)) := by
  rcases h with ⟨rfl, rfl⟩ | ⟨_, m, f, l, hL, rfl⟩
  · rw [leastP_nil]; rfl
  · rw [leastP_is hL]; rfl
def sp_one_gain : Sp := fun vs H Q _ => ∃ (low high : Int) (bits : Nat), vs = [.int low, .int high, .int bits] ∧ 0 ≤ low ∧ low ≤ 1000 ∧ 0 ≤ high ∧ high ≤ 1000 ∧ bits ≤ 30 ∧ ∀ H', Same H H' → Q (.int (og low high bits)) H'
theorem G_one_gain (T : Top K mg) : FnOk P w K mg base CX0 1 T.f_one_gain T.fd_one_gain ["low", "high", "bits"] sp_one_gain := by
  refine T.F_one_gain.ok sc_one_gain (fun vs H Q E h => by obtain ⟨low, high, bits, rfl, _⟩ := h; rfl) (fun cdv A outer s H vs Q E hr h => ?_)
  obtain ⟨low, high, bits, rfl, h1, h2, h3, h4, h5, q⟩ := h
  refine ⟨_, PSs.nox (pss_one (ps_ret (pe_callB (k_min K rfl rfl) (by rfl) T.n_min (by decide +kernel) (pa_cons (pe_lc (own := [("width", 3)]) (g := gName 3) (tt := tYes) (by rfl) sc_one_gain.nd (pi_range1 (by rfl) T.n_range (pa_cons (pe_op op_add (pv 2) pe_int) pa_nil)) (blkOk_by (own := [("width", 3)]) (N := N_one_gain) (sc := defScope s_one_gain) (by decide +kernel)) (fun _ _ _ _ _ => (pg_name (i := 3) sc_one_gain.nd rfl (by first | exact Or.inl rfl | exact Or.inr rfl))) (fun _ _ _ _ _ => pts_nil) (fun _ _ _ _ _ => (pe_op op_add (pe_op op_mul (pv 0) (pv 3)) (pe_op op_mul (pv 1) (pe_op op_add (pe_op op_sub (pe_op op_sub (pe_op op_shl pe_int (pe_op op_sub (pv 2) (pv 3))) pe_int) (pv 2)) (pv 3)))))) pa_nil)))), ?_⟩
  walk_at "go"
  refine ⟨by omega, by omega, fun D nD => ?_⟩
  have en : ((bits : Int) + 1).toNat = bits + 1 := by omega
  walk_at "b"
  rw [en]
  refine lc_mapR (lo := 0) (n := bits + 1) (((List.range (bits + 1)).map fun (w : Nat) => gI low high bits w).map V.int) nD (by rw [List.length_map, List.length_map, List.length_range]) (small1000 (by omega)) (fun x => rfl) ?_ ?_
  · intro i y H' hi hy s Qt qt
    rw [List.getElem?_map, List.getElem?_map, List.getElem?_range hi] at hy
    cases hy
    walk_at "go"
    refine ⟨.inl ⟨by omega, by omega⟩, ?_⟩
    walk_at "go"
    have ei : ((bits : Int) - (0 + (i : Int))).toNat = bits - i := by omega
    have hp := pow_pos' (bits - i)
    have hp2 : (2 : Int) ^ (bits - i) ≤ 2 ^ 30 := pow2_le (by omega)
    refine ⟨⟨by omega, by omega, by decide⟩, ?_⟩
    walk_at "b"
    rw [ei]
    walk_at "go"
    refine ⟨.inl ⟨by omega, by omega⟩, ?_⟩
    walk_at "go"
    have e : low * (0 + (i : Int)) + high * (1 * 2 ^ (bits - i) - 1 - (bits : Int) + (0 + (i : Int))) = gI low high bits i := by
      unfold gI
      rw [Int.zero_add, Int.one_mul]
    walk_at "b"
    rw [e]
    exact qt _ (Same.refl _)
  · intro H1 s1 hD
    refine ⟨D, _, rfl, .inl (.inl hD), by rw [List.length_map, List.length_range]; omega, fun M hM hle => ?_⟩
    rw [min_uniq hM hle]
    exact q _ s1
def sp_check_all (K : PySem.W.Frag) : Sp := fun vs H Q _ => ∃ (a : Addr) (ns : List Int), vs = [.ref a] ∧ SqL K H a (ns.map V.int) ∧ (∀ n ∈ ns, 0 ≤ n) ∧ Q .non H
theorem G_check_all (T : Top K mg) : FnOk P w K mg base CX0 4 T.f_check_all T.fd_check_all ["things"] (sp_check_all K) := by
  refine T.F_check_all.ok sc_check_all (fun vs H Q E h => by obtain ⟨a, ns, rfl, _⟩ := h; rfl) (fun cdv A outer s H vs Q E hr h => ?_)
  obtain ⟨a, ns, rfl, hA, hn, q⟩ := h
  refine ⟨_, PSs.nox (pss_one (ps_for PassesOwn.never rfl (k_piL K rfl (pv 0)) (pg_name (i := 1) sc_check_all.nd rfl (by first | exact Or.inl rfl | exact Or.inr rfl))
    (pss_one (ps_expr (pe_call (G_check_number T) (hr.mono (by decide)) (by rfl) T.g_check_number T.F_check_number.kp T.b_check_number .nil pass0 (pa_cons (pv 1) (pa_cons pe_int (pa_cons pe_non pa_nil)))))))), ?_⟩
  refine ⟨_, rfl, a, rfl, ⟨_, hA⟩, for_list (K := K) (a := a) (xs := ns.map V.int) (fun i σ H1 => ∃ v1, σ = [some (.ref a), v1] ∧ H1 = H) ⟨none, rfl, rfl⟩ (fun i σ H1 _ ⟨_, _, e⟩ => by rw [e]; exact hA) ?_ ?_⟩
  · rintro i x σ H1 hx ⟨v1, rfl, rfl⟩
    obtain ⟨n, hm, rfl⟩ := int_at hx
    have h0 := hn n (List.mem_of_getElem? hm)
    walk_at "go"
    exact ⟨n, 0, none, rfl, h0, (fun j h => nomatch h), _, rfl, rfl⟩
  · rintro σ H1 ⟨v1, rfl, rfl⟩
    exact q
theorem all3 {a b c : Int} (h1 : 0 ≤ a) (h2 : 0 ≤ b) (h3 : 0 ≤ c) : ∀ n ∈ [a, b, c], 0 ≤ n := fun n hn => by
  simp only [List.mem_cons, List.not_mem_nil, or_false] at hn
  omega
def sp_greatest_gain : Sp := fun vs H Q _ => ∃ (n1 n2 : Int) (bits : Nat), vs = [.int n1, .int n2, .int bits] ∧ 0 ≤ n1 ∧ n1 ≤ 1000 ∧ 0 ≤ n2 ∧ n2 ≤ 1000 ∧ bits ≤ 30 ∧ ∀ H', Same H H' → Q (.int (gmax n1 n2 bits)) H'
theorem G_greatest_gain (T : Top K mg) : FnOk P w K mg base CX0 5 T.f_greatest_gain T.fd_greatest_gain ["one", "other", "bits"] sp_greatest_gain := by
  refine T.F_greatest_gain.ok sc_greatest_gain (fun vs H Q E h => by obtain ⟨n1, n2, bits, rfl, _⟩ := h; rfl) (fun cdv A outer s H vs Q E hr h => ?_)
  obtain ⟨n1, n2, bits, rfl, h1, h2, h3, h4, h5, q⟩ := h
  refine ⟨_, PSs.nox (pss_cons (ps_expr (pe_call (G_check_all T) (hr.mono (by decide)) (by rfl) T.g_check_all T.F_check_all.kp T.b_check_all .nil pass0 (pa_cons (pe_lst (pa_cons (pv 0) (pa_cons (pv 1) (pa_cons (pv 2) pa_nil)))) pa_nil)))
  (pss_one (ps_ret (pe_callB (call_max2 rfl) (by rfl) T.n_max (by decide +kernel) (pa_cons (pe_call (G_one_gain T) (hr.mono (by decide)) (by rfl) T.g_one_gain T.F_one_gain.kp T.b_one_gain .nil pass0 (pa_cons (pv 0) (pa_cons (pv 1) (pa_cons (pv 2) pa_nil)))) (pa_cons (pe_call (G_one_gain T) (hr.mono (by decide)) (by rfl) T.g_one_gain T.F_one_gain.kp T.b_one_gain .nil pass0 (pa_cons (pv 1) (pa_cons (pv 0) (pa_cons (pv 2) pa_nil)))) pa_nil)))))), ?_⟩
  walk_at "go"
  refine ⟨(show 3 ≤ sizeLine by decide), fun p np => ?_⟩
  obtain ⟨H1, e1, s1, hp⟩ := fresh (.lst [V.int n1, V.int n2, V.int bits]) np
  rw [e1]
  refine ⟨p, [n1, n2, (bits : Int)], rfl, .inl (.inl hp), all3 h1 h3 (by omega), ?_⟩
  walk_at "go"
  refine ⟨n1, n2, bits, rfl, h1, h2, h3, h4, h5, fun H2 s2 => ?_⟩
  walk_at "go"
  refine ⟨n2, n1, bits, rfl, h3, h4, h1, h2, h5, fun H3 s3 => ?_⟩
  walk_at "go"
  exact q _ ((s1.trans s2).trans s3)
def rowG (n1 n2 bits : Nat) : List Int × List Int := if og n1 n2 bits ≥ og n2 n1 bits then (List.replicate n1 0, List.replicate n2 (2 ^ bits - 1)) else (List.replicate n1 (2 ^ bits - 1), List.replicate n2 0)
theorem rep1 (k : Nat) (n : Int) : (List.replicate k [V.int n]).flatten = (List.replicate k n).map V.int := by
  rw [List.map_replicate]
  induction k with
  | zero => rfl
  | succ k ih => rw [List.replicate_succ, List.flatten_cons, ih, List.replicate_succ]; rfl
def sp_gain_rows : Sp := fun vs H Q _ => ∃ (n1 n2 bits : Nat), vs = [.int n1, .int n2, .int bits] ∧ n1 ≤ 1000 ∧ n2 ≤ 1000 ∧ bits ≤ 30 ∧ ∀ H' t a b, Same H H' → H' t = some (.tup [.ref a, .ref b]) → H' a = some (.lst ((rowG n1 n2 bits).1.map V.int)) → H' b = some (.lst ((rowG n1 n2 bits).2.map V.int)) → Q (.ref t) H'
theorem G_gain_rows (T : Top K mg) : FnOk P w K mg base CX0 5 T.f_gain_rows T.fd_gain_rows ["one", "other", "bits"] sp_gain_rows := by
  refine T.F_gain_rows.ok sc_gain_rows (fun vs H Q E h => by obtain ⟨n1, n2, bits, rfl, _⟩ := h; rfl) (fun cdv A outer s H vs Q E hr h => ?_)
  obtain ⟨n1, n2, bits, rfl, h1, h2, h3, q⟩ := h
  refine ⟨_, PSs.nox (pss_cons (ps_expr (pe_call (G_check_all T) (hr.mono (by decide)) (by rfl) T.g_check_all T.F_check_all.kp T.b_check_all .nil pass0 (pa_cons (pe_lst (pa_cons (pv 0) (pa_cons (pv 1) (pa_cons (pv 2) pa_nil)))) pa_nil)))
  (pss_cons (ps_set (i := 3) sc_gain_rows.nd rfl (by first | exact Or.inl rfl | exact Or.inr rfl) (pe_op op_sub (pe_op op_shl pe_int (pv 2)) pe_int))
  (pss_cons (ps_if (pt_cmpR op_ge (pe_call (G_one_gain T) (hr.mono (by decide)) (by rfl) T.g_one_gain T.F_one_gain.kp T.b_one_gain .nil pass0 (pa_cons (pv 0) (pa_cons (pv 1) (pa_cons (pv 2) pa_nil)))) (pe_call (G_one_gain T) (hr.mono (by decide)) (by rfl) T.g_one_gain T.F_one_gain.kp T.b_one_gain .nil pass0 (pa_cons (pv 1) (pa_cons (pv 0) (pa_cons (pv 2) pa_nil)))) (nomark _))
    (pss_one (ps_ret (pe_tup (pa_cons (pe_op op_rep (pe_lst (pa_cons pe_int pa_nil)) (pv 0)) (pa_cons (pe_op op_rep (pe_lst (pa_cons (pv 3) pa_nil)) (pv 1)) pa_nil)))))
    pss_nil)
  (pss_one (ps_ret (pe_tup (pa_cons (pe_op op_rep (pe_lst (pa_cons (pv 3) pa_nil)) (pv 0)) (pa_cons (pe_op op_rep (pe_lst (pa_cons pe_int pa_nil)) (pv 1)) pa_nil)))))))), ?_⟩
  walk_at "go"
  refine ⟨(show 3 ≤ sizeLine by decide), fun p np => ?_⟩
  obtain ⟨H1, e1, s1, hp⟩ := fresh (.lst [V.int n1, V.int n2, V.int bits]) np
  rw [e1]
  refine ⟨p, [(n1 : Int), (n2 : Int), (bits : Int)], rfl, .inl (.inl hp), all3 (by omega) (by omega) (by omega), ?_⟩
  walk_at "go"
  refine ⟨⟨by omega, by omega, by decide⟩, ?_⟩
  walk_at "b"
  rw [Int.toNat_natCast, Int.one_mul]
  walk_at "go"
  refine ⟨n1, n2, bits, rfl, by omega, by omega, by omega, by omega, h3, fun H2 s2 => ?_⟩
  walk_at "go"
  refine ⟨n2, n1, bits, rfl, by omega, by omega, by omega, by omega, h3, fun H3 s3 => ?_⟩
  refine ⟨_, _, rfl, rfl, _, rfl, ?_⟩
  have s13 := (s1.trans s2).trans s3
  unfold rowG at q
  have fin : ∀ x y : Int, (∀ H' t a b, Same H H' → H' t = some (.tup [.ref a, .ref b]) → H' a = some (.lst ((List.replicate n1 x).map V.int)) → H' b = some (.lst ((List.replicate n2 y).map V.int)) → Q (.ref t) H') → True := fun _ _ _ => trivial
  by_cases c : og n1 n2 bits ≥ og n2 n1 bits
  · rw [if_pos c] at q
    refine iteDT c ?_
    refine ⟨(show 1 ≤ sizeLine by decide), fun z nz => ?_⟩
    obtain ⟨H4, e4, s4, h4⟩ := fresh (.lst [V.int 0]) nz
    rw [e4]
    refine ⟨_, rfl, z, _, _, rfl, rfl, h4, by omega, by omega, by rw [Int.toNat_natCast]; show 1 * n1 ≤ _; rw [sizeLine_eq]; omega, fun a na => ?_⟩
    rw [Int.toNat_natCast, rep1]
    obtain ⟨H5, e5, s5, h5⟩ := fresh (.lst ((List.replicate n1 (0 : Int)).map V.int)) na
    rw [e5]
    walk_at "go"
    refine ⟨(show 1 ≤ sizeLine by decide), fun z2 nz2 => ?_⟩
    obtain ⟨H6, e6, s6, h6⟩ := fresh (.lst [V.int (2 ^ bits - 1)]) nz2
    rw [e6]
    refine ⟨_, rfl, z2, _, _, rfl, rfl, h6, by omega, by omega, by rw [Int.toNat_natCast]; show 1 * n2 ≤ _; rw [sizeLine_eq]; omega, fun b nb => ?_⟩
    rw [Int.toNat_natCast, rep1]
    obtain ⟨H7, e7, s7, h7⟩ := fresh (.lst ((List.replicate n2 ((2 : Int) ^ bits - 1)).map V.int)) nb
    rw [e7]
    refine ⟨(show 2 ≤ sizeLine by decide), fun t nt => ?_⟩
    have s8 := same_upd (o := .tup [V.ref a, V.ref b]) nt
    exact q _ t a b (((((s13.trans s4).trans s5).trans s6).trans s7).trans s8) upd_same (s8 _ _ (s7 _ _ (s6 _ _ h5))) (s8 _ _ h7)
  · rw [if_neg c] at q
    refine iteDF c ?_
    walk_at "go"
    refine ⟨(show 1 ≤ sizeLine by decide), fun z nz => ?_⟩
    obtain ⟨H4, e4, s4, h4⟩ := fresh (.lst [V.int (2 ^ bits - 1)]) nz
    rw [e4]
    refine ⟨_, rfl, z, _, _, rfl, rfl, h4, by omega, by omega, by rw [Int.toNat_natCast]; show 1 * n1 ≤ _; rw [sizeLine_eq]; omega, fun a na => ?_⟩
    rw [Int.toNat_natCast, rep1]
    obtain ⟨H5, e5, s5, h5⟩ := fresh (.lst ((List.replicate n1 ((2 : Int) ^ bits - 1)).map V.int)) na
    rw [e5]
    walk_at "go"
    refine ⟨(show 1 ≤ sizeLine by decide), fun z2 nz2 => ?_⟩
    obtain ⟨H6, e6, s6, h6⟩ := fresh (.lst [V.int 0]) nz2
    rw [e6]
    refine ⟨_, rfl, z2, _, _, rfl, rfl, h6, by omega, by omega, by rw [Int.toNat_natCast]; show 1 * n2 ≤ _; rw [sizeLine_eq]; omega, fun b nb => ?_⟩
    rw [Int.toNat_natCast, rep1]
    obtain ⟨H7, e7, s7, h7⟩ := fresh (.lst ((List.replicate n2 (0 : Int)).map V.int)) nb
    rw [e7]
    refine ⟨(show 2 ≤ sizeLine by decide), fun t nt => ?_⟩
    have s8 := same_upd (o := .tup [V.ref a, V.ref b]) nt
    exact q _ t a b (((((s13.trans s4).trans s5).trans s6).trans s7).trans s8) upd_same (s8 _ _ (s7 _ _ (s6 _ _ h5))) (s8 _ _ h7)
def sp_never_pays : Sp := fun vs H Q _ => ∃ (n1 n2 : Int) (bits : Nat) (cost : Int), vs = [.int n1, .int n2, .int bits, .int cost] ∧ 0 ≤ n1 ∧ n1 ≤ 1000 ∧ 0 ≤ n2 ∧ n2 ≤ 1000 ∧ bits ≤ 30 ∧ 0 ≤ cost ∧ ∀ H', Same H H' → Q (.bl (decide (gmax n1 n2 bits ≤ cost))) H'
theorem G_never_pays (T : Top K mg) : FnOk P w K mg base CX0 6 T.f_never_pays T.fd_never_pays ["one", "other", "bits", "cost"] sp_never_pays := by
  refine T.F_never_pays.ok sc_never_pays (fun vs H Q E h => by obtain ⟨n1, n2, bits, cost, rfl, _⟩ := h; rfl) (fun cdv A outer s H vs Q E hr h => ?_)
  obtain ⟨n1, n2, bits, cost, rfl, h1, h2, h3, h4, h5, h6, q⟩ := h
  refine ⟨_, PSs.nox (pss_cons (ps_expr (pe_call (G_check_all T) (hr.mono (by decide)) (by rfl) T.g_check_all T.F_check_all.kp T.b_check_all .nil pass0 (pa_cons (pe_lst (pa_cons (pv 0) (pa_cons (pv 1) (pa_cons (pv 2) (pa_cons (pv 3) pa_nil))))) pa_nil)))
  (pss_one (ps_ret (pe_cmpR op_le (pe_call (G_greatest_gain T) (hr.mono (by decide)) (by rfl) T.g_greatest_gain T.F_greatest_gain.kp T.b_greatest_gain .nil pass0 (pa_cons (pv 0) (pa_cons (pv 1) (pa_cons (pv 2) pa_nil)))) (pv 3) (nomark _))))), ?_⟩
  walk_at "go"
  refine ⟨(show 4 ≤ sizeLine by decide), fun p np => ?_⟩
  obtain ⟨H1, e1, s1, hp⟩ := fresh (.lst [V.int n1, V.int n2, V.int bits, V.int cost]) np
  rw [e1]
  refine ⟨p, [n1, n2, (bits : Int), cost], rfl, .inl (.inl hp), (fun n hn => ?_), ?_⟩
  · simp only [List.mem_cons, List.not_mem_nil, or_false] at hn
    omega
  walk_at "go"
  refine ⟨n1, n2, bits, rfl, h1, h2, h3, h4, h5, fun H2 s2 => ?_⟩
  walk_at "go"
  exact q _ (s1.trans s2)
end
end My

namespace My
open PySem PySem.Spec PyProof.Rows L2 Pre
local macro_rules | `(tactic| walk_at "go") => `(tactic| repeat (first | (with_reducible first | refine iteT ?_ | refine iteF ?_ | refine iteNtt ?_ | refine iteNff ?_ | refine iteET (by omega) ?_ | refine iteEF (by omega) ?_ | refine iteENT (by omega) ?_ | refine iteENF (by omega) ?_ | refine iteDT (by omega) ?_ | refine iteDF (by omega) ?_ | refine iteNT (by omega) ?_ | refine iteNF (by omega) ?_) | refine ⟨_, rfl, ?_⟩ | refine ⟨_, _, rfl, rfl, ?_⟩ | refine ⟨_, _, rfl, ?_⟩ | refine ⟨rfl, ?_⟩ | refine .inl ⟨_, rfl, ?_⟩ | refine .inr ⟨_, rfl, ?_⟩))
local macro_rules | `(tactic| walk_at "b") => `(tactic| try dsimp (config := { proj := false, iota := false, eta := false, zeta := false }) only)
theorem pw2 (p : Nat) : ((2 ^ p : Nat) : Int) = 2 ^ p := by rw [Int.natCast_pow]; rfl
theorem mod2 (n p : Nat) : (n : Int) % 2 ^ p = ((n % 2 ^ p : Nat) : Int) := by rw [← pw2, Int.natCast_emod]
theorem div2 (n p : Nat) : (n : Int) / 2 ^ p = ((n / 2 ^ p : Nat) : Int) := by rw [← pw2, Int.natCast_ediv]
theorem cnt_self {n k : Nat} (h : ∀ p, p < k → n % 2 ^ p = 0) : cnt n k = k := by
  induction k with
  | zero => rfl
  | succ k ih =>
    unfold cnt
    rw [if_pos ⟨h k (by omega), ih fun p hp => h p (by omega)⟩]
section
variable {P : Program} {w : World} {K : PySem.W.Frag} {mg : Str → Option Value} {base : Heap}
def sp_totals_of (K : PySem.W.Frag) : Sp := fun vs H Q _ => ∃ (a : Addr) (ns : List Int) (most : Nat), vs = [.ref a, .int most] ∧ FoldsAt K H a ns ∧ most ≤ 8 ∧ ∀ H' p, Same H H' → H p = none → H' p = some (.lst ((totals ns most).map V.int)) → Q (.ref p) H'
theorem G_totals_of (T : Top K mg) : FnOk P w K mg base CX0 3 T.f_totals_of T.fd_totals_of ["folds", "most"] (sp_totals_of K) := by
  refine T.F_totals_of.ok sc_totals_of (fun vs H Q E h => by obtain ⟨a, ns, most, rfl, _⟩ := h; rfl) (fun cdv A outer s H vs Q E hr h => ?_)
  obtain ⟨a, ns, most, rfl, hA, hm, q⟩ := h
  refine ⟨_, PSs.nox (pss_cons (ps_set (i := 2) sc_totals_of.nd rfl (by first | exact Or.inl rfl | exact Or.inr rfl) (pe_lst pa_nil))
  (pss_cons (ps_for PassesOwn.never rfl (pi_range1 (by rfl) T.n_range (pa_cons (pe_op op_add (pv 1) pe_int) pa_nil)) (pg_name (i := 3) sc_totals_of.nd rfl (by first | exact Or.inl rfl | exact Or.inr rfl))
    (pss_cons (ps_if (pt_cmpR op_ne (pe_op op_mod (pe_callB (k_len K rfl) (by rfl) T.n_len (by decide +kernel) (pa_cons (pv 0) pa_nil)) (pe_op op_shl pe_int (pv 3))) pe_int (nomark _))
    (pss_one (ps_ret (pv 2)))
    pss_nil)
  (pss_cons (ps_set (i := 4) sc_totals_of.nd rfl (by first | exact Or.inl rfl | exact Or.inr rfl) (pe_op op_shr (pe_callB (k_len K rfl) (by rfl) T.n_len (by decide +kernel) (pa_cons (pv 0) pa_nil)) (pv 3)))
  (pss_one (ps_expr (pe_bm PySem.F.plainAttrs_list PySem.F.slot_list_append PySem.F.type_list_append mt_append (pv 2) (pa_cons (pe_callB (k_sum K rfl rfl) (by rfl) T.n_sum (by decide +kernel) (pa_cons (pe_lc (own := [("at", 5)]) (g := gName 5) (tt := tYes) (by rfl) sc_totals_of.nd (pi_range1 (by rfl) T.n_range (pa_cons (pe_op op_shl pe_int (pv 3)) pa_nil)) (blkOk_by (own := [("at", 5)]) (N := N_totals_of) (sc := defScope s_totals_of) (by decide +kernel)) (fun _ _ _ _ _ => (pg_name (i := 5) sc_totals_of.nd rfl (by first | exact Or.inl rfl | exact Or.inr rfl))) (fun _ _ _ _ _ => pts_nil) (fun _ _ _ _ _ => (pe_ix (k_ixT K rfl) (pe_call (G_told_least T) (hr.mono (by decide)) (by rfl) T.g_told_least T.F_told_least.kp T.b_told_least .nil pass0 (pa_cons (pe_slice (k_slL K rfl) (pv 0) (po_some (pe_op op_mul (pv 5) (pv 4))) (po_some (pe_op op_mul (pe_op op_add (pv 5) pe_int) (pv 4)))) pa_nil)) pe_int (fun _ _ => rfl)))) pa_nil)) pa_nil)))))))
  (pss_one (ps_ret (pv 2))))), ?_⟩
  refine ⟨Nat.zero_le _, fun t nt => ?_⟩
  obtain ⟨H1, e1, s1, h1⟩ := fresh (.lst []) nt
  rw [e1]
  walk_at "go"
  refine ⟨by omega, by omega, ?_⟩
  walk_at "b"
  rw [show ((most : Int) + 1).toNat = most + 1 by omega]
  have hl := hA.2.2
  refine for_range (lo := 0) (n := most + 1) (fun i σ H2 => ∃ (v3 v4 v5 : Option V), σ = [some (.ref a), some (.int most), some (.ref t), v3, v4, v5] ∧ Same H H2 ∧ H2 t = some (.lst (((List.range i).map fun p => tot ns p).map V.int)) ∧ ∀ p, p < i → ns.length % 2 ^ p = 0) ⟨none, none, none, rfl, s1, h1, (fun p hp => absurd hp (Nat.not_lt_zero _))⟩ ?_ ?_
  · rintro i σ H2 hi ⟨v3, v4, v5, rfl, s2, h2, hd⟩
    have hA2 := hA.same s2
    have hp := pow_pos' i
    have hp2 : (2 : Int) ^ i ≤ 2 ^ 8 := pow2_le (by omega)
    have hpn : 2 ^ i ≤ 2 ^ 8 := Nat.pow_le_pow_right (by decide) (by omega)
    walk_at "go"
    refine ⟨a, _, rfl, .inl hA2.sq, ?_⟩
    walk_at "go"
    refine ⟨⟨by omega, by omega, by decide⟩, ?_⟩
    walk_at "b"
    rw [show ((0 : Int) + (i : Int)).toNat = i by omega, Int.one_mul]
    walk_at "go"
    refine ⟨hp, ?_⟩
    walk_at "b"
    rw [List.length_map, mod2]
    by_cases c : ns.length % 2 ^ i = 0
    · rw [c]
      walk_at "go"
      refine ⟨a, _, rfl, .inl hA2.sq, ?_⟩
      walk_at "go"
      refine ⟨by omega, ?_⟩
      walk_at "b"
      rw [show ((0 : Int) + (i : Int)).toNat = i by omega, List.length_map, div2]
      generalize hsz : ns.length / 2 ^ i = sz
      have hsz2 : sz ≤ 1000 := by rw [← hsz]; exact Nat.le_trans (Nat.div_le_self _ _) hl
      walk_at "go"
      refine ⟨.inl ⟨rfl, _, .inl (.inl h2)⟩, ?_⟩
      walk_at "go"
      refine ⟨⟨by omega, by omega, by decide⟩, ?_⟩
      walk_at "b"
      rw [show ((0 : Int) + (i : Int)).toNat = i by omega, Int.one_mul]
      refine ⟨_, rfl, by omega, by omega, fun D nD => ?_⟩
      rw [show ((2 : Int) ^ i).toNat = 2 ^ i by rw [← pw2]; omega]
      refine lc_mapR (lo := 0) (n := 2 ^ i) (((List.range (2 ^ i)).map fun k => leastP (part ns sz k)).map V.int) nD (by rw [List.length_map, List.length_map, List.length_range]) (small1000 (by omega)) (fun x => rfl) ?_ ?_
      · intro k y H' hk hy s Qt qt
        rw [List.getElem?_map, List.getElem?_map, List.getElem?_range hk] at hy
        cases hy
        walk_at "go"
        refine ⟨.inl ⟨by omega, by omega⟩, ?_⟩
        walk_at "go"
        refine ⟨.inl ⟨by omega, by omega⟩, ?_⟩
        walk_at "go"
        refine ⟨a, _, rfl, s.seq hA2.sq, fun c nc => ?_⟩
        walk_at "b"
        rw [show (0 : Int) + (k : Int) = k by omega, cut_part]
        obtain ⟨H3, e3, s3, h3⟩ := fresh (.lst ((part ns sz k).map V.int)) nc
        rw [e3]
        refine ⟨c, part ns sz k, rfl, ⟨.inl h3, fun n hn => hA.2.1 n (part_mem hn), Nat.le_trans (part_len _ _ _) hl⟩, fun H4 p4 xs s4 h4 hL => ?_⟩
        walk_at "go"
        refine ⟨p4, xs, 0, _, rfl, rfl, .inl (.inl h4), least_v hL, ?_⟩
        exact qt _ (s3.trans s4)
      · intro H3 s3 hD
        refine ⟨D, _, rfl, .inl (.inl hD), ?_⟩
        have e : (((List.range (2 ^ i)).map fun k => leastP (part ns sz k))).sum = tot ns i := by unfold tot; rw [hsz]
        rw [e]
        refine ⟨t, _, _, rfl, rfl, s3 _ _ h2, by rw [List.length_map, List.length_map, List.length_range]; exact small1000 (by omega), ?_⟩
        refine ⟨_, _, _, rfl, same_over nt (s2.trans s3), ?_, fun p hp => ?_⟩
        · rw [upd_same, List.range_succ, List.map_append, List.map_append]
          rfl
        · by_cases e : p = i
          · rw [e]; exact c
          · exact hd p (by omega)
    · have hne : ¬ (((ns.length % 2 ^ i : Nat) : Int) = 0) := by omega
      walk_at "go"
      refine q _ t s2 nt ?_
      unfold totals
      rw [cnt_stop ns.length (cnt_self hd) c (by omega)]
      exact h2
  · rintro σ H2 ⟨v3, v4, v5, rfl, s2, h2, hd⟩
    walk_at "go"
    refine q _ t s2 nt ?_
    unfold totals
    rw [cnt_self hd]
    exact h2
def sp_halves (K : PySem.W.Frag) : Sp := sp_totals_of K
theorem G_halves (T : Top K mg) : FnOk P w K mg base CX0 4 T.f_halves T.fd_halves ["folds", "most"] (sp_halves K) := by
  refine T.F_halves.ok sc_halves (fun vs H Q E h => by obtain ⟨a, ns, most, rfl, _⟩ := h; rfl) (fun cdv A outer s H vs Q E hr h => ?_)
  obtain ⟨a, ns, most, rfl, hA, hm, q⟩ := h
  refine ⟨_, PSs.nox (pss_cons (ps_expr (pe_call (G_check_folds T) (hr.mono (by decide)) (by rfl) T.g_check_folds T.F_check_folds.kp T.b_check_folds .nil pass0 (pa_cons (pv 0) pa_nil)))
  (pss_cons (ps_expr (pe_call (G_check_number T) (hr.mono (by decide)) (by rfl) T.g_check_number T.F_check_number.kp T.b_check_number .nil pass0 (pa_cons (pv 1) (pa_cons pe_int (pa_cons pe_non pa_nil)))))
  (pss_one (ps_ret (pe_call (G_totals_of T) (hr.mono (by decide)) (by rfl) T.g_totals_of T.F_totals_of.kp T.b_totals_of .nil pass0 (pa_cons (pv 0) (pa_cons (pv 1) pa_nil))))))), ?_⟩
  refine ⟨_, rfl, a, ns, rfl, hA.sq, ⟨_, hA.1, _, rfl⟩, hA.2.1.nn, small1000 hA.2.2, fun H1 s1 => ?_⟩
  walk_at "go"
  refine ⟨(most : Int), 0, none, rfl, by omega, (fun j h => nomatch h), ?_⟩
  walk_at "go"
  refine ⟨a, ns, most, rfl, hA.same s1, hm, fun H2 p s2 np h2 => q _ p (s1.trans s2) (s1.free np) h2⟩
/-- the pairs, and the least of them -/
def pairsL (cost : Int) (L : List Int) : List (Int × Int) := (List.range L.length).map fun k => (L.getD k 0 + cost * 2 ^ k, (k : Int))
def BestAt (cost : Int) (L : List Int) (k : Nat) : Prop := k < L.length ∧ ∀ i, i < L.length → L.getD k 0 + cost * 2 ^ k ≤ L.getD i 0 + cost * 2 ^ i ∧ (i < k → L.getD k 0 + cost * 2 ^ k < L.getD i 0 + cost * 2 ^ i)
theorem best_of {cost : Int} {L : List Int} {p : Int × Int} {ps : List (Int × Int)} (e : pairsL cost L = p :: ps) : ∃ k : Nat, BestAt cost L k ∧ minP p ps = (L.getD k 0 + cost * 2 ^ k, (k : Int)) := by
  obtain ⟨h1, h2⟩ := minP_spec ps p
  rw [← e] at h1 h2
  obtain ⟨k, hk, ek⟩ := List.mem_map.mp h1
  have hk := List.mem_range.mp hk
  refine ⟨k, ⟨hk, fun i hi => ?_⟩, ek.symm⟩
  have := h2 _ (List.mem_map.mpr ⟨i, List.mem_range.mpr hi, rfl⟩)
  rw [← ek] at this
  unfold ltP2 at this
  dsimp only at this
  omega
theorem totals_pos (ns : List Int) (most : Nat) : 0 < (totals ns most).length := by
  unfold totals
  rw [List.length_map, List.length_range]
  have : ∀ k, 0 < cnt ns.length (k + 1) := fun k => by
    induction k with
    | zero => unfold cnt; rw [if_pos ⟨by rw [Nat.pow_zero, Nat.mod_one], rfl⟩]; omega
    | succ k ih => unfold cnt; split <;> omega
  exact this most
theorem totals_len (ns : List Int) (most : Nat) : (totals ns most).length ≤ most + 1 := by
  unfold totals
  rw [List.length_map, List.length_range]
  exact cnt_le _ _
def sp_least_half (K : PySem.W.Frag) : Sp := fun vs H Q _ => ∃ (a : Addr) (ns : List Int) (most : Nat) (cost : Int), vs = [.ref a, .int most, .int cost] ∧ FoldsAt K H a ns ∧ most ≤ 8 ∧ 0 ≤ cost ∧ cost ≤ 1000 ∧ ∀ H' p (k : Nat), Same H H' → BestAt cost (totals ns most) k → H' p = some (.tup ([(k : Int), (totals ns most).getD k 0 + cost * 2 ^ k].map V.int)) → Q (.ref p) H'
theorem G_least_half (T : Top K mg) : FnOk P w K mg base CX0 5 T.f_least_half T.fd_least_half ["folds", "most", "cost"] (sp_least_half K) := by
  refine T.F_least_half.ok sc_least_half (fun vs H Q E h => by obtain ⟨a, ns, most, cost, rfl, _⟩ := h; rfl) (fun cdv A outer s H vs Q E hr h => ?_)
  obtain ⟨a, ns, most, cost, rfl, hA, hm, hc, hc2, q⟩ := h
  refine ⟨_, PSs.nox (pss_cons (ps_expr (pe_call (G_check_folds T) (hr.mono (by decide)) (by rfl) T.g_check_folds T.F_check_folds.kp T.b_check_folds .nil pass0 (pa_cons (pv 0) pa_nil)))
  (pss_cons (ps_expr (pe_call (G_check_all T) (hr.mono (by decide)) (by rfl) T.g_check_all T.F_check_all.kp T.b_check_all .nil pass0 (pa_cons (pe_lst (pa_cons (pv 1) (pa_cons (pv 2) pa_nil))) pa_nil)))
  (pss_cons (ps_setLc (i := 3) (own := [("power", 5), ("total", 6)]) (g := gTup K 2 (gCons (gName 5) (gCons (gName 6) (gNil)))) (tt := tYes) (by rfl) sc_least_half.nd rfl rfl (sw_true rfl rfl rfl (by decide +kernel)) (k_piE K rfl (by rfl) T.n_enumerate (pa_cons (pe_call (G_totals_of T) (hr.mono (by decide)) (by rfl) T.g_totals_of T.F_totals_of.kp T.b_totals_of .nil pass0 (pa_cons (pv 0) (pa_cons (pv 1) pa_nil))) pa_nil)) (blkOk_by (own := [("power", 5), ("total", 6)]) (N := N_least_half) (sc := defScope s_least_half) (by decide +kernel)) (fun _ _ _ _ _ => (k_pgT K rfl (by rfl) (pgs_cons (pg_name (i := 5) sc_least_half.nd rfl (by first | exact Or.inl rfl | exact Or.inr rfl)) (pgs_cons (pg_name (i := 6) sc_least_half.nd rfl (by first | exact Or.inl rfl | exact Or.inr rfl)) pgs_nil)))) (fun _ _ _ _ _ => pts_nil) (fun _ _ _ _ _ => (pe_tup (pa_cons (pe_op op_add (pv 6) (pe_op op_shl (pv 2) (pv 5))) (pa_cons (pv 5) pa_nil)))))
  (pss_cons (ps_asg (pe_callB (k_minP K rfl rfl (huM hr)) (by rfl) T.n_min (by decide +kernel) (pa_cons (pv 3) pa_nil)) (k_pgT K rfl (by rfl) (pgs_cons (pg_name (i := 4) sc_least_half.nd rfl (by first | exact Or.inl rfl | exact Or.inr rfl)) (pgs_cons (pg_name (i := 5) sc_least_half.nd rfl (by first | exact Or.inl rfl | exact Or.inr rfl)) pgs_nil))))
  (pss_one (ps_ret (pe_tup (pa_cons (pv 5) (pa_cons (pv 4) pa_nil))))))))), ?_⟩
  refine ⟨_, rfl, a, ns, rfl, hA.sq, ⟨_, hA.1, _, rfl⟩, hA.2.1.nn, small1000 hA.2.2, fun H1 s1 => ?_⟩
  walk_at "go"
  refine ⟨(show 2 ≤ sizeLine by decide), fun p np => ?_⟩
  obtain ⟨H2, e2, s2, h2⟩ := fresh (.lst [V.int most, V.int cost]) np
  rw [e2]
  refine ⟨p, [(most : Int), cost], rfl, .inl (.inl h2), (fun n hn => ?_), ?_⟩
  · simp only [List.mem_cons, List.not_mem_nil, or_false] at hn
    omega
  walk_at "go"
  refine ⟨a, ns, most, rfl, hA.same (s1.trans s2), hm, fun H3 t s3 nt h3 => ?_⟩
  have hL0 := totals_pos ns most
  have hL1 := totals_len ns most
  generalize totals ns most = L at *
  refine ⟨t, _, rfl, .inl (.inl h3), fun D nD => ?_⟩
  refine lc_dW (walk_enum (K := K) (a := t) (xs := L.map V.int)) (S := []) Has.nil ((pairsL cost L).map fun x => some (pairD x)) nD (by unfold pairsL; rw [List.length_map, List.length_map, List.length_map, List.length_range]) (by rw [List.length_map]; exact small1000 (by omega)) (fun H' s => .inl (.inl (s _ _ h3))) ?_ ?_
  · rintro i o H0 x H' hi ho s hH ⟨T1, x1, y1, rfl, nT, rfl, e1, e2⟩ Qt qt
    rw [List.length_map] at hi
    cases e1
    dsimp only at e2
    rw [List.getElem?_map, List.getElem?_eq_getElem hi] at e2
    cases e2
    unfold pairsL at ho
    rw [List.getElem?_map, List.getElem?_map, List.getElem?_range hi] at ho
    cases ho
    have st := same_upd (o := .tup [V.int (i : Nat), V.int L[i]]) nT
    refine ⟨T1, _, rfl, .inl (.inl upd_same), rfl, ?_⟩
    generalize upd H0 T1 (.tup [V.int (i : Nat), V.int L[i]]) = H5 at st
    refine ⟨_, _, rfl, _, _, rfl, rfl, ⟨rfl, ?_⟩⟩
    walk_at "go"
    refine ⟨⟨by omega, by omega, by omega⟩, ?_⟩
    walk_at "go"
    refine ⟨(show 2 ≤ sizeLine by decide), fun p' np' => ?_⟩
    refine qt _ _ (st.trans (same_upd np')) (dt_newT (hH.same st) np' ?_)
    dsimp only
    rw [List.getD_eq_getElem?_getD, List.getElem?_eq_getElem hi, Option.getD_some]
    exact .cons (.int _) (.cons (.int _) .nil)
  · intro H4 s4 _ dD
    rw [sel_map, rs_nil] at dD
    obtain ⟨b, bs, eb⟩ : ∃ b bs, pairsL cost L = b :: bs := by
      cases e : pairsL cost L with
      | nil => have := congrArg List.length e; simp only [pairsL, List.length_map, List.length_range, List.length_nil] at this; omega
      | cons b bs => exact ⟨b, bs, rfl⟩
    obtain ⟨k, hk, em⟩ := best_of eb
    walk_at "go"
    refine ⟨D, b, bs, rfl, ?_, fun t5 h5 => ?_⟩
    · rw [← eb]
      exact dt_pairs dD
    rw [em] at h5
    refine ⟨t5, _, rfl, h5, rfl, ?_⟩
    refine ⟨_, _, rfl, _, _, rfl, rfl, ?_⟩
    walk_at "go"
    refine ⟨(show 2 ≤ sizeLine by decide), fun r nr => ?_⟩
    exact q _ r k ((((s1.trans s2).trans s3).trans s4).trans (same_upd nr)) hk upd_same
end
end My

namespace My
open PySem PySem.Spec PyProof.Rows L2 Pre
local macro_rules | `(tactic| walk_at "go") => `(tactic| repeat (first | (with_reducible first | refine iteT ?_ | refine iteF ?_ | refine iteNtt ?_ | refine iteNff ?_ | refine iteET (by omega) ?_ | refine iteEF (by omega) ?_ | refine iteENT (by omega) ?_ | refine iteENF (by omega) ?_ | refine iteDT (by omega) ?_ | refine iteDF (by omega) ?_ | refine iteNT (by omega) ?_ | refine iteNF (by omega) ?_) | refine ⟨_, rfl, ?_⟩ | refine ⟨_, _, rfl, rfl, ?_⟩ | refine ⟨_, _, rfl, ?_⟩ | refine ⟨rfl, ?_⟩ | refine .inl ⟨_, rfl, ?_⟩ | refine .inr ⟨_, rfl, ?_⟩))
local macro_rules | `(tactic| walk_at "b") => `(tactic| try dsimp (config := { proj := false, iota := false, eta := false, zeta := false }) only)
section
variable {P : Program} {w : World} {K : PySem.W.Frag} {mg : Str → Option Value} {base : Heap}
def sp_law_least_price (K : PySem.W.Frag) : Sp := fun vs H Q _ => ∃ (a : Addr) (ns : List Int), vs = [.ref a] ∧ SqL K H a (ns.map V.int) ∧ ∀ H', Same H H' → Q (.int (leastP ns)) H'
theorem G_law_least_price (T : Top K mg) : FnOk P w K mg base CX0 2 T.f_law_least_price T.fd_law_least_price ["_law_folds"] (sp_law_least_price K) := by
  refine T.F_law_least_price.ok sc_law_least_price (fun vs H Q E h => by obtain ⟨a, ns, rfl, _⟩ := h; rfl) (fun cdv A outer s H vs Q E hr h => ?_)
  obtain ⟨a, ns, rfl, hA, q⟩ := h
  refine ⟨_, PSs.nox (pss_one (ps_ret (pe_callB (k_min K rfl rfl) (by rfl) T.n_min (by decide +kernel) (pa_cons (pe_lc (own := [("_law_width", 1)]) (g := gName 1) (tt := tYes) (by rfl) sc_law_least_price.nd (pi_range1 (by rfl) T.n_range (pa_cons pe_int pa_nil)) (blkOk_by (own := [("_law_width", 1)]) (N := N_law_least_price) (sc := defScope s_law_least_price) (by decide +kernel)) (fun _ _ _ _ _ => (pg_name (i := 1) sc_law_least_price.nd rfl (by first | exact Or.inl rfl | exact Or.inr rfl))) (fun _ _ _ _ _ => pts_nil) (fun _ _ _ _ _ => (pe_call (G_law_price T) (hr.mono (by decide)) (by rfl) T.g_law_price T.F_law_price.kp T.b_law_price .nil pass0 (pa_cons (pv 0) (pa_cons (pv 1) pa_nil))))) pa_nil)))), ?_⟩
  refine ⟨_, rfl, by decide, by decide, fun D nD => ?_⟩
  refine lc_mapR (lo := 0) (n := 42) (((List.range 42).map fun (w : Nat) => price ns w).map V.int) nD (by rw [List.length_map, List.length_map, List.length_range]) (small1000 (by decide)) (fun x => rfl) ?_ ?_
  · intro i y H' hi hy s Qt qt
    rw [List.getElem?_map, List.getElem?_map, List.getElem?_range hi] at hy
    cases hy
    refine ⟨_, rfl, _, rfl, a, ns, i, ?_, s.seq hA, by omega, qt _ (Same.refl _)⟩
    show [V.ref a, V.int (0 + (i : Int))] = _
    rw [Int.zero_add]
  · intro H1 s1 hD
    refine ⟨D, _, rfl, .inl (.inl hD), by rw [List.length_map, List.length_range]; decide, fun M hM hle => ?_⟩
    rw [min_uniq hM hle]
    exact q _ s1
def sp_law_gain : Sp := fun vs H Q _ => ∃ (a b : Addr) (A B : List Int), vs = [.ref a, .ref b] ∧ H a = some (.lst (A.map V.int)) ∧ H b = some (.lst (B.map V.int)) ∧ A.length ≤ 500 ∧ B.length ≤ 500 ∧ ∀ H', Same H H' → Q (.int (gainF A B)) H'
theorem G_law_gain (T : Top K mg) : FnOk P w K mg base CX0 3 T.f_law_gain T.fd_law_gain ["_law_one", "_law_other"] sp_law_gain := by
  refine T.F_law_gain.ok sc_law_gain (fun vs H Q E h => by obtain ⟨a, b, A, B, rfl, _⟩ := h; rfl) (fun cdv A outer s H vs Q E hr h => ?_)
  obtain ⟨a, b, A, B, rfl, hA, hB, lA, lB, q⟩ := h
  refine ⟨_, PSs.nox (pss_one (ps_ret (pe_op op_sub (pe_op op_sub (pe_call (G_law_least_price T) (hr.mono (by decide)) (by rfl) T.g_law_least_price T.F_law_least_price.kp T.b_law_least_price .nil pass0 (pa_cons (pe_op op_cat (pv 0) (pv 1)) pa_nil)) (pe_call (G_law_least_price T) (hr.mono (by decide)) (by rfl) T.g_law_least_price T.F_law_least_price.kp T.b_law_least_price .nil pass0 (pa_cons (pv 0) pa_nil))) (pe_call (G_law_least_price T) (hr.mono (by decide)) (by rfl) T.g_law_least_price T.F_law_least_price.kp T.b_law_least_price .nil pass0 (pa_cons (pv 1) pa_nil))))), ?_⟩
  refine ⟨_, rfl, _, rfl, a, b, _, _, rfl, rfl, hA, hB, by rw [List.length_map, List.length_map, sizeLine_eq]; omega, fun c nc => ?_⟩
  rw [← List.map_append]
  obtain ⟨H1, e1, s1, h1⟩ := fresh (.lst ((A ++ B).map V.int)) nc
  rw [e1]
  refine ⟨c, A ++ B, rfl, .inl (.inl h1), fun H2 s2 => ?_⟩
  refine ⟨_, rfl, a, A, rfl, .inl (.inl (s2 _ _ (s1 _ _ hA))), fun H3 s3 => ?_⟩
  refine ⟨_, _, rfl, rfl, _, rfl, b, B, rfl, .inl (.inl (s3 _ _ (s2 _ _ (s1 _ _ hB)))), fun H4 s4 => ?_⟩
  refine ⟨_, _, rfl, rfl, ?_⟩
  exact q _ (((s1.trans s2).trans s3).trans s4)
def sp_law_drawn : Sp := fun vs H Q _ => ∃ (g : Addr) (many bits n : Nat), vs = [.ref g, .int many, .int bits] ∧ GenAt H g n ∧ n ≤ 10 ^ 8 ∧ many ≤ 100 ∧ bits ≤ 40 ∧ ∀ H' p ns, But g H H' → GenAt H' g (n + 100 + 300 * many) → H p = none → H' p = some (.lst (ns.map V.int)) → ns.length = many → Below bits ns → Q (.ref p) H'
theorem G_law_drawn (T : Top K mg) : FnOk P w K mg base CX0 3 T.f_law_drawn T.fd_law_drawn ["_law_generator_here", "_law_many", "_law_bits"] sp_law_drawn := by
  refine T.F_law_drawn.ok sc_law_drawn (fun vs H Q E h => by obtain ⟨g, many, bits, n, rfl, _⟩ := h; rfl) (fun cdv A outer s H vs Q E hr h => ?_)
  obtain ⟨g, many, bits, n, rfl, hG, hn, hm, hb, q⟩ := h
  refine ⟨_, PSs.nox (pss_cons (ps_set (i := 3) sc_law_drawn.nd rfl (by first | exact Or.inl rfl | exact Or.inr rfl) (pe_op op_shl pe_int (pe_call (G_law_random T) (hr.mono (by decide)) (by rfl) T.g_law_random T.F_law_random.kp T.b_law_random .nil pass0 (pa_cons (pv 0) (pa_cons (pe_op op_add (pv 2) pe_int) pa_nil)))))
  (pss_one (ps_ret (pe_lc (own := [("_law_turn", 4)]) (g := gName 4) (tt := tYes) (by rfl) sc_law_drawn.nd (pi_range1 (by rfl) T.n_range (pa_cons (pv 1) pa_nil)) (blkOk_by (own := [("_law_turn", 4)]) (N := N_law_drawn) (sc := defScope s_law_drawn) (by decide +kernel)) (fun _ _ _ _ _ => (pg_name (i := 4) sc_law_drawn.nd rfl (by first | exact Or.inl rfl | exact Or.inr rfl))) (fun _ _ _ _ _ => pts_nil) (fun _ _ _ _ _ => (pe_ix (k_ixL K rfl) (pe_lst (pa_cons (pe_op op_sub (pv 3) pe_int) (pa_cons (pe_call (G_law_random T) (hr.mono (by decide)) (by rfl) T.g_law_random T.F_law_random.kp T.b_law_random .nil pass0 (pa_cons (pv 0) (pa_cons (pv 3) pa_nil))) pa_nil))) (pe_call (G_law_random T) (hr.mono (by decide)) (by rfl) T.g_law_random T.F_law_random.kp T.b_law_random .nil pass0 (pa_cons (pv 0) (pa_cons pe_int pa_nil))) (fun _ _ => rfl))))))), ?_⟩
  walk_at "go"
  refine ⟨g, _, _, rfl, hG, by omega, by omega, small_2900 (by omega), fun r H1 r0 r1 g1 b1 => ?_⟩
  obtain ⟨d, rfl⟩ : ∃ d : Nat, r = (d : Int) := ⟨r.toNat, by omega⟩
  walk_at "go"
  refine ⟨⟨by omega, by omega, by decide⟩, ?_⟩
  walk_at "b"
  rw [Int.one_mul, Int.toNat_natCast]
  have hp := pow_pos' d
  have hp2 : (2 : Int) ^ d ≤ 2 ^ bits := pow2_le (by omega)
  have hp3 : (2 : Int) ^ d ≤ 2 ^ 40 := pow2_le (by omega)
  walk_at "go"
  refine ⟨by omega, by omega, fun D nD => ?_⟩
  rw [Int.toNat_natCast]
  refine lc_drawR (lo := 0) (n := many) g (n + 100) 300 (fun y => 0 ≤ y ∧ y < 2 ^ bits) nD g1 (small1000 (by omega)) (fun x => rfl) ?_ ?_
  · intro i H' hi b' g' Qt qt
    walk_at "go"
    refine ⟨g, _, _, rfl, g', by omega, hp, small_2900 (by omega), fun r2 H2 r20 r21 g2 b2 => ?_⟩
    refine ⟨(show 2 ≤ sizeLine by decide), fun c nc => ?_⟩
    obtain ⟨H3, e3, s3, h3⟩ := fresh (.lst ([2 ^ d - 1, r2].map V.int)) nc
    have e3' : upd H2 c (.lst [V.int (2 ^ d - 1), V.int r2]) = H3 := e3
    walk_at "b"
    rw [e3']
    walk_at "go"
    refine ⟨g, _, _, rfl, g2.same s3, by omega, by decide, small_2900 (by decide), fun r3 H4 r30 r31 g4 b4 => ?_⟩
    have ncg : c ≠ g := g2.ne nc
    have h4 := b4 _ _ ncg h3
    obtain ⟨y, hy, y0, y1⟩ : ∃ y : Int, atI ([2 ^ d - 1, r2].map V.int) r3 = some (.int y) ∧ 0 ≤ y ∧ y < 2 ^ bits := by
      have : r3 = 0 ∨ r3 = 1 := by omega
      rcases this with rfl | rfl
      · exact ⟨_, rfl, by omega, by omega⟩
      · exact ⟨_, rfl, by omega, by omega⟩
    refine ⟨c, _, _, _, rfl, rfl, .inl (.inl h4), hy, ?_⟩
    exact qt y _ ⟨y0, y1⟩ ((b2.same s3).trans b4) (g4.mono (by omega))
  · intro H2 ys b2 g2 hD hl hP
    refine q _ D ys (b1.trans b2) (g2.mono (by omega)) ?_ hD hl hP
    exact b1.free (g1.ne nD) nD
end
end My

namespace My
open PySem PySem.Spec PyProof.Rows L2 Pre
theorem rowG_ok (n1 n2 bits : Nat) (hb : bits ≤ 30) : (rowG n1 n2 bits).1.length = n1 ∧ (rowG n1 n2 bits).2.length = n2 ∧ Below bits (rowG n1 n2 bits).1 ∧ Below bits (rowG n1 n2 bits).2 ∧ gainF (rowG n1 n2 bits).1 (rowG n1 n2 bits).2 = gmax n1 n2 bits := by
  have hp := pow_pos' bits
  have z0 : ∀ k, Below bits (List.replicate k 0) := fun k n hn => by rw [(List.mem_replicate.mp hn).2]; exact ⟨by decide, hp⟩
  have z1 : ∀ k, Below bits (List.replicate k (2 ^ bits - 1)) := fun k n hn => by rw [(List.mem_replicate.mp hn).2]; exact ⟨by omega, by omega⟩
  unfold rowG gmax
  split
  · refine ⟨List.length_replicate .., List.length_replicate .., z0 _, z1 _, ?_⟩
    show gainF (List.replicate n1 0) (List.replicate n2 (2 ^ bits - 1)) = _
    rw [gain_rows _ _ _ hb, if_neg (by omega)]
  · refine ⟨List.length_replicate .., List.length_replicate .., z1 _, z0 _, ?_⟩
    show gainF (List.replicate n1 (2 ^ bits - 1)) (List.replicate n2 0) = _
    rw [gain_comm, gain_rows _ _ _ hb, if_pos (by omega)]
local macro_rules | `(tactic| walk_at "go") => `(tactic| repeat (first | (with_reducible first | refine iteT ?_ | refine iteF ?_ | refine iteNtt ?_ | refine iteNff ?_ | refine iteET (by omega) ?_ | refine iteEF (by omega) ?_ | refine iteENT (by omega) ?_ | refine iteENF (by omega) ?_ | refine iteDT (by omega) ?_ | refine iteDF (by omega) ?_ | refine iteNT (by omega) ?_ | refine iteNF (by omega) ?_) | refine ⟨_, rfl, ?_⟩ | refine ⟨_, _, rfl, rfl, ?_⟩ | refine ⟨_, _, rfl, ?_⟩ | refine ⟨rfl, ?_⟩ | refine .inl ⟨_, rfl, ?_⟩ | refine .inr ⟨_, rfl, ?_⟩))
local macro_rules | `(tactic| walk_at "b") => `(tactic| try dsimp (config := { proj := false, iota := false, eta := false, zeta := false }) only)
section
variable {P : Program} {w : World} {K : PySem.W.Frag} {mg : Str → Option Value} {base : Heap}
def sp_law_rows_right (K : PySem.W.Frag) : Sp := fun vs H Q _ => ∃ (n1 n2 bits : Nat), vs = [.int n1, .int n2, .int bits, .int (gmax n1 n2 bits)] ∧ n1 ≤ 100 ∧ n2 ≤ 100 ∧ bits ≤ 30 ∧ ∀ H', Same H H' → Q (.bl true) H'
theorem G_law_rows_right (T : Top K mg) : FnG P w K mg base CX0 7 T.f_law_rows_right T.fd_law_rows_right ["_law_one", "_law_other", "_law_bits", "_law_most"] (sp_law_rows_right K) := by
  refine FnG.body T.F_law_rows_right sc_law_rows_right (fun vs H Q E h => by obtain ⟨n1, n2, bits, rfl, _⟩ := h; rfl) (fun cdv A outer s H vs Q E gd hr h => ?_)
  obtain ⟨n1, n2, bits, rfl, h1, h2, h3, q⟩ := h
  refine ⟨_, PSs.nox (pss_cons (ps_asg (pe_call (G_gain_rows T) (hr.mono (by decide)) (by rfl) T.g_gain_rows T.F_gain_rows.kp T.b_gain_rows .nil pass0 (pa_cons (pv 0) (pa_cons (pv 1) (pa_cons (pv 2) pa_nil)))) (k_pgT K rfl (by rfl) (pgs_cons (pg_name (i := 5) sc_law_rows_right.nd rfl (by first | exact Or.inl rfl | exact Or.inr rfl)) (pgs_cons (pg_name (i := 6) sc_law_rows_right.nd rfl (by first | exact Or.inl rfl | exact Or.inr rfl)) pgs_nil))))
  (pss_cons (ps_if (PW.pt (pw_or (pt_cmpR (k_neD K rfl hr.units) (pe_lst (pa_cons (pe_callB (k_len K rfl) (by rfl) T.n_len (by decide +kernel) (pa_cons (pv 5) pa_nil)) (pa_cons (pe_callB (k_len K rfl) (by rfl) T.n_len (by decide +kernel) (pa_cons (pv 6) pa_nil)) pa_nil))) (pe_lst (pa_cons (pv 0) (pa_cons (pv 1) pa_nil))) (nomark _)) (pw_or1 (pt_cmpR (k_neD K rfl hr.units) (pe_lc (own := [("_law_fold", 8)]) (g := gName 8) (by rfl) sc_law_rows_right.nd (k_piL K rfl (pe_op op_cat (pv 5) (pv 6))) (blkOk_by (own := [("_law_fold", 8)]) (N := N_law_rows_right) (sc := defScope s_law_rows_right) (by decide +kernel)) (fun _ _ _ _ _ => (pg_name (i := 8) sc_law_rows_right.nd rfl (by first | exact Or.inl rfl | exact Or.inr rfl))) (fun _ _ _ _ _ => (pts_one (pt_not (pt_chain op_le op_lt pe_int (pv 8) (pe_op op_shl pe_int (pv 2)))))) (fun _ _ _ _ _ => (pv 8))) (pe_lst pa_nil) (nomark _)))))
    (pss_one (ps_ret pe_bl))
    pss_nil)
  (pss_cons (ps_if (PW.pt (pw_or (pt_cmpR op_ne (pe_call (G_law_gain T) (hr.mono (by decide)) (by rfl) T.g_law_gain T.F_law_gain.kp T.b_law_gain .nil pass0 (pa_cons (pv 5) (pa_cons (pv 6) pa_nil))) (pv 3) (nomark _)) (pw_or1 (pt_cmpR op_ne (pe_call (G_greatest_gain T) (hr.mono (by decide)) (by rfl) T.g_greatest_gain T.F_greatest_gain.kp T.b_greatest_gain .nil pass0 (pa_cons (pv 1) (pa_cons (pv 0) (pa_cons (pv 2) pa_nil)))) (pv 3) (nomark _)))))
    (pss_one (ps_ret pe_bl))
    pss_nil)
  (pss_cons (ps_setLc (i := 4) (own := [("_law_cost", 7)]) (g := gName 7) (tt := tYes) (by rfl) sc_law_rows_right.nd rfl rfl (sw_true rfl rfl rfl (by decide +kernel)) (k_piL K rfl (pe_lst (pa_cons (pv 3) (pa_cons (pe_op op_add (pv 3) pe_int) (pa_cons (pe_callB (call_max2 rfl) (by rfl) T.n_max (by decide +kernel) (pa_cons pe_int (pa_cons (pe_op op_sub (pv 3) pe_int) pa_nil))) pa_nil))))) (blkOk_by (own := [("_law_cost", 7)]) (N := N_law_rows_right) (sc := defScope s_law_rows_right) (by decide +kernel)) (fun _ _ _ _ _ => (pg_name (i := 7) sc_law_rows_right.nd rfl (by first | exact Or.inl rfl | exact Or.inr rfl))) (fun _ _ _ _ _ => pts_nil) (fun _ _ _ _ _ => (pe_call (G_never_pays T) (hr.mono (by decide)) (by rfl) T.g_never_pays T.F_never_pays.kp T.b_never_pays .nil pass0 (pa_cons (pv 0) (pa_cons (pv 1) (pa_cons (pv 2) (pa_cons (pv 7) pa_nil)))))))
  (pss_one (ps_ret (pe_cmpR op_eq (pe_callB (k_repr K rfl gd (hu65 hr)) (by rfl) T.n_repr (by decide +kernel) (pa_cons (pv 4) pa_nil)) (pe_callB (k_repr K rfl gd (hu65 hr)) (by rfl) T.n_repr (by decide +kernel) (pa_cons (pe_lst (pa_cons pe_bl (pa_cons pe_bl (pa_cons (pe_cmpR op_eq (pv 3) pe_int (nomark _)) pa_nil)))) pa_nil)) (nomark _)))))))), ?_⟩
  obtain ⟨l1, l2, bl1, bl2, eg⟩ := rowG_ok n1 n2 bits h3
  have g0 := gmax_nn (show (0 : Int) ≤ n1 by omega) (show (0 : Int) ≤ n2 by omega) bits
  have gc := gmax_comm n1 n2 bits
  walk_at "go"
  refine ⟨n1, n2, bits, rfl, by omega, by omega, by omega, fun H1 t a b s1 ht ha hb => ?_⟩
  generalize (rowG n1 n2 bits).1 = A at *
  generalize (rowG n1 n2 bits).2 = B at *
  refine ⟨t, _, rfl, .inl (.inl ht), rfl, _, _, rfl, _, _, rfl, rfl, ?_⟩
  walk_at "go"
  refine ⟨a, _, rfl, .inl (.inl (.inl ha)), ?_⟩
  walk_at "go"
  refine ⟨b, _, rfl, .inl (.inl (.inl hb)), ?_⟩
  rw [List.length_map, List.length_map, l1, l2]
  refine ⟨(show 2 ≤ sizeLine by decide), fun p np => ?_⟩
  obtain ⟨H2, e2, s2, hp2⟩ := fresh (.lst ([(n1 : Int), (n2 : Int)].map V.int)) np
  have e2' : upd H1 p (.lst [V.int n1, V.int n2]) = H2 := e2
  rw [e2']
  walk_at "go"
  refine ⟨(show 2 ≤ sizeLine by decide), fun p3 np3 => ?_⟩
  obtain ⟨H3, e3, s3, hp3⟩ := fresh (.lst ([(n1 : Int), (n2 : Int)].map V.int)) np3
  have e3' : upd H2 p3 (.lst [V.int n1, V.int n2]) = H3 := e3
  rw [e3']
  refine ne_lst (ns := [(n1 : Int), (n2 : Int)]) (.inl (.inl (s3 _ _ hp2))) (.inl (.inl hp3)) ?_
  have s13 := (s1.trans s2).trans s3
  have ha3 := s3 _ _ (s2 _ _ ha)
  have hb3 := s3 _ _ (s2 _ _ hb)
  walk_at "go"
  refine ⟨a, b, _, _, rfl, rfl, ha3, hb3, by rw [List.length_map, List.length_map, sizeLine_eq]; omega, fun c nc => ?_⟩
  rw [← List.map_append]
  obtain ⟨H4, e4, s4, h4⟩ := fresh (.lst ((A ++ B).map V.int)) nc
  rw [e4]
  refine ⟨c, rfl, ⟨_, .inl (.inl h4)⟩, fun D nD => ?_⟩
  refine lc_selL (K := K) (xs := (A ++ B).map V.int) ((A ++ B).map fun _ => none) nD (.inl (.inl h4)) (by simp) (by rw [List.length_map, List.length_append, sizeLine_eq]; omega) (fun x => rfl) ?_ ?_
  · intro i x o H' hx ho s Qt qt
    obtain ⟨n, hn, rfl⟩ := int_at hx
    rw [List.getElem?_map, hn] at ho
    cases ho
    have hbn := (bl1.app bl2) n (List.mem_of_getElem? hn)
    walk_at "go"
    refine ⟨⟨by omega, by omega, by decide⟩, ?_⟩
    walk_at "b"
    rw [Int.one_mul, Int.toNat_natCast]
    walk_at "go"
    exact qt _ (Same.refl _)
  · intro H5 s5 hD
    have e0 : ((A ++ B).map fun _ => (none : Option V)).filterMap id = [] := by
      rw [List.filterMap_map]
      exact List.filterMap_eq_nil_iff.mpr fun _ _ => rfl
    rw [e0] at hD
    refine ⟨Nat.zero_le _, fun p6 np6 => ?_⟩
    obtain ⟨H6, e6, s6, h6⟩ := fresh (.lst ([].map V.int)) np6
    have e6' : upd H5 p6 (.lst []) = H6 := e6
    rw [e6']
    refine ne_lst (ns := []) (.inl (.inl (s6 _ _ hD))) (.inl (.inl h6)) ?_
    have s36 := (s4.trans s5).trans s6
    walk_at "go"
    refine ⟨a, b, A, B, rfl, s36 _ _ ha3, s36 _ _ hb3, by omega, by omega, fun H7 s7 => ?_⟩
    walk_at "go"
    refine ⟨n2, n1, bits, rfl, by omega, by omega, by omega, by omega, h3, fun H8 s8 => ?_⟩
    walk_at "go"
    refine ⟨(show 3 ≤ sizeLine by decide), fun p9 np9 => ?_⟩
    obtain ⟨H9, e9, s9, h9⟩ := fresh (.lst ([gmax n1 n2 bits, gmax n1 n2 bits + 1, (if gmax n1 n2 bits - 1 > 0 then gmax n1 n2 bits - 1 else 0)].map V.int)) np9
    have e9' : upd H8 p9 (.lst [V.int (gmax n1 n2 bits), V.int (gmax n1 n2 bits + 1), V.int (if gmax n1 n2 bits - 1 > 0 then gmax n1 n2 bits - 1 else 0)]) = H9 := e9
    walk_at "b"
    rw [e9']
    have s39 := ((s36.trans s7).trans s8).trans s9
    generalize hG : gmax n1 n2 bits = G at *
    refine ⟨p9, rfl, ⟨_, .inl (.inl h9)⟩, fun D2 nD2 => ?_⟩
    refine lc_mapL (K := K) (xs := [G, G + 1, (if G - 1 > 0 then G - 1 else 0)].map V.int) ([V.bl true, V.bl true, V.bl (decide (G = 0))]) nD2 (.inl (.inl h9)) rfl (show 3 < sizeLine by decide) (fun x => rfl) ?_ ?_
    · intro i x y H' hx hy s Qt qt
      obtain ⟨n, hn, rfl⟩ := int_at hx
      have hin : 0 ≤ n ∧ y = V.bl (decide (G ≤ n)) := by
        match i, hn, hy with
        | 0, hn, hy => cases hn; cases hy; exact ⟨g0, by rw [decide_eq_true (Int.le_refl _)]⟩
        | 1, hn, hy => cases hn; cases hy; exact ⟨by omega, by rw [decide_eq_true (by omega)]⟩
        | 2, hn, hy =>
          cases hn
          cases hy
          by_cases c : G = 0
          · exact ⟨by omega, by rw [decide_eq_true c, decide_eq_true (by omega)]⟩
          · exact ⟨by omega, by rw [decide_eq_false c, decide_eq_false (by omega)]⟩
        | k + 3, hn, _ => simp at hn
      obtain ⟨hn0, rfl⟩ := hin
      walk_at "go"
      refine ⟨n1, n2, bits, n, rfl, by omega, by omega, by omega, by omega, h3, hn0, fun H10 s10 => ?_⟩
      rw [hG]
      exact qt _ s10
    · intro H10 s10 hD2
      have dd : Dp K H10 (.ref D2) (.list [.bool true, .bool true, .bool (decide (G = 0))]) := .lst (.inl (.inl hD2)) (.cons (.bl _) (.cons (.bl _) (.cons (.bl _) .nil)))
      have sh : ∀ b : Bool, PyData.showable (.list [.bool true, .bool true, .bool b]) = true ∧ SeqAt.shaped (.list [.bool true, .bool true, .bool b]) = true ∧ (PyData.shown (.list [.bool true, .bool true, .bool b])).length ≤ sizeLine := by
        intro b
        cases b <;> exact ⟨by decide +kernel, by decide +kernel, by decide +kernel⟩
      walk_at "go"
      refine ⟨_, _, rfl, dd, (sh _).1, (sh _).2.1, (sh _).2.2, ?_⟩
      walk_at "go"
      refine ⟨(show 3 ≤ sizeLine by decide), fun p11 np11 => ?_⟩
      obtain ⟨H11, e11, s11, h11⟩ := fresh (.lst [V.bl true, V.bl true, V.bl (decide (V.int G = V.int 0))]) np11
      rw [e11]
      have eb : decide (V.int G = V.int 0) = decide (G = 0) := by
        by_cases c : G = 0
        · rw [decide_eq_true c, decide_eq_true (congrArg V.int c)]
        · rw [decide_eq_false c, decide_eq_false (fun z => c (V.int.inj z))]
      rw [eb] at h11
      have d2 : Dp K H11 (.ref p11) (.list [.bool true, .bool true, .bool (decide (G = 0))]) := .lst (.inl (.inl h11)) (.cons (.bl _) (.cons (.bl _) (.cons (.bl _) .nil)))
      walk_at "go"
      refine ⟨_, _, rfl, d2, (sh _).1, (sh _).2.1, (sh _).2.2, ?_⟩
      refine ⟨rfl, ?_⟩
      rw [decide_eq_true rfl]
      exact q _ (((s13.trans s39).trans s10).trans s11)
end
end My

namespace My
open PySem PySem.Spec PyProof.Rows L2 Pre
def gainsK (l r : List (List Int)) : List Int := l.flatMap fun A => r.map fun B => gainF A B
theorem below_Below {m b : Nat} {r : List Int} (h : r ∈ belowK m (2 ^ b)) : r.length = m ∧ Below b r := by
  obtain ⟨h1, h2⟩ := (below_mem _ _ _).mp h
  refine ⟨h1, fun n hn => ?_⟩
  have := h2 n hn
  rw [Int.natCast_pow] at this
  exact this
theorem max_gains {n1 n2 bits : Nat} (hb : bits ≤ 30) {M : Int} (h1 : M ∈ 0 :: gainsK (belowK n1 (2 ^ bits)) (belowK n2 (2 ^ bits))) (h2 : ∀ y ∈ 0 :: gainsK (belowK n1 (2 ^ bits)) (belowK n2 (2 ^ bits)), y ≤ M) : M = gmax n1 n2 bits := by
  refine Int.le_antisymm ?_ ?_
  · rcases List.mem_cons.mp h1 with rfl | h1
    · exact gmax_nn (by omega) (by omega) bits
    · obtain ⟨A, hA, hm⟩ := List.mem_flatMap.mp h1
      obtain ⟨B, hB, rfl⟩ := List.mem_map.mp hm
      obtain ⟨lA, bA⟩ := below_Below hA
      obtain ⟨lB, bB⟩ := below_Below hB
      have := gain_le bA bB hb
      rw [lA, lB] at this
      exact this
  · obtain ⟨l1, l2, b1, b2, e⟩ := rowG_ok n1 n2 bits hb
    rw [← e]
    have mem : ∀ {m : Nat} {r : List Int}, r.length = m → Below bits r → r ∈ belowK m (2 ^ bits) := fun {m r} hl hr => (below_mem _ _ _).mpr ⟨hl, fun x hx => by
      have := hr x hx
      rw [Int.natCast_pow]
      exact this⟩
    exact h2 _ (List.mem_cons_of_mem _ (List.mem_flatMap.mpr ⟨_, mem l1 b1, List.mem_map.mpr ⟨_, mem l2 b2, rfl⟩⟩))
local macro_rules | `(tactic| walk_at "go") => `(tactic| repeat (first | (with_reducible first | refine iteT ?_ | refine iteF ?_ | refine iteNtt ?_ | refine iteNff ?_ | refine iteET (by omega) ?_ | refine iteEF (by omega) ?_ | refine iteENT (by omega) ?_ | refine iteENF (by omega) ?_ | refine iteDT (by omega) ?_ | refine iteDF (by omega) ?_ | refine iteNT (by omega) ?_ | refine iteNF (by omega) ?_) | refine ⟨_, rfl, ?_⟩ | refine ⟨_, _, rfl, rfl, ?_⟩ | refine ⟨_, _, rfl, ?_⟩ | refine ⟨rfl, ?_⟩ | refine .inl ⟨_, rfl, ?_⟩ | refine .inr ⟨_, rfl, ?_⟩))
local macro_rules | `(tactic| walk_at "b") => `(tactic| try dsimp (config := { proj := false, iota := false, eta := false, zeta := false }) only)
section
variable {P : Program} {w : World} {K : PySem.W.Frag} {mg : Str → Option Value} {base : Heap}
def sp_law_small_right (K : PySem.W.Frag) : Sp := fun vs H Q _ => ∃ (n1 n2 bits : Nat), vs = [.int n1, .int n2, .int bits] ∧ n1 ≤ 3 ∧ n2 ≤ 3 ∧ bits ≤ 4 ∧ (2 ^ bits) ^ n1 ≤ 64 ∧ (2 ^ bits) ^ n2 ≤ 64 ∧ ∀ H', Same H H' → Q (.bl true) H'
theorem pow_small {b m : Nat} (hb : b ≤ 4) (hm : m ≤ 3) : ∀ i, i ≤ m → (2 ^ b) ^ i ≤ 5000 := fun i hi => by
  have h1 : 2 ^ b ≤ 2 ^ 4 := Nat.pow_le_pow_right (by decide) hb
  have h2 : (2 ^ b) ^ i ≤ (2 ^ 4) ^ i := Nat.pow_le_pow_left h1 i
  have h3 : (2 ^ 4) ^ i ≤ (2 ^ 4) ^ 3 := Nat.pow_le_pow_right (by decide) (by omega)
  have h4 : (2 ^ 4) ^ 3 ≤ 5000 := by decide
  omega
theorem G_law_small_right (T : Top K mg) : FnG P w K mg base CX0 8 T.f_law_small_right T.fd_law_small_right ["_law_one", "_law_other", "_law_bits"] (sp_law_small_right K) := by
  refine FnG.body T.F_law_small_right sc_law_small_right (fun vs H Q E h => by obtain ⟨n1, n2, bits, rfl, _⟩ := h; rfl) (fun cdv A outer s H vs Q E gd hr h => ?_)
  obtain ⟨n1, n2, bits, rfl, h1, h2, h3, hs1, hs2, q⟩ := h
  refine ⟨_, PSs.nox (pss_cons (ps_par3 (by rfl) sc_law_small_right.nd (i := 5) (j := 6) (l := 7) rfl rfl rfl (by decide) (by decide) (by decide) rfl rfl rfl (pa_cons (pe_call (G_law_below T) (hr.mono (by decide)) (by rfl) T.g_law_below T.F_law_below.kp T.b_law_below .nil pass0 (pa_cons (pv 0) (pa_cons (pe_op op_shl pe_int (pv 2)) pa_nil))) (pa_cons (pe_call (G_law_below T) (hr.mono (by decide)) (by rfl) T.g_law_below T.F_law_below.kp T.b_law_below .nil pass0 (pa_cons (pv 1) (pa_cons (pe_op op_shl pe_int (pv 2)) pa_nil))) (pa_cons (pe_lst (pa_cons pe_int pa_nil)) pa_nil))) (by rfl))
  (pss_cons (ps_for PassesOwn.never rfl (k_piL K rfl (pv 5)) (pg_name (i := 3) sc_law_small_right.nd rfl (by first | exact Or.inl rfl | exact Or.inr rfl))
    (pss_one (ps_expr (pe_bm PySem.F.plainAttrs_list PySem.F.slot_list_extend PySem.F.type_list_extend mt_extend (pv 7) (pa_cons (pe_lc (own := [("_law_yours", 8)]) (g := gName 8) (tt := tYes) (by rfl) sc_law_small_right.nd (k_piL K rfl (pv 6)) (blkOk_by (own := [("_law_yours", 8)]) (N := N_law_small_right) (sc := defScope s_law_small_right) (by decide +kernel)) (fun _ _ _ _ _ => (pg_name (i := 8) sc_law_small_right.nd rfl (by first | exact Or.inl rfl | exact Or.inr rfl))) (fun _ _ _ _ _ => pts_nil) (fun _ _ _ _ _ => (pe_call (G_law_gain T) (hr.mono (by decide)) (by rfl) T.g_law_gain T.F_law_gain.kp T.b_law_gain .nil pass0 (pa_cons (pv 3) (pa_cons (pv 8) pa_nil))))) pa_nil)))))
  (pss_cons (ps_set (i := 4) sc_law_small_right.nd rfl (by first | exact Or.inl rfl | exact Or.inr rfl) (pe_call (G_greatest_gain T) (hr.mono (by decide)) (by rfl) T.g_greatest_gain T.F_greatest_gain.kp T.b_greatest_gain .nil pass0 (pa_cons (pv 0) (pa_cons (pv 1) (pa_cons (pv 2) pa_nil)))))
  (pss_one (ps_ret (pe_and (pe_cmpR op_eq (pv 4) (pe_callB (k_max K rfl rfl) (by rfl) T.n_max (by decide +kernel) (pa_cons (pv 7) pa_nil)) (nomark _)) (pe_one (pe_callG (G_law_rows_right T) gd (hr.mono (by decide)) (by rfl) T.g_law_rows_right T.F_law_rows_right.kp T.b_law_rows_right .nil pass0 (pa_cons (pv 0) (pa_cons (pv 1) (pa_cons (pv 2) (pa_cons (pv 4) pa_nil)))))))))))), ?_⟩
  have hb16 : 2 ^ bits ≤ 2 ^ 4 := Nat.pow_le_pow_right (by decide) h3
  have hbz : (2 : Int) ^ bits = ((2 ^ bits : Nat) : Int) := by rw [Int.natCast_pow]; rfl
  walk_at "go"
  refine ⟨⟨by omega, by omega, by decide⟩, ?_⟩
  walk_at "b"
  rw [Int.one_mul, Int.toNat_natCast, hbz]
  refine ⟨[], n1, 2 ^ bits, rfl, Has.nil, by omega, by omega, pow_small h3 h1, fun H1 pl s1 npl d1 => ?_⟩
  walk_at "go"
  refine ⟨⟨by omega, by omega, by decide⟩, ?_⟩
  walk_at "b"
  rw [Int.one_mul, Int.toNat_natCast, hbz]
  refine ⟨[], n2, 2 ^ bits, rfl, Has.nil, by omega, by omega, pow_small h3 h2, fun H2 pr s2 npr d2 => ?_⟩
  refine ⟨(show 1 ≤ sizeLine by decide), fun gp ngp => ?_⟩
  have hl1 := below_len n1 (2 ^ bits)
  have hl2 := below_len n2 (2 ^ bits)
  have hmax := fun M => max_gains (n1 := n1) (n2 := n2) (bits := bits) (by omega) (M := M)
  have hlw : ∀ A ∈ belowK n1 (2 ^ bits), A.length = n1 := fun A hA => (below_Below hA).1
  have hrw : ∀ A ∈ belowK n2 (2 ^ bits), A.length = n2 := fun A hA => (below_Below hA).1
  rw [← hl1] at hs1
  rw [← hl2] at hs2
  clear hl1 hl2
  generalize belowK n1 (2 ^ bits) = L at *
  generalize belowK n2 (2 ^ bits) = R at *
  have d1' := d1.same (fun b o hb => under (S := []) ngp (same_upd (o := .lst [V.int 0]) ngp) b o (rs_same s2 b o hb))
  have d2' := d2.same (under (S := []) ngp (same_upd (o := .lst [V.int 0]) ngp))
  have s3 := (s1.trans s2).trans (same_upd (o := .lst [V.int 0]) ngp)
  have h3' : (upd H2 gp (.lst [V.int 0])) gp = some (.lst ((0 :: gainsK (L.take 0) R).map V.int)) := upd_same
  have nHgp : H gp = none := s1.free (s2.free ngp)
  generalize upd H2 gp (.lst [V.int 0]) = H3 at *
  refine ⟨_, _, _, rfl, ?_⟩
  obtain ⟨pl', xs, e, hp, hx⟩ := d1'.listE
  cases e
  have hxl := hx.len
  rw [List.length_map] at hxl
  walk_at "go"
  refine ⟨⟨_, .inl (.inl (rs_le _ _ hp))⟩, for_list (K := K) (a := pl) (xs := xs) (fun k σ H4 => ∃ (v3 v8 : Option V), σ = [some (.int n1), some (.int n2), some (.int bits), v3, none, some (.ref pl), some (.ref pr), some (.ref gp), v8] ∧ Same H H4 ∧ Sta [gp] H3 H4 ∧ H4 gp = some (.lst ((0 :: gainsK (L.take k) R).map V.int))) ⟨none, none, rfl, s3, Sta.of (Same.refl _), h3'⟩ (fun k σ H4 _ ⟨_, _, _, _, s, _⟩ => .inl (.inl (rs_le _ _ (s _ _ hp)))) ?_ ?_⟩
  · rintro k x σ H4 hxk ⟨v3, v8, rfl, s4, t4, h4⟩
    obtain ⟨dx, hdx, hxd⟩ := hx.got hxk
    rw [List.getElem?_map] at hdx
    obtain ⟨A, hA, rfl⟩ := Option.map_eq_some_iff.mp hdx
    have hAl := hlw A (List.mem_of_getElem? hA)
    obtain ⟨a, rfl, ha⟩ := (hxd.same t4).intsE
    have ha := rs_le _ _ ha
    obtain ⟨pr', ys, e, hpr, hy⟩ := (d2'.same t4).listE
    cases e
    have hyl := hy.len
    rw [List.length_map] at hyl
    walk_at "go"
    refine ⟨.inl ⟨rfl, _, .inl (.inl h4)⟩, ?_⟩
    walk_at "go"
    refine ⟨⟨_, .inl (.inl (rs_le _ _ hpr))⟩, fun D nD => ?_⟩
    refine lc_mapL (K := K) (xs := ys) ((R.map fun B => gainF A B).map V.int) nD (.inl (.inl (rs_le _ _ hpr))) (by rw [List.length_map, List.length_map, hyl]) (by rw [hyl, sizeLine_eq]; omega) (fun x => rfl) ?_ ?_
    · intro m y z H' hym hz s Qt qt
      obtain ⟨dy, hdy, hyd⟩ := hy.got hym
      rw [List.getElem?_map] at hdy
      obtain ⟨B, hB, rfl⟩ := Option.map_eq_some_iff.mp hdy
      have hBl := hrw B (List.mem_of_getElem? hB)
      obtain ⟨b, rfl, hb⟩ := hyd.intsE
      rw [List.getElem?_map, List.getElem?_map, hB] at hz
      cases hz
      walk_at "go"
      exact ⟨a, b, A, B, rfl, s _ _ ha, s _ _ (rs_le _ _ hb), by omega, by omega, fun H5 s5 => qt _ s5⟩
    · intro H5 s5 hD
      have h5 := s5 _ _ h4
      have nDgp : D ≠ gp := (ne_of_none h4 nD).symm
      have hlen : (gainsK (L.take k) R).length ≤ 64 * 64 := by
        unfold gainsK
        rw [flatm_len _ R.length _ (fun A _ => List.length_map ..), List.length_take]
        exact Nat.mul_le_mul (by omega) hs2
      refine ⟨gp, D, _, _, rfl, rfl, h5, hD, ?_, ?_⟩
      · rw [List.length_map, List.length_map, List.length_map, List.length_cons, sizeLine_eq]
        omega
      · refine ⟨_, _, rfl, same_over nHgp (s4.trans s5), (t4.trans (Sta.of s5)).trans (Sta.upd List.mem_cons_self), ?_⟩
        rw [upd_same, ← List.map_append]
        unfold gainsK
        rw [flat_nextR _ _ _ A hA]
        rfl
  · rintro σ H4 ⟨v3, v8, rfl, s4, t4, h4⟩
    rw [hxl, List.take_length] at h4
    walk_at "go"
    refine ⟨n1, n2, bits, rfl, by omega, by omega, by omega, by omega, by omega, fun H5 s5 => ?_⟩
    walk_at "go"
    refine ⟨gp, _, rfl, .inl (.inl (s5 _ _ h4)), by rw [List.length_cons]; omega, fun M hM hle => ?_⟩
    have eM := hmax M hM hle
    refine ⟨rfl, _, rfl, ?_⟩
    refine iteET eM.symm ?_
    walk_at "go"
    refine ⟨n1, n2, bits, rfl, by omega, by omega, by omega, fun H6 s6 => ?_⟩
    exact q _ ((s4.trans s5).trans s6)
end
end My

namespace My
open PySem PySem.Spec PyProof.Rows L2 Pre
theorem sel_least (rows : List (List Int)) : ∃ L : List Int, (rows.map fun r => if r = [] then none else some (V.int (leastP r))).filterMap id = L.map V.int ∧ L.sum = (rows.map leastP).sum := by
  induction rows with
  | nil => exact ⟨[], rfl, rfl⟩
  | cons r rows ih =>
    obtain ⟨L, h1, h2⟩ := ih
    by_cases c : r = []
    · refine ⟨L, ?_, ?_⟩
      · rw [List.map_cons, if_pos c, List.filterMap_cons_none rfl]
        exact h1
      · rw [List.map_cons, List.sum_cons, c, leastP_nil, h2, Int.zero_add]
    · refine ⟨leastP r :: L, ?_, ?_⟩
      · rw [List.map_cons, if_neg c]
        show V.int (leastP r) :: _ = _
        rw [h1]
        rfl
      · rw [List.map_cons, List.sum_cons, List.sum_cons, h2]
theorem desc_rev {l s : List Int} (h : l.Pairwise fun a b => b ≤ a) (hp : s.Perm l) (hs : s.Pairwise (· ≤ ·)) : s.reverse = l := by
  have h1 : l.reverse.Pairwise (· ≤ ·) := List.pairwise_reverse.mpr h
  have e : s = l.reverse := List.Perm.eq_of_pairwise (fun a b _ _ h1 h2 => Int.le_antisymm h1 h2) hs h1 (hp.trans (List.reverse_perm l).symm)
  rw [e, List.reverse_reverse]
def costL (cost : Int) (L : List Int) : List Int := (List.range L.length).map fun k => L.getD k 0 + cost * 2 ^ k
theorem cost_at {cost : Int} {L : List Int} {k : Nat} (h : k < L.length) : (costL cost L)[k]? = some (L.getD k 0 + cost * 2 ^ k) := by
  unfold costL
  rw [List.getElem?_map, List.getElem?_range h]
  rfl
local macro_rules | `(tactic| walk_at "go") => `(tactic| repeat (first | (with_reducible first | refine iteT ?_ | refine iteF ?_ | refine iteNtt ?_ | refine iteNff ?_ | refine iteET (by omega) ?_ | refine iteEF (by omega) ?_ | refine iteENT (by omega) ?_ | refine iteENF (by omega) ?_ | refine iteDT (by omega) ?_ | refine iteDF (by omega) ?_ | refine iteNT (by omega) ?_ | refine iteNF (by omega) ?_) | refine ⟨_, rfl, ?_⟩ | refine ⟨_, _, rfl, rfl, ?_⟩ | refine ⟨_, _, rfl, ?_⟩ | refine ⟨rfl, ?_⟩ | refine .inl ⟨_, rfl, ?_⟩ | refine .inr ⟨_, rfl, ?_⟩))
local macro_rules | `(tactic| walk_at "b") => `(tactic| try dsimp (config := { proj := false, iota := false, eta := false, zeta := false }) only)
section
variable {P : Program} {w : World} {K : PySem.W.Frag} {mg : Str → Option Value} {base : Heap}
def sp_law_halves_right (K : PySem.W.Frag) : Sp := fun vs H Q _ => ∃ (a : Addr) (ns : List Int) (most : Nat), vs = [.ref a, .int most] ∧ H a = some (.lst (ns.map V.int)) ∧ Folds ns ∧ ns.length ≤ 200 ∧ most ≤ 8 ∧ ∀ H', Same H H' → Q (.bl true) H'
theorem G_law_halves_right (T : Top K mg) : FnOk P w K mg base CX0 6 T.f_law_halves_right T.fd_law_halves_right ["_law_folds", "_law_most"] (sp_law_halves_right K) := by
  refine T.F_law_halves_right.ok sc_law_halves_right (fun vs H Q E h => by obtain ⟨a, ns, most, rfl, _⟩ := h; rfl) (fun cdv A outer s H vs Q E hr h => ?_)
  obtain ⟨a, ns, most, rfl, hA, hF, hl, hm, q⟩ := h
  refine ⟨_, PSs.nox (pss_cons (ps_set (i := 2) sc_law_halves_right.nd rfl (by first | exact Or.inl rfl | exact Or.inr rfl) (pe_lst pa_nil))
  (pss_cons (ps_for PassesOwn.never rfl (pi_range1 (by rfl) T.n_range (pa_cons (pe_op op_add (pv 1) pe_int) pa_nil)) (pg_name (i := 3) sc_law_halves_right.nd rfl (by first | exact Or.inl rfl | exact Or.inr rfl))
    (pss_one (ps_if (PW.pt (pw_and (pt_cmpR op_eq (pe_op op_mod (pe_callB (k_len K rfl) (by rfl) T.n_len (by decide +kernel) (pa_cons (pv 0) pa_nil)) (pe_op op_shl pe_int (pv 3))) pe_int (nomark _)) (pw_and1 (pt_cmpR op_eq (pe_callB (k_len K rfl) (by rfl) T.n_len (by decide +kernel) (pa_cons (pv 2) pa_nil)) (pv 3) (nomark _)))))
    (pss_cons (ps_set (i := 6) sc_law_halves_right.nd rfl (by first | exact Or.inl rfl | exact Or.inr rfl) (pe_op op_fdivW (pe_callB (k_len K rfl) (by rfl) T.n_len (by decide +kernel) (pa_cons (pv 0) pa_nil)) (pe_op op_shl pe_int (pv 3))))
  (pss_cons (ps_setLc (i := 7) (own := [("_law_at", 8)]) (g := gName 8) (tt := tYes) (by rfl) sc_law_halves_right.nd rfl rfl (sw_true rfl rfl rfl (by decide +kernel)) (pi_range1 (by rfl) T.n_range (pa_cons (pe_op op_shl pe_int (pv 3)) pa_nil)) (blkOk_by (own := [("_law_at", 8)]) (N := N_law_halves_right) (sc := defScope s_law_halves_right) (by decide +kernel)) (fun _ _ _ _ _ => (pg_name (i := 8) sc_law_halves_right.nd rfl (by first | exact Or.inl rfl | exact Or.inr rfl))) (fun _ _ _ _ _ => pts_nil) (fun _ _ _ _ _ => (pe_slice (k_slL K rfl) (pv 0) (po_some (pe_op op_mul (pv 8) (pv 6))) (po_some (pe_op op_add (pe_op op_mul (pv 8) (pv 6)) (pv 6))))))
  (pss_one (ps_expr (pe_bm PySem.F.plainAttrs_list PySem.F.slot_list_append PySem.F.type_list_append mt_append (pv 2) (pa_cons (pe_callB (k_sum K rfl rfl) (by rfl) T.n_sum (by decide +kernel) (pa_cons (pe_lc (own := [("_law_part", 10)]) (g := gName 10) (by rfl) sc_law_halves_right.nd (k_piL K rfl (pv 7)) (blkOk_by (own := [("_law_part", 10)]) (N := N_law_halves_right) (sc := defScope s_law_halves_right) (by decide +kernel)) (fun _ _ _ _ _ => (pg_name (i := 10) sc_law_halves_right.nd rfl (by first | exact Or.inl rfl | exact Or.inr rfl))) (fun _ _ _ _ _ => (pts_one (pt_cmpR (k_neD K rfl hr.units) (pv 10) (pe_lst pa_nil) (nomark _)))) (fun _ _ _ _ _ => (pe_call (G_law_least_price T) (hr.mono (by decide)) (by rfl) T.g_law_least_price T.F_law_least_price.kp T.b_law_least_price .nil pass0 (pa_cons (pv 10) pa_nil)))) pa_nil)) pa_nil))))))
    pss_nil)))
  (pss_cons (ps_if (PW.pt (pw_or (pt_cmpR (k_neD K rfl hr.units) (pe_call (G_halves T) (hr.mono (by decide)) (by rfl) T.g_halves T.F_halves.kp T.b_halves .nil pass0 (pa_cons (pv 0) (pa_cons (pv 1) pa_nil))) (pv 2) (nomark _)) (pw_or1 (pt_cmpR (k_neD K rfl hr.units) (pe_revL (pe_callB (k_sortedI K rfl) (by rfl) T.n_sorted (by decide +kernel) (pa_cons (pv 2) pa_nil))) (pv 2) (nomark _)))))
    (pss_one (ps_ret pe_bl))
    pss_nil)
  (pss_cons (ps_for PassesOwn.never rfl (k_piL K rfl (pe_lst (pa_cons pe_int (pa_cons pe_int (pa_cons pe_int (pa_cons pe_int pa_nil)))))) (pg_name (i := 4) sc_law_halves_right.nd rfl (by first | exact Or.inl rfl | exact Or.inr rfl))
    (pss_cons (ps_setLc (i := 5) (own := [("_law_power", 3), ("_law_total", 9)]) (g := gTup K 2 (gCons (gName 3) (gCons (gName 9) (gNil)))) (tt := tYes) (by rfl) sc_law_halves_right.nd rfl rfl (sw_true rfl rfl rfl (by decide +kernel)) (k_piE K rfl (by rfl) T.n_enumerate (pa_cons (pv 2) pa_nil)) (blkOk_by (own := [("_law_power", 3), ("_law_total", 9)]) (N := N_law_halves_right) (sc := defScope s_law_halves_right) (by decide +kernel)) (fun _ _ _ _ _ => (k_pgT K rfl (by rfl) (pgs_cons (pg_name (i := 3) sc_law_halves_right.nd rfl (by first | exact Or.inl rfl | exact Or.inr rfl)) (pgs_cons (pg_name (i := 9) sc_law_halves_right.nd rfl (by first | exact Or.inl rfl | exact Or.inr rfl)) pgs_nil)))) (fun _ _ _ _ _ => pts_nil) (fun _ _ _ _ _ => (pe_op op_add (pv 9) (pe_op op_mul (pv 4) (pe_op op_shl pe_int (pv 3))))))
  (pss_one (ps_if (pt_cmpR (k_neD K rfl hr.units) (pe_call (G_least_half T) (hr.mono (by decide)) (by rfl) T.g_least_half T.F_least_half.kp T.b_least_half .nil pass0 (pa_cons (pv 0) (pa_cons (pv 1) (pa_cons (pv 4) pa_nil)))) (pe_tup (pa_cons (pe_bm PySem.F.plainAttrs_list PySem.F.slot_list_index PySem.F.type_list_index (k_index K rfl) (pv 5) (pa_cons (pe_callB (k_min K rfl rfl) (by rfl) T.n_min (by decide +kernel) (pa_cons (pv 5) pa_nil)) pa_nil)) (pa_cons (pe_callB (k_min K rfl rfl) (by rfl) T.n_min (by decide +kernel) (pa_cons (pv 5) pa_nil)) pa_nil))) (nomark _))
    (pss_one (ps_ret pe_bl))
    pss_nil))))
  (pss_one (ps_ret pe_bl)))))), ?_⟩
  refine ⟨Nat.zero_le _, fun t nt => ?_⟩
  obtain ⟨H1, e1, s1, h1⟩ := fresh (.lst []) nt
  rw [e1]
  walk_at "go"
  refine ⟨by omega, by omega, ?_⟩
  walk_at "b"
  rw [show ((most : Int) + 1).toNat = most + 1 by omega]
  refine for_range (lo := 0) (n := most + 1) (fun i σ H2 => ∃ (v3 v6 v7 v8 v10 : Option V), σ = [some (.ref a), some (.int most), some (.ref t), v3, none, none, v6, v7, v8, none, v10] ∧ Same H H2 ∧ H2 t = some (.lst (((List.range (cnt ns.length i)).map fun p => tot ns p).map V.int))) ⟨none, none, none, none, none, rfl, s1, h1⟩ ?_ ?_
  · rintro i σ H2 hi ⟨v3, v6, v7, v8, v10, rfl, s2, h2⟩
    have hA2 := s2 _ _ hA
    have hp := pow_pos' i
    have hp2 : (2 : Int) ^ i ≤ 2 ^ 8 := pow2_le (by omega)
    have hpn : 2 ^ i ≤ 2 ^ 8 := Nat.pow_le_pow_right (by decide) (by omega)
    have hc := cnt_le ns.length i
    walk_at "go"
    refine ⟨a, _, rfl, .inl (.inl (.inl hA2)), ?_⟩
    walk_at "go"
    refine ⟨⟨by omega, by omega, by decide⟩, ?_⟩
    walk_at "b"
    rw [show ((0 : Int) + (i : Int)).toNat = i by omega, Int.one_mul]
    walk_at "go"
    refine ⟨hp, ?_⟩
    walk_at "b"
    rw [List.length_map, mod2]
    by_cases c : ns.length % 2 ^ i = 0
    · rw [c]
      walk_at "go"
      refine ⟨t, _, rfl, .inl (.inl (.inl h2)), ?_⟩
      rw [List.length_map, List.length_map, List.length_range]
      by_cases c2 : cnt ns.length i = i
      · rw [c2]
        have ec : cnt ns.length (i + 1) = i + 1 := by unfold cnt; rw [if_pos ⟨c, c2⟩]
        walk_at "go"
        refine ⟨a, _, rfl, .inl (.inl (.inl hA2)), ?_⟩
        walk_at "go"
        refine ⟨⟨by omega, by omega, by decide⟩, ?_⟩
        walk_at "b"
        rw [show ((0 : Int) + (i : Int)).toNat = i by omega, Int.one_mul]
        walk_at "go"
        refine ⟨wide_div (b := 60) hp (by omega) (by decide) (by decide), ?_⟩
        walk_at "b"
        rw [List.length_map, div2]
        generalize hsz : ns.length / 2 ^ i = sz
        have hsz2 : sz ≤ 200 := by rw [← hsz]; exact Nat.le_trans (Nat.div_le_self _ _) hl
        walk_at "go"
        refine ⟨⟨by omega, by omega, by decide⟩, ?_⟩
        walk_at "b"
        rw [show ((0 : Int) + (i : Int)).toNat = i by omega, Int.one_mul]
        refine ⟨_, rfl, by omega, by omega, fun D nD => ?_⟩
        rw [show ((2 : Int) ^ i).toNat = 2 ^ i by rw [← pw2]; omega]
        refine lc_dR (lo := 0) (n := 2 ^ i) (S := []) Has.nil (((List.range (2 ^ i)).map fun k => part ns sz k).map fun r => some (rowD r)) nD (by rw [List.length_map, List.length_map, List.length_range]) (small1000 (by omega)) (fun x => rfl) ?_ ?_
        · intro k o H' hk ho s hH Qt qt
          rw [List.getElem?_map, List.getElem?_map, List.getElem?_range hk] at ho
          cases ho
          walk_at "go"
          refine ⟨.inl ⟨by omega, by omega⟩, ?_⟩
          walk_at "go"
          refine ⟨.inl ⟨by omega, by omega⟩, ?_⟩
          walk_at "go"
          refine ⟨a, _, rfl, .inl (.inl (s _ _ hA2)), fun c3 nc3 => ?_⟩
          walk_at "b"
          rw [show (0 : Int) + (k : Int) = k by omega, show (k : Int) * sz + sz = ((k : Int) + 1) * sz by rw [Int.add_mul, Int.one_mul], cut_part]
          exact qt _ _ (same_upd nc3) (dt_new hH nc3 (DtA.ints _))
        · intro H3 s3 _ d3
          rw [sel_map, rs_nil] at d3
          obtain ⟨_, xs, e, hD, hx⟩ := d3.listE
          cases e
          have hxl := hx.len
          rw [List.length_map, List.length_map, List.length_range] at hxl
          have h3 := s3 _ _ h2
          walk_at "go"
          refine ⟨.inl ⟨rfl, _, .inl (.inl h3)⟩, ?_⟩
          walk_at "go"
          refine ⟨⟨_, .inl (.inl hD)⟩, fun D2 nD2 => ?_⟩
          refine lc_selL (K := K) (xs := xs) (((List.range (2 ^ i)).map fun k => part ns sz k).map fun r => if r = [] then none else some (V.int (leastP r))) nD2 (.inl (.inl hD)) (by rw [List.length_map, List.length_map, List.length_range, hxl]) (by rw [hxl]; exact small1000 (by omega)) (fun x => rfl) ?_ ?_
          · intro k x o H' hxk ho s Qt qt
            obtain ⟨dx, hdx, hxd⟩ := hx.got hxk
            rw [List.getElem?_map] at hdx ho
            obtain ⟨r, hr, rfl⟩ := Option.map_eq_some_iff.mp hdx
            rw [hr] at ho
            cases ho
            obtain ⟨ra, rfl, hra⟩ := hxd.intsE
            have hra' := s _ _ hra
            walk_at "go"
            refine ⟨Nat.zero_le _, fun p4 np4 => ?_⟩
            obtain ⟨H4, e4, s4, h4⟩ := fresh (.lst ([].map V.int)) np4
            have e4' : upd H' p4 (.lst []) = H4 := e4
            rw [e4']
            refine neD_lst (ns := r) (ms := []) (.inl (.inl (s4 _ _ hra'))) (.inl (.inl h4)) ?_
            dsimp only at qt
            by_cases cr : r = []
            · rw [decide_eq_true cr]
              rw [if_pos cr] at qt
              walk_at "go"
              exact qt _ s4
            · rw [decide_eq_false cr]
              rw [if_neg cr] at qt
              walk_at "go"
              exact ⟨ra, r, rfl, .inl (.inl (s4 _ _ hra')), fun H5 s5 => qt _ (s4.trans s5)⟩
          · intro H4 s4 hD2
            obtain ⟨L, eL, hLs⟩ := sel_least ((List.range (2 ^ i)).map fun k => part ns sz k)
            rw [eL] at hD2
            refine ⟨D2, L, rfl, .inl (.inl hD2), ?_⟩
            have e : L.sum = tot ns i := by rw [hLs, List.map_map]; unfold tot; rw [hsz]; rfl
            rw [e]
            refine ⟨t, _, _, rfl, rfl, s4 _ _ h3, by rw [List.length_map, List.length_map, List.length_range]; exact small1000 (by omega), ?_⟩
            refine ⟨_, _, _, _, _, rfl, same_over nt ((s2.trans s3).trans s4), ?_⟩
            rw [upd_same, ec, List.range_succ, List.map_append, List.map_append, c2]
            rfl
      · have ec : cnt ns.length (i + 1) = cnt ns.length i := by
          rw [show cnt ns.length (i + 1) = if ns.length % 2 ^ i = 0 ∧ cnt ns.length i = i then i + 1 else cnt ns.length i from rfl, if_neg (fun z => c2 z.2)]
        have hne : ¬ (((cnt ns.length i : Nat) : Int) = 0 + (i : Int)) := by omega
        walk_at "go"
        exact ⟨_, v6, v7, v8, v10, rfl, s2, by rw [ec]; exact h2⟩
    · have ec : cnt ns.length (i + 1) = cnt ns.length i := by
        rw [show cnt ns.length (i + 1) = if ns.length % 2 ^ i = 0 ∧ cnt ns.length i = i then i + 1 else cnt ns.length i from rfl, if_neg (fun z => c z.1)]
      have hne : ¬ (((ns.length % 2 ^ i : Nat) : Int) = 0) := by omega
      walk_at "go"
      exact ⟨_, v6, v7, v8, v10, rfl, s2, by rw [ec]; exact h2⟩
  · rintro σ H2 ⟨v3, v6, v7, v8, v10, rfl, s2, h2⟩
    have eT : ((List.range (cnt ns.length (most + 1))).map fun p => tot ns p) = totals ns most := rfl
    rw [eT] at h2
    have hL0 := totals_pos ns most
    have hL1 := totals_len ns most
    have hdesc := totals_desc ns most
    have hFA : ∀ {H' : Hp}, Same H H' → FoldsAt K H' a ns := fun s => ⟨.inl (s _ _ hA), hF, by omega⟩
    walk_at "go"
    refine ⟨a, ns, most, rfl, hFA s2, hm, fun H3 p3 s3 np3 h3 => ?_⟩
    walk_at "go"
    refine ne_lst (ns := totals ns most) (.inl (.inl h3)) (.inl (.inl (s3 _ _ h2))) ?_
    walk_at "go"
    refine ⟨t, totals ns most, rfl, .inl (.inl (s3 _ _ h2)), fun ns' p4 hpm hpw np4 => ?_⟩
    obtain ⟨H4, e4, s4, h4⟩ := fresh (.lst (ns'.map V.int)) np4
    rw [e4]
    refine ⟨p4, _, rfl, .inl (.inl h4), fun p5 np5 => ?_⟩
    rw [← List.map_reverse, desc_rev hdesc hpm hpw]
    obtain ⟨H5, e5, s5, h5⟩ := fresh (.lst ((totals ns most).map V.int)) np5
    rw [e5]
    have s25 := (s3.trans s4).trans s5
    walk_at "go"
    refine ne_lst (ns := totals ns most) (.inl (.inl h5)) (.inl (.inl (s25 _ _ h2))) ?_
    have h2' := s25 _ _ h2
    have s05 := s2.trans s25
    walk_at "go"
    refine ⟨(show 4 ≤ sizeLine by decide), fun pc npc => ?_⟩
    obtain ⟨H6, e6, s6, h6⟩ := fresh (.lst ([(0 : Int), 1, 5, 40].map V.int)) npc
    have e6' : upd H5 pc (.lst [V.int 0, V.int 1, V.int 5, V.int 40]) = H6 := e6
    rw [e6']
    obtain ⟨L, eL⟩ : ∃ L, L = totals ns most := ⟨_, rfl⟩
    rw [← eL] at h2' hL0 hL1
    refine ⟨pc, rfl, ⟨_, .inl (.inl h6)⟩, for_list (K := K) (a := pc) (xs := [(0 : Int), 1, 5, 40].map V.int) (fun i σ H7 => ∃ (v4 v5 v3 v6 v7 v8 v9 v10 : Option V), σ = [some (.ref a), some (.int most), some (.ref t), v3, v4, v5, v6, v7, v8, v9, v10] ∧ Same H6 H7) ⟨none, none, v3, v6, v7, v8, none, v10, rfl, Same.refl _⟩ (fun i σ H7 _ ⟨_, _, _, _, _, _, _, _, _, s⟩ => .inl (.inl (s _ _ h6))) ?_ ?_⟩
    · rintro i x σ H7 hx ⟨v4, v5, v3, v6, v7, v8, v9, v10, rfl, s7⟩
      obtain ⟨cost, hcst, rfl⟩ := int_at hx
      have hcb : 0 ≤ cost ∧ cost ≤ 40 := by
        have := List.mem_of_getElem? hcst
        simp only [List.mem_cons, List.not_mem_nil, or_false] at this
        omega
      have h7 := s7 _ _ (s6 _ _ h2')
      refine ⟨_, rfl, t, _, rfl, .inl (.inl h7), fun D nD => ?_⟩
      refine lc_dW (walk_enum (K := K) (a := t) (xs := L.map V.int)) (S := []) Has.nil ((costL cost L).map fun x => some (PyData.int x)) nD (by unfold costL; rw [List.length_map, List.length_map, List.length_map, List.length_range]) (by rw [List.length_map]; exact small1000 (by omega)) (fun H' s => .inl (.inl (s _ _ h7))) ?_ ?_
      · rintro k o H0 x H' hk ho s hH ⟨T1, x1, y1, rfl, nT, rfl, e1, e2⟩ Qt qt
        rw [List.length_map] at hk
        cases e1
        dsimp only at e2
        rw [List.getElem?_map, List.getElem?_eq_getElem hk] at e2
        cases e2
        rw [List.getElem?_map, cost_at hk] at ho
        cases ho
        have st := same_upd (o := .tup [V.int (k : Nat), V.int L[k]]) nT
        refine ⟨T1, _, rfl, .inl (.inl upd_same), rfl, ?_⟩
        generalize upd H0 T1 (.tup [V.int (k : Nat), V.int L[k]]) = H8 at st
        refine ⟨_, _, rfl, _, _, rfl, rfl, ⟨rfl, ?_⟩⟩
        walk_at "go"
        refine ⟨⟨by omega, by omega, by decide⟩, ?_⟩
        walk_at "go"
        refine ⟨.inl ⟨by omega, by omega⟩, ?_⟩
        walk_at "go"
        refine qt _ _ st ?_
        show Dt _ _ (.int _)
        rw [List.getD_eq_getElem?_getD, List.getElem?_eq_getElem hk, Option.getD_some, Int.toNat_natCast, Int.one_mul]
        exact .int _
      · intro H8 s8 _ dD
        rw [sel_map, rs_nil] at dD
        obtain ⟨_, e, hD⟩ := Dt.intsE (ns := costL cost L) dD
        cases e
        walk_at "go"
        refine ⟨a, ns, most, cost, rfl, hFA ((s05.trans s6).trans (s7.trans s8)), hm, hcb.1, by omega, fun H9 p9 k s9 hk h9 => ?_⟩
        rw [← eL] at hk h9
        have hD9 := s9 _ _ hD
        have hck := cost_at (cost := cost) hk.1
        have hcl : (costL cost L).length = L.length := by unfold costL; rw [List.length_map, List.length_range]
        have hmin : ∀ M, M ∈ costL cost L → (∀ y ∈ costL cost L, M ≤ y) → M = L.getD k 0 + cost * 2 ^ k := fun M hM hle => by
          have h1 := hle _ (List.mem_of_getElem? hck)
          obtain ⟨j, hj, ej⟩ := List.mem_map.mp hM
          have h2 := (hk.2 j (List.mem_range.mp hj)).1
          omega
        walk_at "go"
        refine ⟨.inl ⟨rfl, _, .inl (.inl hD9)⟩, ?_⟩
        walk_at "go"
        refine ⟨D, _, rfl, .inl (.inl hD9), by omega, fun M hM hle => ?_⟩
        rw [hmin M hM hle]
        refine ⟨D, (costL cost L).map V.int, _, k, _, rfl, rfl, .inl (.inl hD9), rfl, ?_, by rw [List.getElem?_map, hck]; rfl, ?_, ?_, ?_⟩
        · rw [List.all_map, List.all_eq_true]
          exact fun _ _ => rfl
        · exact beq_self_eq_true _
        · intro m z' hmk hz'
          have hmL : m < L.length := by have := hk.1; omega
          rw [List.getElem?_map, cost_at hmL] at hz'
          cases hz'
          have := (hk.2 m hmL).2 hmk
          show (_ == _) = false
          rw [beq_eq_false_iff_ne]
          omega
        · walk_at "go"
          refine ⟨D, _, rfl, .inl (.inl hD9), by omega, fun M2 hM2 hle2 => ?_⟩
          rw [hmin M2 hM2 hle2]
          refine ⟨(show 2 ≤ sizeLine by decide), fun p10 np10 => ?_⟩
          refine ne_tup (ns := [(k : Int), L.getD k 0 + cost * 2 ^ k]) (.inl (.inl (same_upd np10 _ _ h9))) (.inl (.inl upd_same)) ?_
          walk_at "go"
          exact ⟨_, _, _, _, _, _, _, _, rfl, ((s7.trans s8).trans s9).trans (same_upd np10)⟩
    · rintro σ H7 ⟨v4, v5, v3, v6, v7, v8, v9, v10, rfl, s7⟩
      walk_at "go"
      exact q _ ((s05.trans s6).trans s7)
end
end My

namespace My
open PySem PySem.Spec PyProof.Rows L2 Pre
def tri (x : Nat × Nat × Nat) : PyData := .tuple [.int x.1, .int x.2.1, .int x.2.2]
def T10 : List (Nat × Nat × Nat) := [(1, 1, 3), (1, 2, 2), (2, 2, 2), (2, 1, 2), (1, 1, 4), (3, 1, 1), (0, 2, 2), (2, 3, 1), (1, 3, 2), (2, 2, 0)]
theorem T10_ok : ∀ x ∈ T10, x.1 ≤ 3 ∧ x.2.1 ≤ 3 ∧ x.2.2 ≤ 4 ∧ (2 ^ x.2.2) ^ x.1 ≤ 64 ∧ (2 ^ x.2.2) ^ x.2.1 ≤ 64 := by decide
theorem folds_of {b : Nat} (hb : b ≤ 40) {ns : List Int} (h : Below b ns) : Folds ns := fun n hn => by
  have := h n hn
  have h2 := p2_le hb
  exact ⟨this.1, by omega⟩
local macro_rules | `(tactic| walk_at "go") => `(tactic| repeat (first | (with_reducible first | refine iteT ?_ | refine iteF ?_ | refine iteNtt ?_ | refine iteNff ?_ | refine iteET (by omega) ?_ | refine iteEF (by omega) ?_ | refine iteENT (by omega) ?_ | refine iteENF (by omega) ?_ | refine iteDT (by omega) ?_ | refine iteDF (by omega) ?_ | refine iteNT (by omega) ?_ | refine iteNF (by omega) ?_) | refine ⟨_, rfl, ?_⟩ | refine ⟨_, _, rfl, rfl, ?_⟩ | refine ⟨_, _, rfl, ?_⟩ | refine ⟨rfl, ?_⟩ | refine .inl ⟨_, rfl, ?_⟩ | refine .inr ⟨_, rfl, ?_⟩))
local macro_rules | `(tactic| walk_at "b") => `(tactic| try dsimp (config := { proj := false, iota := false, eta := false, zeta := false }) only)
section
variable {P : Program} {w : World} {K : PySem.W.Frag} {mg : Str → Option Value} {base : Heap}
def sp_law (K : PySem.W.Frag) : Sp := fun vs H Q _ => ∃ (a : Addr) (ns : List Int), vs = [.ref a] ∧ SqL K H a (ns.map V.int) ∧ ns.length ≤ 63 ∧ ∀ H', Q (.bl true) H'
theorem G_law (T : Top K mg) : FnG P w K mg base CX0 9 T.f_law T.fd_law ["_law_script"] (sp_law K) := by
  refine FnG.body T.F_law sc_law (fun vs H Q E h => by obtain ⟨a, ns, rfl, _⟩ := h; rfl) (fun cdv A outer s H vs Q E gd hr h => ?_)
  obtain ⟨a, ns, rfl, hS, hn, q⟩ := h
  refine ⟨_, PSs.nox (pss_cons (ps_set (i := 1) sc_law.nd rfl (by first | exact Or.inl rfl | exact Or.inr rfl) (pe_call (G_law_generator T) (hr.mono (by decide)) (by rfl) T.g_law_generator T.F_law_generator.kp T.b_law_generator .nil pass0 (pa_cons (pv 0) (pa_cons pe_int pa_nil))))
  (pss_cons (ps_set (i := 2) sc_law.nd rfl (by first | exact Or.inl rfl | exact Or.inr rfl) (pe_lst (pa_cons (pe_tup (pa_cons pe_int (pa_cons pe_int (pa_cons pe_int pa_nil)))) (pa_cons (pe_tup (pa_cons pe_int (pa_cons pe_int (pa_cons pe_int pa_nil)))) (pa_cons (pe_tup (pa_cons pe_int (pa_cons pe_int (pa_cons pe_int pa_nil)))) (pa_cons (pe_tup (pa_cons pe_int (pa_cons pe_int (pa_cons pe_int pa_nil)))) (pa_cons (pe_tup (pa_cons pe_int (pa_cons pe_int (pa_cons pe_int pa_nil)))) (pa_cons (pe_tup (pa_cons pe_int (pa_cons pe_int (pa_cons pe_int pa_nil)))) (pa_cons (pe_tup (pa_cons pe_int (pa_cons pe_int (pa_cons pe_int pa_nil)))) (pa_cons (pe_tup (pa_cons pe_int (pa_cons pe_int (pa_cons pe_int pa_nil)))) (pa_cons (pe_tup (pa_cons pe_int (pa_cons pe_int (pa_cons pe_int pa_nil)))) pa_nil)))))))))))
  (pss_cons (ps_asg (pe_ix (k_ixL K rfl) (pe_op op_cat (pv 2) (pe_lst (pa_cons (pe_tup (pa_cons pe_int (pa_cons pe_int (pa_cons pe_int pa_nil)))) pa_nil))) (pe_call (G_law_random T) (hr.mono (by decide)) (by rfl) T.g_law_random T.F_law_random.kp T.b_law_random .nil pass0 (pa_cons (pv 1) (pa_cons pe_int pa_nil))) (fun _ _ => rfl)) (k_pgT K rfl (by rfl) (pgs_cons (pg_name (i := 7) sc_law.nd rfl (by first | exact Or.inl rfl | exact Or.inr rfl)) (pgs_cons (pg_name (i := 8) sc_law.nd rfl (by first | exact Or.inl rfl | exact Or.inr rfl)) (pgs_cons (pg_name (i := 9) sc_law.nd rfl (by first | exact Or.inl rfl | exact Or.inr rfl)) pgs_nil)))))
  (pss_cons (ps_if (pt_not (pt_val (pe_callG (G_law_small_right T) gd (hr.mono (by decide)) (by rfl) T.g_law_small_right T.F_law_small_right.kp T.b_law_small_right .nil pass0 (pa_cons (pv 7) (pa_cons (pv 8) (pa_cons (pv 9) pa_nil))))))
    (pss_one (ps_ret pe_bl))
    pss_nil)
  (pss_cons (ps_par3 (by rfl) sc_law.nd (i := 7) (j := 8) (l := 9) rfl rfl rfl (by decide) (by decide) (by decide) rfl rfl rfl (pa_cons (pe_call (G_law_random T) (hr.mono (by decide)) (by rfl) T.g_law_random T.F_law_random.kp T.b_law_random .nil pass0 (pa_cons (pv 1) (pa_cons pe_int pa_nil))) (pa_cons (pe_call (G_law_random T) (hr.mono (by decide)) (by rfl) T.g_law_random T.F_law_random.kp T.b_law_random .nil pass0 (pa_cons (pv 1) (pa_cons pe_int pa_nil))) (pa_cons (pe_call (G_law_random T) (hr.mono (by decide)) (by rfl) T.g_law_random T.F_law_random.kp T.b_law_random .nil pass0 (pa_cons (pv 1) (pa_cons pe_int pa_nil))) pa_nil))) (by rfl))
  (pss_cons (ps_set (i := 3) sc_law.nd rfl (by first | exact Or.inl rfl | exact Or.inr rfl) (pe_call (G_greatest_gain T) (hr.mono (by decide)) (by rfl) T.g_greatest_gain T.F_greatest_gain.kp T.b_greatest_gain .nil pass0 (pa_cons (pv 7) (pa_cons (pv 8) (pa_cons (pv 9) pa_nil)))))
  (pss_cons (ps_if (pt_not (pt_val (pe_callG (G_law_rows_right T) gd (hr.mono (by decide)) (by rfl) T.g_law_rows_right T.F_law_rows_right.kp T.b_law_rows_right .nil pass0 (pa_cons (pv 7) (pa_cons (pv 8) (pa_cons (pv 9) (pa_cons (pv 3) pa_nil)))))))
    (pss_one (ps_ret pe_bl))
    pss_nil)
  (pss_cons (ps_for PassesOwn.never rfl (pi_range1 (by rfl) T.n_range (pa_cons pe_int pa_nil)) (pg_name (i := 4) sc_law.nd rfl (by first | exact Or.inl rfl | exact Or.inr rfl))
    (pss_one (ps_if (pt_cmpR op_gt (pe_call (G_law_gain T) (hr.mono (by decide)) (by rfl) T.g_law_gain T.F_law_gain.kp T.b_law_gain .nil pass0 (pa_cons (pe_call (G_law_drawn T) (hr.mono (by decide)) (by rfl) T.g_law_drawn T.F_law_drawn.kp T.b_law_drawn .nil pass0 (pa_cons (pv 1) (pa_cons (pv 7) (pa_cons (pv 9) pa_nil)))) (pa_cons (pe_call (G_law_drawn T) (hr.mono (by decide)) (by rfl) T.g_law_drawn T.F_law_drawn.kp T.b_law_drawn .nil pass0 (pa_cons (pv 1) (pa_cons (pv 8) (pa_cons (pv 9) pa_nil)))) pa_nil))) (pv 3) (nomark _))
    (pss_one (ps_ret pe_bl))
    pss_nil)))
  (pss_cons (ps_set (i := 5) sc_law.nd rfl (by first | exact Or.inl rfl | exact Or.inr rfl) (pe_ix (k_ixL K rfl) (pe_lst (pa_cons pe_int (pa_cons pe_int (pa_cons pe_int (pa_cons pe_int (pa_cons pe_int (pa_cons pe_int (pa_cons pe_int (pa_cons pe_int pa_nil))))))))) (pe_call (G_law_random T) (hr.mono (by decide)) (by rfl) T.g_law_random T.F_law_random.kp T.b_law_random .nil pass0 (pa_cons (pv 1) (pa_cons pe_int pa_nil))) (fun _ _ => rfl)))
  (pss_cons (ps_set (i := 6) sc_law.nd rfl (by first | exact Or.inl rfl | exact Or.inr rfl) (pe_op op_cat (pe_call (G_law_drawn T) (hr.mono (by decide)) (by rfl) T.g_law_drawn T.F_law_drawn.kp T.b_law_drawn .nil pass0 (pa_cons (pv 1) (pa_cons (pe_op op_fdivW (pv 5) pe_int) (pa_cons pe_int pa_nil)))) (pe_call (G_law_drawn T) (hr.mono (by decide)) (by rfl) T.g_law_drawn T.F_law_drawn.kp T.b_law_drawn .nil pass0 (pa_cons (pv 1) (pa_cons (pe_op op_sub (pv 5) (pe_op op_fdivW (pv 5) pe_int)) (pa_cons pe_int pa_nil))))))
  (pss_cons (ps_if (PW.pt (pw_or (pt_not (pt_val (pe_call (G_law_halves_right T) (hr.mono (by decide)) (by rfl) T.g_law_halves_right T.F_law_halves_right.kp T.b_law_halves_right .nil pass0 (pa_cons (pv 6) (pa_cons (pe_call (G_law_random T) (hr.mono (by decide)) (by rfl) T.g_law_random T.F_law_random.kp T.b_law_random .nil pass0 (pa_cons (pv 1) (pa_cons pe_int pa_nil))) pa_nil))))) (pw_or1 (pt_not (pt_val (pe_call (G_law_halves_right T) (hr.mono (by decide)) (by rfl) T.g_law_halves_right T.F_law_halves_right.kp T.b_law_halves_right .nil pass0 (pa_cons (pe_lst pa_nil) (pa_cons pe_int pa_nil))))))))
    (pss_one (ps_ret pe_bl))
    pss_nil)
  (pss_cons (ps_if (pt_cmpR (k_neD K rfl hr.units) (pe_lst (pa_cons (pe_call (G_halves T) (hr.mono (by decide)) (by rfl) T.g_halves T.F_halves.kp T.b_halves .nil pass0 (pa_cons (pe_lst (pa_cons pe_int (pa_cons pe_int (pa_cons pe_int (pa_cons pe_int pa_nil))))) (pa_cons pe_int pa_nil))) (pa_cons (pe_call (G_least_half T) (hr.mono (by decide)) (by rfl) T.g_least_half T.F_least_half.kp T.b_least_half .nil pass0 (pa_cons (pe_lst (pa_cons pe_int (pa_cons pe_int (pa_cons pe_int (pa_cons pe_int pa_nil))))) (pa_cons pe_int (pa_cons pe_int pa_nil)))) pa_nil))) (pe_lst (pa_cons (pe_lst (pa_cons pe_int (pa_cons pe_int (pa_cons pe_int pa_nil)))) (pa_cons (pe_tup (pa_cons pe_int (pa_cons pe_int pa_nil))) pa_nil))) (nomark _))
    (pss_one (ps_ret pe_bl))
    pss_nil)
  (pss_one (ps_ret (pe_cmpR (k_eqD K rfl hr.units) (pe_lst (pa_cons (pe_call (G_greatest_gain T) (hr.mono (by decide)) (by rfl) T.g_greatest_gain T.F_greatest_gain.kp T.b_greatest_gain .nil pass0 (pa_cons pe_int (pa_cons pe_int (pa_cons pe_int pa_nil)))) (pa_cons (pe_call (G_never_pays T) (hr.mono (by decide)) (by rfl) T.g_never_pays T.F_never_pays.kp T.b_never_pays .nil pass0 (pa_cons pe_int (pa_cons pe_int (pa_cons pe_int (pa_cons pe_int pa_nil))))) (pa_cons (pe_call (G_never_pays T) (hr.mono (by decide)) (by rfl) T.g_never_pays T.F_never_pays.kp T.b_never_pays .nil pass0 (pa_cons pe_int (pa_cons pe_int (pa_cons pe_int (pa_cons pe_int pa_nil))))) pa_nil)))) (pe_lst (pa_cons pe_int (pa_cons pe_bl (pa_cons pe_bl pa_nil)))) (nomark _)))))))))))))))), ?_⟩
  walk_at "go"
  refine ⟨a, ns, 0, rfl, hS, fun H0 g s0 ng g0 => ?_⟩
  have d0 : DtA (rs [g] H0) [] [] := .nil
  have hg0 := g0.has
  walk_at "go"
  refine ⟨(show 3 ≤ sizeLine by decide), fun p1 np1 => ?_⟩
  have s1 := same_upd (o := .tup [V.int 1, V.int 1, V.int 3]) np1
  have d1 := (d0.same (rs_same s1)).app (.cons (dt_newT hg0 np1 (ds := [.int 1, .int 1, .int 3]) (.cons (.int _) (.cons (.int _) (.cons (.int _) .nil)))) .nil)
  have hg1 := hg0.same s1
  generalize upd H0 p1 (.tup [V.int 1, V.int 1, V.int 3]) = H1 at s1 d1 hg1
  clear d0
  walk_at "go"
  refine ⟨(show 3 ≤ sizeLine by decide), fun p2 np2 => ?_⟩
  have s2 := same_upd (o := .tup [V.int 1, V.int 2, V.int 2]) np2
  have d2 := (d1.same (rs_same s2)).app (.cons (dt_newT hg1 np2 (ds := [.int 1, .int 2, .int 2]) (.cons (.int _) (.cons (.int _) (.cons (.int _) .nil)))) .nil)
  have hg2 := hg1.same s2
  generalize upd H1 p2 (.tup [V.int 1, V.int 2, V.int 2]) = H2 at s2 d2 hg2
  clear d1
  walk_at "go"
  refine ⟨(show 3 ≤ sizeLine by decide), fun p3 np3 => ?_⟩
  have s3 := same_upd (o := .tup [V.int 2, V.int 2, V.int 2]) np3
  have d3 := (d2.same (rs_same s3)).app (.cons (dt_newT hg2 np3 (ds := [.int 2, .int 2, .int 2]) (.cons (.int _) (.cons (.int _) (.cons (.int _) .nil)))) .nil)
  have hg3 := hg2.same s3
  generalize upd H2 p3 (.tup [V.int 2, V.int 2, V.int 2]) = H3 at s3 d3 hg3
  clear d2
  walk_at "go"
  refine ⟨(show 3 ≤ sizeLine by decide), fun p4 np4 => ?_⟩
  have s4 := same_upd (o := .tup [V.int 2, V.int 1, V.int 2]) np4
  have d4 := (d3.same (rs_same s4)).app (.cons (dt_newT hg3 np4 (ds := [.int 2, .int 1, .int 2]) (.cons (.int _) (.cons (.int _) (.cons (.int _) .nil)))) .nil)
  have hg4 := hg3.same s4
  generalize upd H3 p4 (.tup [V.int 2, V.int 1, V.int 2]) = H4 at s4 d4 hg4
  clear d3
  walk_at "go"
  refine ⟨(show 3 ≤ sizeLine by decide), fun p5 np5 => ?_⟩
  have s5 := same_upd (o := .tup [V.int 1, V.int 1, V.int 4]) np5
  have d5 := (d4.same (rs_same s5)).app (.cons (dt_newT hg4 np5 (ds := [.int 1, .int 1, .int 4]) (.cons (.int _) (.cons (.int _) (.cons (.int _) .nil)))) .nil)
  have hg5 := hg4.same s5
  generalize upd H4 p5 (.tup [V.int 1, V.int 1, V.int 4]) = H5 at s5 d5 hg5
  clear d4
  walk_at "go"
  refine ⟨(show 3 ≤ sizeLine by decide), fun p6 np6 => ?_⟩
  have s6 := same_upd (o := .tup [V.int 3, V.int 1, V.int 1]) np6
  have d6 := (d5.same (rs_same s6)).app (.cons (dt_newT hg5 np6 (ds := [.int 3, .int 1, .int 1]) (.cons (.int _) (.cons (.int _) (.cons (.int _) .nil)))) .nil)
  have hg6 := hg5.same s6
  generalize upd H5 p6 (.tup [V.int 3, V.int 1, V.int 1]) = H6 at s6 d6 hg6
  clear d5
  walk_at "go"
  refine ⟨(show 3 ≤ sizeLine by decide), fun p7 np7 => ?_⟩
  have s7 := same_upd (o := .tup [V.int 0, V.int 2, V.int 2]) np7
  have d7 := (d6.same (rs_same s7)).app (.cons (dt_newT hg6 np7 (ds := [.int 0, .int 2, .int 2]) (.cons (.int _) (.cons (.int _) (.cons (.int _) .nil)))) .nil)
  have hg7 := hg6.same s7
  generalize upd H6 p7 (.tup [V.int 0, V.int 2, V.int 2]) = H7 at s7 d7 hg7
  clear d6
  walk_at "go"
  refine ⟨(show 3 ≤ sizeLine by decide), fun p8 np8 => ?_⟩
  have s8 := same_upd (o := .tup [V.int 2, V.int 3, V.int 1]) np8
  have d8 := (d7.same (rs_same s8)).app (.cons (dt_newT hg7 np8 (ds := [.int 2, .int 3, .int 1]) (.cons (.int _) (.cons (.int _) (.cons (.int _) .nil)))) .nil)
  have hg8 := hg7.same s8
  generalize upd H7 p8 (.tup [V.int 2, V.int 3, V.int 1]) = H8 at s8 d8 hg8
  clear d7
  walk_at "go"
  refine ⟨(show 3 ≤ sizeLine by decide), fun p9 np9 => ?_⟩
  have s9 := same_upd (o := .tup [V.int 1, V.int 3, V.int 2]) np9
  have d9 := (d8.same (rs_same s9)).app (.cons (dt_newT hg8 np9 (ds := [.int 1, .int 3, .int 2]) (.cons (.int _) (.cons (.int _) (.cons (.int _) .nil)))) .nil)
  have hg9 := hg8.same s9
  generalize upd H8 p9 (.tup [V.int 1, V.int 3, V.int 2]) = H9 at s9 d9 hg9
  clear d8
  walk_at "go"
  refine ⟨(show 9 ≤ sizeLine by decide), fun pl npl => ?_⟩
  have sl := same_upd (o := .lst ([V.ref p1, V.ref p2, V.ref p3, V.ref p4, V.ref p5, V.ref p6, V.ref p7, V.ref p8, V.ref p9])) npl
  have dl := dt_new hg9 npl d9
  have s09 := ((((((((s1.trans s2).trans s3).trans s4).trans s5).trans s6).trans s7).trans s8).trans s9).trans sl
  have g1 := g0.same s09
  change Dt (rs [g] (upd H9 pl (.lst ([V.ref p1, V.ref p2, V.ref p3, V.ref p4, V.ref p5, V.ref p6, V.ref p7, V.ref p8, V.ref p9])))) _ _ at dl
  generalize upd H9 pl (.lst ([V.ref p1, V.ref p2, V.ref p3, V.ref p4, V.ref p5, V.ref p6, V.ref p7, V.ref p8, V.ref p9])) = H10 at s09 dl sl g1
  clear d9
  walk_at "go"
  refine ⟨(show 3 ≤ sizeLine by decide), fun p10 np10 => ?_⟩
  have s10 := same_upd (o := .tup [V.int 2, V.int 2, V.int 0]) np10
  have d10 := dt_newT (S := [g]) g1.has np10 (ds := [.int 2, .int 2, .int 0]) (.cons (.int 2) (.cons (.int 2) (.cons (.int 0) .nil)))
  generalize upd H10 p10 (.tup [V.int 2, V.int 2, V.int 0]) = H11 at s10 d10
  refine ⟨(show 1 ≤ sizeLine by decide), fun p11 np11 => ?_⟩
  have s11 := same_upd (o := .lst [V.ref p10]) np11
  have d11 := dt_new (S := [g]) (g1.same s10).has np11 (.cons d10 .nil)
  generalize upd H11 p11 (.lst [V.ref p10]) = H12 at s11 d11
  refine d_cat (S := [g]) ((g1.same s10).same s11).has (dl.same (rs_same (s10.trans s11))) d11 (show 9 + 1 ≤ sizeLine by decide) fun p12 H13 s12 np12 d12 => ?_
  have g13 := g1.same ((s10.trans s11).trans s12)
  walk_at "go"
  refine ⟨g, _, _, rfl, g13, by omega, by decide, small_2900 (by decide), fun r1 H14 r10 r11 g14 b14 => ?_⟩
  obtain ⟨i, rfl⟩ : ∃ i : Nat, r1 = (i : Int) := ⟨r1.toNat, by omega⟩
  have d14 := d12.same b14.sta
  obtain ⟨_, xs, e12, h12, hx⟩ := d14.listE
  cases e12
  have hxe : DtA (rs [g] H14) xs (T10.map tri) := hx
  have hi10 : i < T10.length := by show i < 10; omega
  obtain ⟨v, hv, dv⟩ := hxe.get (show (T10.map tri)[i]? = some (tri T10[i]) by rw [List.getElem?_map, List.getElem?_eq_getElem hi10]; rfl)
  obtain ⟨tp, ys, rfl, htp, hys⟩ := (show Dt (rs [g] H14) v (.tuple [.int T10[i].1, .int T10[i].2.1, .int T10[i].2.2]) from dv).tupE
  rw [DtA.intsE (ns := [(T10[i].1 : Int), (T10[i].2.1 : Int), (T10[i].2.2 : Int)]) hys] at htp
  obtain ⟨t1, t2, t3, t4, t5⟩ := T10_ok T10[i] (List.getElem_mem hi10)
  generalize T10[i] = tr at *
  refine ⟨p12, xs, _, _, rfl, rfl, .inl (.inl (rs_le _ _ h12)), atI_nat hv, ?_⟩
  refine ⟨tp, _, rfl, .inl (.inl (rs_le _ _ htp)), rfl, _, _, rfl, _, _, rfl, _, _, rfl, rfl, ?_⟩
  walk_at "go"
  refine ⟨tr.1, tr.2.1, tr.2.2, rfl, t1, t2, t3, t4, t5, fun H15 s15 => ?_⟩
  have g15 := g14.same s15
  walk_at "go"
  refine ⟨g, _, _, rfl, g15, by omega, by decide, small_2900 (by decide), fun r2 H16 r20 r21 g16 b16 => ?_⟩
  obtain ⟨n1, rfl⟩ : ∃ i : Nat, r2 = (i : Int) := ⟨r2.toNat, by omega⟩
  walk_at "go"
  refine ⟨g, _, _, rfl, g16, by omega, by decide, small_2900 (by decide), fun r3 H17 r30 r31 g17 b17 => ?_⟩
  obtain ⟨n2, rfl⟩ : ∃ i : Nat, r3 = (i : Int) := ⟨r3.toNat, by omega⟩
  walk_at "go"
  refine ⟨g, _, _, rfl, g17, by omega, by decide, small_2900 (by decide), fun r4 H18 r40 r41 g18 b18 => ?_⟩
  obtain ⟨bits, rfl⟩ : ∃ i : Nat, r4 = (i : Int) := ⟨r4.toNat, by omega⟩
  walk_at "go"
  refine ⟨_, _, _, rfl, ?_⟩
  walk_at "go"
  refine ⟨n1, n2, bits, rfl, by omega, by omega, by omega, by omega, by omega, fun H19 s19 => ?_⟩
  walk_at "go"
  refine ⟨n1, n2, bits, rfl, by omega, by omega, by omega, fun H20 s20 => ?_⟩
  have g20 := (g18.same s19).same s20
  walk_at "go"
  refine ⟨by decide, by decide, ?_⟩
  refine for_range (lo := 0) (n := 3) (fun k σ H21 => ∃ (v4 : Option V), σ = [some (.ref a), some (.ref g), some (.ref pl), some (.int (gmax n1 n2 bits)), v4, none, none, some (.int n1), some (.int n2), some (.int bits)] ∧ GenAt H21 g (1000 + 50000 * k)) ⟨none, rfl, g20.mono (by omega)⟩ ?_ ?_
  · rintro k σ H21 hk ⟨v4, rfl, g21⟩
    walk_at "go"
    refine ⟨g, n1, bits, _, rfl, g21, by omega, by omega, by omega, fun H22 pA A b22 g22 npA hA lA bA => ?_⟩
    walk_at "go"
    refine ⟨g, n2, bits, _, rfl, g22, by omega, by omega, by omega, fun H23 pB B b23 g23 npB hB lB bB => ?_⟩
    have nAg : pA ≠ g := g21.ne npA
    refine ⟨pA, pB, A, B, rfl, b23 _ _ nAg hA, hB, by omega, by omega, fun H24 s24 => ?_⟩
    have hle := gain_le bA bB (by omega)
    rw [lA, lB] at hle
    walk_at "go"
    exact (g23.same s24).mono (by omega)
  · rintro σ H21 ⟨v4, rfl, g21⟩
    walk_at "go"
    refine ⟨(show 8 ≤ sizeLine by decide), fun pm npm => ?_⟩
    obtain ⟨H22, e22, s22, h22⟩ := fresh (.lst ([(0 : Int), 1, 6, 8, 12, 16, 24, 32].map V.int)) npm
    have e22' : upd H21 pm (.lst [V.int 0, V.int 1, V.int 6, V.int 8, V.int 12, V.int 16, V.int 24, V.int 32]) = H22 := e22
    rw [e22']
    have npmg : pm ≠ g := g21.ne npm
    walk_at "go"
    refine ⟨g, _, _, rfl, g21.same s22, by omega, by decide, small_2900 (by decide), fun r5 H23 r50 r51 g23 b23 => ?_⟩
    obtain ⟨many, hmany, hmb⟩ : ∃ many : Nat, atI ([(0 : Int), 1, 6, 8, 12, 16, 24, 32].map V.int) r5 = some (.int many) ∧ many ≤ 32 := by
      have : r5 = 0 ∨ r5 = 1 ∨ r5 = 2 ∨ r5 = 3 ∨ r5 = 4 ∨ r5 = 5 ∨ r5 = 6 ∨ r5 = 7 := by omega
      rcases this with rfl | rfl | rfl | rfl | rfl | rfl | rfl | rfl
      · exact ⟨0, rfl, by decide⟩
      · exact ⟨1, rfl, by decide⟩
      · exact ⟨6, rfl, by decide⟩
      · exact ⟨8, rfl, by decide⟩
      · exact ⟨12, rfl, by decide⟩
      · exact ⟨16, rfl, by decide⟩
      · exact ⟨24, rfl, by decide⟩
      · exact ⟨32, rfl, by decide⟩
    refine ⟨pm, _, _, _, rfl, rfl, .inl (.inl (b23 _ _ npmg h22)), hmany, ?_⟩
    have hd2 : CDivW (many : Int) 2 := wide_div (b := 60) (by decide) (by decide) (by decide) (by decide)
    have ed : (many : Int) / 2 = ((many / 2 : Nat) : Int) := by omega
    walk_at "go"
    refine ⟨hd2, ?_⟩
    walk_at "b"
    rw [ed]
    walk_at "go"
    refine ⟨g, many / 2, 9, _, rfl, g23, by omega, by omega, by omega, fun H24 pA A b24 g24 npA hA lA bA => ?_⟩
    walk_at "go"
    refine ⟨hd2, ?_⟩
    walk_at "b"
    rw [ed]
    walk_at "go"
    refine ⟨g, many - many / 2, 4, _, ?_, g24, by omega, by omega, by omega, fun H25 pB B b25 g25 npB hB lB bB => ?_⟩
    · show [V.ref g, V.int ((many : Int) - ((many / 2 : Nat) : Int)), V.int 4] = [V.ref g, V.int ((many - many / 2 : Nat) : Int), V.int 4]
      rw [show (many : Int) - ((many / 2 : Nat) : Int) = ((many - many / 2 : Nat) : Int) by omega]
    have nAg : pA ≠ g := g23.ne npA
    have hF : Folds (A ++ B) := fun n hn => by
      rcases List.mem_append.mp hn with hn | hn
      · exact folds_of (by decide) bA n hn
      · exact folds_of (by decide) bB n hn
    refine ⟨pA, pB, _, _, rfl, rfl, b25 _ _ nAg hA, hB, by rw [List.length_map, List.length_map, sizeLine_eq]; omega, fun pf npf => ?_⟩
    rw [← List.map_append]
    obtain ⟨H26, e26, s26, h26⟩ := fresh (.lst ((A ++ B).map V.int)) npf
    rw [e26]
    have npfg : pf ≠ g := g25.ne npf
    walk_at "go"
    refine ⟨g, _, _, rfl, g25.same s26, by omega, by decide, small_2900 (by decide), fun r6 H27 r60 r61 g27 b27 => ?_⟩
    obtain ⟨mo, rfl⟩ : ∃ i : Nat, r6 = (i : Int) := ⟨r6.toNat, by omega⟩
    refine ⟨pf, A ++ B, mo, rfl, b27 _ _ npfg h26, hF, by rw [List.length_append]; omega, by omega, fun H28 s28 => ?_⟩
    walk_at "go"
    refine ⟨Nat.zero_le _, fun pe npe => ?_⟩
    obtain ⟨H29, e29, s29, h29⟩ := fresh (.lst (([] : List Int).map V.int)) npe
    have e29' : upd H28 pe (.lst []) = H29 := e29
    rw [e29']
    walk_at "go"
    refine ⟨pe, [], 3, rfl, h29, (fun n hn => nomatch hn), by decide, by decide, fun H30 s30 => ?_⟩
    have hF4 : Folds [0, 0, 7, 7] := fun n hn => by
      simp only [List.mem_cons, List.not_mem_nil, or_false] at hn
      omega
    have k1 : totals [0, 0, 7, 7] 2 = [14, 10, 10] := by decide +kernel
    have k2 : gmax 1 1 2 = 1 := by decide +kernel
    walk_at "go"
    refine ⟨(show 4 ≤ sizeLine by decide), fun pg npg => ?_⟩
    obtain ⟨H31, e31, s31, h31⟩ := fresh (.lst ([(0 : Int), 0, 7, 7].map V.int)) npg
    have e31' : upd H30 pg (.lst [V.int 0, V.int 0, V.int 7, V.int 7]) = H31 := e31
    rw [e31']
    walk_at "go"
    refine ⟨pg, [0, 0, 7, 7], 2, rfl, ⟨.inl h31, hF4, by decide⟩, by decide, fun H32 ph s32 nph h32 => ?_⟩
    rw [k1] at h32
    walk_at "go"
    refine ⟨(show 4 ≤ sizeLine by decide), fun pi npi => ?_⟩
    obtain ⟨H33, e33, s33, h33⟩ := fresh (.lst ([(0 : Int), 0, 7, 7].map V.int)) npi
    have e33' : upd H32 pi (.lst [V.int 0, V.int 0, V.int 7, V.int 7]) = H33 := e33
    rw [e33']
    walk_at "go"
    refine ⟨pi, [0, 0, 7, 7], 2, 5, rfl, ⟨.inl h33, hF4, by decide⟩, by decide, by decide, by decide, fun H34 pj k s34 hk h34 => ?_⟩
    rw [k1] at hk h34
    have hk0 : k = 0 := by
      have h0 := (hk.2 0 (by decide)).1
      have hk3 : k < 3 := hk.1
      have : k = 0 ∨ k = 1 ∨ k = 2 := by omega
      rcases this with rfl | rfl | rfl
      · rfl
      · exact absurd h0 (by decide)
      · exact absurd h0 (by decide)
    subst hk0
    refine ⟨(show 2 ≤ sizeLine by decide), fun pk npk => ?_⟩
    obtain ⟨H35, e35, s35, h35⟩ := fresh (.lst [V.ref ph, V.ref pj]) npk
    rw [e35]
    walk_at "go"
    refine ⟨(show 3 ≤ sizeLine by decide), fun pm2 npm2 => ?_⟩
    obtain ⟨H36, e36, s36, h36⟩ := fresh (.lst [V.int 14, V.int 10, V.int 10]) npm2
    rw [e36]
    walk_at "go"
    refine ⟨(show 2 ≤ sizeLine by decide), fun pn npn => ?_⟩
    obtain ⟨H37, e37, s37, h37⟩ := fresh (.tup [V.int 0, V.int 19]) npn
    rw [e37]
    refine ⟨(show 2 ≤ sizeLine by decide), fun po npo => ?_⟩
    obtain ⟨H38, e38, s38, h38⟩ := fresh (.lst [V.ref pm2, V.ref pn]) npo
    rw [e38]
    have s3538 := (s36.trans s37).trans s38
    refine ⟨.list [.list [.int 14, .int 10, .int 10], .tuple [.int 0, .int 19]], .list [.list [.int 14, .int 10, .int 10], .tuple [.int 0, .int 19]], ?_, ?_, by decide +kernel, by decide +kernel, ?_⟩
    · exact .lst (.inl (.inl (s3538 _ _ h35))) (.cons (.lst (.inl (.inl (s3538 _ _ (s35 _ _ (s34 _ _ (s33 _ _ h32)))))) (.cons (.int _) (.cons (.int _) (.cons (.int _) .nil)))) (.cons (.tup (.inl (.inl (s3538 _ _ (s35 _ _ h34)))) (.cons (.int _) (.cons (.int _) .nil))) .nil))
    · exact .lst (.inl (.inl h38)) (.cons (.lst (.inl (.inl (s38 _ _ (s37 _ _ h36)))) (.cons (.int _) (.cons (.int _) (.cons (.int _) .nil)))) (.cons (.tup (.inl (.inl (s38 _ _ h37))) (.cons (.int _) (.cons (.int _) .nil))) .nil))
    rw [show PyData.eqv (.list [.list [.int 14, .int 10, .int 10], .tuple [.int 0, .int 19]]) (.list [.list [.int 14, .int 10, .int 10], .tuple [.int 0, .int 19]]) = true by decide +kernel]
    walk_at "go"
    refine ⟨1, 1, 2, rfl, by decide, by decide, by decide, by decide, by decide, fun H39 s39 => ?_⟩
    rw [k2]
    walk_at "go"
    refine ⟨1, 1, 2, 0, rfl, by decide, by decide, by decide, by decide, by decide, by decide, fun H40 s40 => ?_⟩
    rw [k2]
    walk_at "go"
    refine ⟨1, 1, 2, 1, rfl, by decide, by decide, by decide, by decide, by decide, by decide, fun H41 s41 => ?_⟩
    rw [k2]
    refine ⟨(show 3 ≤ sizeLine by decide), fun pq npq => ?_⟩
    obtain ⟨H42, e42, s42, h42⟩ := fresh (.lst [V.int 1, V.bl (decide ((1 : Int) ≤ 0)), V.bl (decide ((1 : Int) ≤ 1))]) npq
    rw [e42]
    walk_at "go"
    refine ⟨(show 3 ≤ sizeLine by decide), fun pr npr => ?_⟩
    obtain ⟨H43, e43, s43, h43⟩ := fresh (.lst [V.int 1, V.bl false, V.bl true]) npr
    rw [e43]
    refine ⟨.list [.int 1, .bool false, .bool true], .list [.int 1, .bool false, .bool true], ?_, ?_, by decide +kernel, by decide +kernel, ?_⟩
    · exact .lst (.inl (.inl (s43 _ _ h42))) (.cons (.int _) (.cons (.bl _) (.cons (.bl _) .nil)))
    · exact .lst (.inl (.inl h43)) (.cons (.int _) (.cons (.bl _) (.cons (.bl _) .nil)))
    rw [show PyData.eqv (.list [.int 1, .bool false, .bool true]) (.list [.int 1, .bool false, .bool true]) = true by decide +kernel]
    exact q _
end
end My

open PySem PySem.W PySem.Calls PyProof.Rows
set_option maxRecDepth 100000 in
set_option maxHeartbeats 0 in
theorem PySem.Challenge.cw_wholesound_k47_gains_and_halves_holds : PySem.Challenge.rw_wholesound_k47_gains_and_halves.Holds := by
  w_on; o_law
  refine HandSHeadRun.head_any (r := OpenLaw.row PySem.Challenge.rw_wholesound_k47_gains_and_halves) (q := view (OpenLaw.row PySem.Challenge.rw_wholesound_k47_gains_and_halves).prog [34]) (H := My.hk) (ob := My.ob) (M := 8000) (loose := My.loose) (d := HandSHeadRun.topDef (OpenLaw.row PySem.Challenge.rw_wholesound_k47_gains_and_halves).prog 34) (kwd := []) My.ob_eq
    (by kernel_rfl) (fun s => by kernel_rfl) My.run (by kernel_rfl) (by kernel_rfl) (by kernel_rfl) (by rfl) (by first | assumption | decide +kernel) (by decide +kernel) ⟨rfl, rfl, rfl, rfl, rfl, by decide +kernel⟩ ?hw ?hc
  case hw => w_witness2
  case hc =>
    refine My.end_g (l := PySem.Challenge.rw_wholesound_k47_gains_and_halves) (n := 63) (k := 9) (x := "_law_script") rfl (by decide) (by kernel_rfl) ⟨rfl, by decide, by decide⟩ ?F
    intro w mg fa h Y G hmg0
    obtain ⟨K, KX, c⟩ := Y
    have hmg : mg ("law" : PySem.Str) = some (.ref fa) := by
      have e : (HandSHeadRun.topDef (OpenLaw.row PySem.Challenge.rw_wholesound_k47_gains_and_halves).prog 34).name = ("law" : PySem.Str) := by kernel_rfl
      rw [← e]
      exact hmg0
    have T : My.Top K mg := My.top_mk KX G c
    have e := hmg.symm.trans T.g_law
    cases e
    have b := L2.FunD.bindsA (ps := ["_law_script"]) T.F_law fun _ _ _ _ _ _ us hl => match us, hl with | [_], _ => rfl
    exact ⟨K, T.fd_law, My.sp_law K, KX, fun s v => b s [v] rfl, fun H a ns hl hS => ⟨a, ns, rfl, hS, hl, fun _ => rfl⟩, fun base _ _ => My.G_law T⟩


