import PyProof.Rows.All
import Wide.All
import OpenK.AllK
import Wide.FinOn
import KE.KStateDown
import Lean
import HandS.ForMost
import HandS.Exc
import HandS.Flow
import HandS.DictComp
import HandS.Style
import HandS.Wide
import HandS.WideBits
import HandS.IsInst
import HandS.Codes
import HandS.Walk
import HandS.Words
import HandS.WordsExc
import HandS.Defaults
import HandS.Head0
import HandS.Head1
import HandS.Head2
import HandS.HeadEnd
import HandS.HeadHook1
import HandS.HeadHook2
import HandS.SortInts
import PyProof.Rows.SortShellAny
import PyProof.InstNe
import KE.DataMinMax
import KE.SortData
import KE.IntBitsLaws
import HandS.Deep
import PySem.Challenge.RW_wholesound_k43_losses_by_number_and_sum
set_option Elab.async false
set_option linter.all false
set_option maxRecDepth 100000
set_option maxHeartbeats 4000000
set_option exponentiation.threshold 100000
namespace Pre
open PySem PySem.Spec PyProof.Rows L2
/-! ### heaps -/
theorem same_upd {H : Hp} {p : Addr} {o : HO} (h : H p = none) : Same H (upd H p o) := fun b x e => by
  rw [upd_ne (ne_of_none e h)]
  exact e
/-- a fresh thing that is then changed is no change of what was -/
theorem same_over {H H' : Hp} {p : Addr} {o : HO} (n : H p = none) (s : Same H H') : Same H (upd H' p o) := fun b x e => by
  rw [upd_ne (ne_of_none e n)]
  exact s b x e
theorem Same.tup {K : PySem.W.Frag} {H H' : Hp} {a : Addr} {xs : List V} (e : Same H H') (h : SqT K H a xs) : SqT K H' a xs := by
  rcases h with (h | ⟨o, h⟩) | h
  · exact .inl (.inl (e _ _ h))
  · exact .inl (.inr ⟨o, e _ _ h⟩)
  · exact .inr h
mutual
theorem dp_same {K : PySem.W.Frag} {H H' : Hp} (s : Same H H') : ∀ (d : PyData) (v : V), Dp K H v d → Dp K H' v d
  | .none, _, h => by cases h; exact .non
  | .bool _, _, h => by cases h; exact .bl _
  | .int _, _, h => by cases h; exact .int _
  | .str _, _, h => by cases h; exact .str _
  | .list ds, _, h => by cases h with | lst a b => exact .lst (s.seq a) (dps_same s ds _ b)
  | .tuple ds, _, h => by cases h with | tup a b => exact .tup (Same.tup s a) (dps_same s ds _ b)
  | .dict _, _, h => nomatch h
theorem dps_same {K : PySem.W.Frag} {H H' : Hp} (s : Same H H') : ∀ (ds : List PyData) (vs : List V), DpAll K H vs ds → DpAll K H' vs ds
  | [], _, h => by cases h; exact .nil
  | d :: ds, _, h => by cases h with | cons a b => exact .cons (dp_same s d _ a) (dps_same s ds _ b)
end
theorem dp_ints {K : PySem.W.Frag} {H : Hp} : ∀ ns : List Int, DpAll K H (ns.map V.int) (ns.map PyData.int)
  | [] => .nil
  | n :: r => .cons (.int n) (dp_ints r)
theorem eqv_ints : ∀ ns ms : List Int, PyData.eqvAll (ns.map PyData.int) (ms.map PyData.int) = decide (ns = ms)
  | [], [] => rfl
  | [], _ :: _ => rfl
  | _ :: _, [] => rfl
  | n :: r, m :: q => by
    show (PyData.eqv (.int n) (.int m) && PyData.eqvAll (r.map PyData.int) (q.map PyData.int)) = decide (n :: r = m :: q)
    rw [eqv_ints r q]
    show ((n == m) && decide (r = q)) = decide (n :: r = m :: q)
    by_cases h : n = m
    · subst h; simp
    · simp [h]
theorem lay_ints : ∀ ns : List Int, PyData.canLayAll0 (ns.map PyData.int) = true
  | [] => rfl
  | n :: r => by
    show (PyData.canLay0 (.int n) && PyData.canLayAll0 (r.map PyData.int)) = true
    rw [lay_ints r]
    rfl
theorem depth_ints : ∀ ns : List Int, PyData.depthAll (ns.map PyData.int) = 0
  | [] => by simp [PyData.depthAll]
  | n :: r => by
    show PyData.depthAll (.int n :: r.map PyData.int) = 0
    rw [PyData.depthAll, depth_ints r]
    simp [PyData.depth]
theorem shaped_ints (ns : List Int) : SeqAt.shaped (.list (ns.map PyData.int)) = true := by
  unfold SeqAt.shaped
  rw [PyData.canLay0, lay_ints, PyData.depth, depth_ints]
  rfl
theorem shaped_tup (ns : List Int) : SeqAt.shaped (.tuple (ns.map PyData.int)) = true := by
  unfold SeqAt.shaped
  rw [PyData.canLay0, lay_ints, PyData.depth, depth_ints]
  rfl
/-! ### comparisons of lists and tuples of whole numbers that are told alike -/
theorem ne_tup {K : PySem.W.Frag} {H : Hp} {a b : Addr} {ns : List Int} {Q : V → Hp → Prop} (ha : SqT K H a (ns.map V.int)) (hb : SqT K H b (ns.map V.int)) (q : Q (.bl false) H) : rNeD K (.ref a) (.ref b) H Q := by
  refine ⟨.tuple (ns.map PyData.int), .tuple (ns.map PyData.int), .tup ha (dp_ints ns), .tup hb (dp_ints ns), shaped_tup ns, shaped_tup ns, ?_⟩
  rw [PyData.eqv, eqv_ints, decide_eq_true rfl]
  exact q
theorem eq_tup {K : PySem.W.Frag} {H : Hp} {a b : Addr} {ns : List Int} {Q : V → Hp → Prop} (ha : SqT K H a (ns.map V.int)) (hb : SqT K H b (ns.map V.int)) (q : Q (.bl true) H) : rEqD K (.ref a) (.ref b) H Q := by
  refine ⟨.tuple (ns.map PyData.int), .tuple (ns.map PyData.int), .tup ha (dp_ints ns), .tup hb (dp_ints ns), shaped_tup ns, shaped_tup ns, ?_⟩
  rw [PyData.eqv, eqv_ints, decide_eq_true rfl]
  exact q
/-- lists of whole numbers, compared -/
theorem eqD_lst {K : PySem.W.Frag} {H : Hp} {a b : Addr} {ns ms : List Int} {Q : V → Hp → Prop} (ha : SqL K H a (ns.map V.int)) (hb : SqL K H b (ms.map V.int)) (q : Q (.bl (decide (ns = ms))) H) : rEqD K (.ref a) (.ref b) H Q := by
  refine ⟨.list (ns.map PyData.int), .list (ms.map PyData.int), .lst ha (dp_ints ns), .lst hb (dp_ints ms), shaped_ints ns, shaped_ints ms, ?_⟩
  rw [PyData.eqv, eqv_ints]
  exact q
theorem neD_lst {K : PySem.W.Frag} {H : Hp} {a b : Addr} {ns ms : List Int} {Q : V → Hp → Prop} (ha : SqL K H a (ns.map V.int)) (hb : SqL K H b (ms.map V.int)) (q : Q (.bl (!decide (ns = ms))) H) : rNeD K (.ref a) (.ref b) H Q := by
  refine ⟨.list (ns.map PyData.int), .list (ms.map PyData.int), .lst ha (dp_ints ns), .lst hb (dp_ints ms), shaped_ints ns, shaped_ints ms, ?_⟩
  rw [PyData.eqv, eqv_ints]
  exact q
theorem ne_lst {K : PySem.W.Frag} {H : Hp} {a b : Addr} {ns : List Int} {Q : V → Hp → Prop} (ha : SqL K H a (ns.map V.int)) (hb : SqL K H b (ns.map V.int)) (q : Q (.bl false) H) : rNeD K (.ref a) (.ref b) H Q :=
  neD_lst ha hb (by rw [decide_eq_true rfl]; exact q)
theorem eq_lst {K : PySem.W.Frag} {H : Hp} {a b : Addr} {ns : List Int} {Q : V → Hp → Prop} (ha : SqL K H a (ns.map V.int)) (hb : SqL K H b (ns.map V.int)) (q : Q (.bl true) H) : rEqD K (.ref a) (.ref b) H Q :=
  eqD_lst ha hb (by rw [decide_eq_true rfl]; exact q)
/-! ### powers -/
def CPowW (i j : Int) : Prop := 0 ≤ j ∧ (Builtin.Int.intBits i : Int) * j ≤ 2 ^ 27
theorem op_powW {X : Cx} : OpR X (binaryOp .Pow) (rI CPowW fun i j => .int (i ^ j.toNat)) := opI fun _ _ _ _ _ _ _ hc q => pow_int hc.1 hc.2 q
/-! ### comprehensions whose parts leave what is tracked as it is: sel tells of each item what comes of it -/
theorem take_fm {α : Type} {l : List (Option α)} {i : Nat} {o : Option α} (h : l[i]? = some o) : (l.take (i + 1)).filterMap id = (l.take i).filterMap id ++ o.toList := by
  rw [List.take_add_one, h, List.filterMap_append]
  cases o <;> rfl
theorem fm_len {α : Type} (l : List (Option α)) (i : Nat) : ((l.take i).filterMap id).length ≤ l.length :=
  Nat.le_trans (List.length_filterMap_le _ _) (by rw [List.length_take]; omega)
theorem lc_selL {K : PySem.W.Frag} {a : Addr} {xs : List V} {j : Nat} {tt : TT} {te : TE} {vs : List Nat} {σ : L2.St} {H1 : Hp} {D : Addr} {Qd : Hp → Prop} (sel : List (Option V)) (nD : H1 D = none) (hS : SqL K H1 a xs) (hlen : sel.length = xs.length) (hz : xs.length < sizeLine)
    (hw : ∀ x, wipe ((wipe σ vs).set j (some x)) vs = wipe σ vs)
    (hs : ∀ (i : Nat) (x : V) (o : Option V) (H' : Hp), xs[i]? = some x → sel[i]? = some o → Same H1 H' → ∀ Qt : Option V → Hp → Prop, (∀ H'', Same H' H'' → Qt o H'') →
      tt ((wipe σ vs).set j (some x)) H' fun b H3 => if b = true then te ((wipe σ vs).set j (some x)) H3 fun y H4 => Qt (some y) H4 else Qt none H3)
    (hd : ∀ H', Same H1 H' → H' D = some (.lst (sel.filterMap id)) → Qd H') :
    ∃ W : Nat → Nat → Hp → Prop, (∃ m, W 0 m (upd H1 D (.lst []))) ∧ ∀ i m H, W i m H →
      ((Itl K a).stop i H ∧ Qd H) ∨ ((Itl K a).go i H ∧ ∃ Nx : Hp → Prop, (∀ H', Nx H' → ∃ m', m' < m ∧ W (i + 1) m' H') ∧ ∀ x H', (Itl K a).yld i H x H' → gName j x (wipe σ vs) H' fun σ2 H2 => wipe σ2 vs = wipe σ vs ∧ tt σ2 H2 fun b H3 =>
        if b = true then te σ2 H3 fun y H4 => ∃ acc, H4 D = some (.lst acc) ∧ acc.length < sizeLine ∧ Nx (upd H4 D (.lst (acc ++ [y]))) else Nx H3) := by
  refine lc_list (K := K) (a := a) (xs := xs) (fun i H => Same H1 H ∧ H D = some (.lst ((sel.take i).filterMap id))) ⟨same_upd nD, upd_same⟩ (fun i H _ p => p.1.seq hS) ?_ ?_
  · rintro i x H hx ⟨s, hD⟩
    refine ⟨hw x, ?_⟩
    have hi : i < sel.length := by rw [hlen]; exact (List.getElem?_eq_some_iff.mp hx).1
    have ho : sel[i]? = some sel[i] := List.getElem?_eq_getElem hi
    have hl : ((sel.take i).filterMap id).length < sizeLine := Nat.lt_of_le_of_lt (fm_len sel i) (by omega)
    refine hs i x sel[i] H hx ho s (fun o H4 => match o with
      | some y => ∃ acc, H4 D = some (.lst acc) ∧ acc.length < sizeLine ∧ (Same H1 (upd H4 D (.lst (acc ++ [y]))) ∧ (upd H4 D (.lst (acc ++ [y]))) D = some (.lst ((sel.take (i + 1)).filterMap id)))
      | none => Same H1 H4 ∧ H4 D = some (.lst ((sel.take (i + 1)).filterMap id))) fun H4 s4 => ?_
    generalize sel[i] = o at ho ⊢
    cases o with
    | some y =>
      refine ⟨_, s4 _ _ hD, hl, same_over nD (s.trans s4), ?_⟩
      rw [upd_same, take_fm ho]
      rfl
    | none =>
      refine ⟨s.trans s4, ?_⟩
      rw [take_fm ho, s4 _ _ hD]
      simp
  · rintro H ⟨s, hD⟩
    refine hd H s ?_
    rw [hD, ← hlen, List.take_length]
/-- the items of a range -/
def rgV (lo : Int) (n : Nat) : List V := (List.range n).map fun (i : Nat) => V.int (lo + (i : Int))
theorem lc_selR {lo : Int} {n : Nat} {j : Nat} {tt : TT} {te : TE} {vs : List Nat} {σ : L2.St} {H1 : Hp} {D : Addr} {Qd : Hp → Prop} (sel : List (Option V)) (nD : H1 D = none) (hlen : sel.length = n) (hz : n < sizeLine)
    (hw : ∀ x, wipe ((wipe σ vs).set j (some x)) vs = wipe σ vs)
    (hs : ∀ (i : Nat) (o : Option V) (H' : Hp), i < n → sel[i]? = some o → Same H1 H' → ∀ Qt : Option V → Hp → Prop, (∀ H'', Same H' H'' → Qt o H'') →
      tt ((wipe σ vs).set j (some (.int (lo + (i : Int))))) H' fun b H3 => if b = true then te ((wipe σ vs).set j (some (.int (lo + (i : Int))))) H3 fun y H4 => Qt (some y) H4 else Qt none H3)
    (hd : ∀ H', Same H1 H' → H' D = some (.lst (sel.filterMap id)) → Qd H') :
    ∃ W : Nat → Nat → Hp → Prop, (∃ m, W 0 m (upd H1 D (.lst []))) ∧ ∀ i m H, W i m H →
      ((Itr lo n).stop i H ∧ Qd H) ∨ ((Itr lo n).go i H ∧ ∃ Nx : Hp → Prop, (∀ H', Nx H' → ∃ m', m' < m ∧ W (i + 1) m' H') ∧ ∀ x H', (Itr lo n).yld i H x H' → gName j x (wipe σ vs) H' fun σ2 H2 => wipe σ2 vs = wipe σ vs ∧ tt σ2 H2 fun b H3 =>
        if b = true then te σ2 H3 fun y H4 => ∃ acc, H4 D = some (.lst acc) ∧ acc.length < sizeLine ∧ Nx (upd H4 D (.lst (acc ++ [y]))) else Nx H3) := by
  refine lc_range (lo := lo) (n := n) (fun i H => Same H1 H ∧ H D = some (.lst ((sel.take i).filterMap id))) ⟨same_upd nD, upd_same⟩ ?_ ?_
  · rintro i H hi' ⟨s, hD⟩
    refine ⟨hw _, ?_⟩
    have hi : i < sel.length := by rw [hlen]; exact hi'
    have ho : sel[i]? = some sel[i] := List.getElem?_eq_getElem hi
    have hl : ((sel.take i).filterMap id).length < sizeLine := Nat.lt_of_le_of_lt (fm_len sel i) (by omega)
    refine hs i sel[i] H hi' ho s (fun o H4 => match o with
      | some y => ∃ acc, H4 D = some (.lst acc) ∧ acc.length < sizeLine ∧ (Same H1 (upd H4 D (.lst (acc ++ [y]))) ∧ (upd H4 D (.lst (acc ++ [y]))) D = some (.lst ((sel.take (i + 1)).filterMap id)))
      | none => Same H1 H4 ∧ H4 D = some (.lst ((sel.take (i + 1)).filterMap id))) fun H4 s4 => ?_
    generalize sel[i] = o at ho ⊢
    cases o with
    | some y =>
      refine ⟨_, s4 _ _ hD, hl, same_over nD (s.trans s4), ?_⟩
      rw [upd_same, take_fm ho]
      rfl
    | none =>
      refine ⟨s.trans s4, ?_⟩
      rw [take_fm ho, s4 _ _ hD]
      simp
  · rintro H ⟨s, hD⟩
    refine hd H s ?_
    rw [hD, ← hlen, List.take_length]
theorem fm_some {α : Type} (ys : List α) : (ys.map some).filterMap id = ys := by
  rw [List.filterMap_map]
  show List.filterMap (fun y => some y) ys = ys
  exact List.filterMap_some
/-- no test: ys tells what comes of each item -/
theorem lc_mapL {K : PySem.W.Frag} {a : Addr} {xs : List V} {j : Nat} {te : TE} {vs : List Nat} {σ : L2.St} {H1 : Hp} {D : Addr} {Qd : Hp → Prop} (ys : List V) (nD : H1 D = none) (hS : SqL K H1 a xs) (hlen : ys.length = xs.length) (hz : xs.length < sizeLine)
    (hw : ∀ x, wipe ((wipe σ vs).set j (some x)) vs = wipe σ vs)
    (hs : ∀ (i : Nat) (x y : V) (H' : Hp), xs[i]? = some x → ys[i]? = some y → Same H1 H' → ∀ Qt : V → Hp → Prop, (∀ H'', Same H' H'' → Qt y H'') → te ((wipe σ vs).set j (some x)) H' Qt)
    (hd : ∀ H', Same H1 H' → H' D = some (.lst ys) → Qd H') :
    ∃ W : Nat → Nat → Hp → Prop, (∃ m, W 0 m (upd H1 D (.lst []))) ∧ ∀ i m H, W i m H →
      ((Itl K a).stop i H ∧ Qd H) ∨ ((Itl K a).go i H ∧ ∃ Nx : Hp → Prop, (∀ H', Nx H' → ∃ m', m' < m ∧ W (i + 1) m' H') ∧ ∀ x H', (Itl K a).yld i H x H' → gName j x (wipe σ vs) H' fun σ2 H2 => wipe σ2 vs = wipe σ vs ∧ tYes σ2 H2 fun b H3 =>
        if b = true then te σ2 H3 fun y H4 => ∃ acc, H4 D = some (.lst acc) ∧ acc.length < sizeLine ∧ Nx (upd H4 D (.lst (acc ++ [y]))) else Nx H3) := by
  refine lc_selL (K := K) (a := a) (xs := xs) (tt := tYes) (ys.map some) nD hS (by rw [List.length_map]; exact hlen) hz hw ?_ ?_
  · intro i x o H' hx ho s Qt qt
    rw [List.getElem?_map] at ho
    obtain ⟨y, hy, rfl⟩ := Option.map_eq_some_iff.mp ho
    show if true = true then te ((wipe σ vs).set j (some x)) H' (fun y H4 => Qt (some y) H4) else Qt none H'
    exact iteT (hs i x y H' hx hy s (fun y H4 => Qt (some y) H4) qt)
  · intro H' s hD
    rw [fm_some] at hD
    exact hd H' s hD
theorem lc_mapR {lo : Int} {n : Nat} {j : Nat} {te : TE} {vs : List Nat} {σ : L2.St} {H1 : Hp} {D : Addr} {Qd : Hp → Prop} (ys : List V) (nD : H1 D = none) (hlen : ys.length = n) (hz : n < sizeLine)
    (hw : ∀ x, wipe ((wipe σ vs).set j (some x)) vs = wipe σ vs)
    (hs : ∀ (i : Nat) (y : V) (H' : Hp), i < n → ys[i]? = some y → Same H1 H' → ∀ Qt : V → Hp → Prop, (∀ H'', Same H' H'' → Qt y H'') → te ((wipe σ vs).set j (some (.int (lo + (i : Int))))) H' Qt)
    (hd : ∀ H', Same H1 H' → H' D = some (.lst ys) → Qd H') :
    ∃ W : Nat → Nat → Hp → Prop, (∃ m, W 0 m (upd H1 D (.lst []))) ∧ ∀ i m H, W i m H →
      ((Itr lo n).stop i H ∧ Qd H) ∨ ((Itr lo n).go i H ∧ ∃ Nx : Hp → Prop, (∀ H', Nx H' → ∃ m', m' < m ∧ W (i + 1) m' H') ∧ ∀ x H', (Itr lo n).yld i H x H' → gName j x (wipe σ vs) H' fun σ2 H2 => wipe σ2 vs = wipe σ vs ∧ tYes σ2 H2 fun b H3 =>
        if b = true then te σ2 H3 fun y H4 => ∃ acc, H4 D = some (.lst acc) ∧ acc.length < sizeLine ∧ Nx (upd H4 D (.lst (acc ++ [y]))) else Nx H3) := by
  refine lc_selR (lo := lo) (n := n) (tt := tYes) (ys.map some) nD (by rw [List.length_map]; exact hlen) hz hw ?_ ?_
  · intro i o H' hi ho s Qt qt
    rw [List.getElem?_map] at ho
    obtain ⟨y, hy, rfl⟩ := Option.map_eq_some_iff.mp ho
    show if true = true then te ((wipe σ vs).set j (some (.int (lo + (i : Int))))) H' (fun y H4 => Qt (some y) H4) else Qt none H'
    exact iteT (hs i y H' hi hy s (fun y H4 => Qt (some y) H4) qt)
  · intro H' s hD
    rw [fm_some] at hD
    exact hd H' s hD
/-- an item of a list of whole numbers -/
theorem int_at {ns : List Int} {i : Nat} {x : V} (h : (ns.map V.int)[i]? = some x) : ∃ n, ns[i]? = some n ∧ x = .int n := by
  rw [List.getElem?_map] at h
  obtain ⟨n, hn, e⟩ := Option.map_eq_some_iff.mp h
  exact ⟨n, hn, e.symm⟩
/-! ### rules with the written part named (within a comprehension Lean doesn't find it) -/
section
variable {X : Cx}
theorem k_len (K : PySem.W.Frag) (h : X.K = K) : CallR X (.builtin "len") (fun xs H Q => ∃ p ys, xs = [.ref p] ∧ (SqL K H p ys ∨ SqT K H p ys) ∧ Q (.int ys.length) H) := by subst h; exact call_len_seq
theorem k_sum (K : PySem.W.Frag) (h : X.K = K) (hc : X.calm = true) : CallR X (.builtin "sum") (rSum K) := by subst h; exact cr_sum hc
theorem k_max (K : PySem.W.Frag) (h : X.K = K) (hc : X.calm = true) : CallR X (.builtin "max") (rMax K) := by subst h; exact cr_max hc
theorem k_min (K : PySem.W.Frag) (h : X.K = K) (hc : X.calm = true) : CallR X (.builtin "min") (rMin K) := by subst h; exact cr_min hc
theorem k_isi (K : PySem.W.Frag) (h : X.K = K) : CallR X (.builtin "isinstance") (rIsi K) := by subst h; exact call_isi
theorem k_listOf (K : PySem.W.Frag) (h : X.K = K) : CallR X (.type "list") (fun xs H Q => ∃ p ys, xs = [.ref p] ∧ (SqL K H p ys ∨ SqT K H p ys) ∧ ∀ l, H l = none → Q (.ref l) (upd H l (.lst ys))) := by subst h; exact call_list_of
theorem k_tupleOf (K : PySem.W.Frag) (h : X.K = K) : CallR X (.type "tuple") (fun xs H Q => ∃ p ys, xs = [.ref p] ∧ ((SqL K H p ys ∧ ∀ l, H l = none → Q (.ref l) (upd H l (.tup ys))) ∨ (SqT K H p ys ∧ Q (.ref p) H))) := by subst h; exact call_tuple_of
theorem k_ixL (K : PySem.W.Frag) (h : X.K = K) : IxR X (rIxL K) := by subst h; exact ix_list
theorem k_ixT (K : PySem.W.Frag) (h : X.K = K) : IxR X (rIxT K) := by subst h; exact ix_tup
theorem k_slL (K : PySem.W.Frag) (h : X.K = K) : SlR X (rSlL K) := by subst h; exact sl_list
theorem k_slT (K : PySem.W.Frag) (h : X.K = K) : SlR X (rSlT K) := by subst h; exact sl_tup
theorem k_eqD (K : PySem.W.Frag) (h : X.K = K) (hu : X.A.units + 64 < cLine) : OpR X (compareOp .Eq) (rEqD K) := by subst h; exact op_eqD hu
theorem k_neD (K : PySem.W.Frag) (h : X.K = K) (hu : X.A.units + 64 < cLine) : OpR X (compareOp .NotEq) (rNeD K) := by subst h; exact op_neD hu
theorem k_in (K : PySem.W.Frag) (h : X.K = K) : OpR X (compareOp .In) (rIn K false) := by subst h; exact op_in_seq
theorem k_notIn (K : PySem.W.Frag) (h : X.K = K) : OpR X (compareOp .NotIn) (rIn K true) := by subst h; exact op_notIn_seq
theorem k_piL (K : PySem.W.Frag) (h : X.K = K) {tg l : Expr} {tl : TE} (hl : PE X l tl) : PI X tg l (iList K tl) := by subst h; exact pi_list hl
theorem k_piT (K : PySem.W.Frag) (h : X.K = K) {tg l : Expr} {tl : TE} (hl : PE X l tl) : PI X tg l (iTup K tl) := by subst h; exact pi_tup hl
theorem k_piE (K : PySem.W.Frag) (h : X.K = K) {e : Expr} {ta : TA} {p pos tpos : Pos} {elts : List Expr} {kk : Nat} (hg : Gl X "enumerate") (hm : X.mg "enumerate" = none) (ha : PA X [e] ta) (hs : starEach [e] X.env = [(false, eval e X.env)] := by rfl) : PI X (.Tuple elts kk tpos) (.Call (.Name "enumerate" p) [e] [] pos) (iEnum K ta) := by subst h; exact pi_enum hg hm ha hs
theorem k_pgT (K : PySem.W.Frag) (h : X.K = K) {es : List Expr} {k : Nat} {t : TGs} {n : Nat} {pos : Pos} (hc : X.calm = true) (hp : PGs X es t) (hn : (assignEach es X.env).length = n := by rfl) (hst : (assignEach es X.env).findIdx? (·.1) = none := by rfl) : PG X (.Tuple es k pos) (gTup K n t) := by subst h; exact pg_tup hc hp hn hst
theorem k_index (K : PySem.W.Frag) (h : X.K = K) : MtR X "list.index" (rIndex K) := by subst h; exact mt_index
end
/-! ### small things -/
theorem fresh {H : Hp} {p : Addr} (o : HO) (np : H p = none) : ∃ H', upd H p o = H' ∧ Same H H' ∧ H' p = some o := ⟨_, rfl, same_upd np, upd_same⟩
theorem cut_take (xs : List V) (k : Nat) : cutV xs none (some (k : Int)) = xs.take k := by
  unfold cutV
  rw [HT.sIx_nat, HT.sIx_none, List.drop_zero, Nat.sub_zero]
  rcases Nat.le_total k xs.length with h | h
  · rw [Nat.min_eq_left h]
  · rw [Nat.min_eq_right h, List.take_of_length_le h, List.take_length]
theorem cut_drop (xs : List V) (k : Nat) : cutV xs (some (k : Int)) none = xs.drop k := by
  unfold cutV
  rw [HT.sIx_nat, HT.sIx_none]
  rcases Nat.le_total k xs.length with h | h
  · rw [Nat.min_eq_left h, List.take_of_length_le (by rw [List.length_drop]; exact Nat.le_refl _)]
  · rw [Nat.min_eq_right h, List.drop_length, List.drop_of_length_le h, List.take_nil]
theorem rep_ints (k : Nat) (ks : List Int) : (List.replicate k (ks.map V.int)).flatten = ((List.replicate k ks).flatten).map V.int := by
  rw [List.map_flatten, List.map_replicate]
theorem rep_len {α : Type} (k : Nat) (ks : List α) : ((List.replicate k ks).flatten).length = k * ks.length := by
  induction k with
  | zero => simp
  | succ k ih => rw [List.replicate_succ, List.flatten_cons, List.length_append, ih, Nat.succ_mul]; omega
theorem rep_mem {α : Type} {k : Nat} {ks : List α} {x : α} (h : x ∈ (List.replicate k ks).flatten) : x ∈ ks := by
  obtain ⟨l, hl, hx⟩ := List.mem_flatten.mp h
  rw [(List.mem_replicate.mp hl).2] at hx
  exact hx
/-! ### comprehensions that make new things: R tells what is known of the i-th; D is no part of it -/
def Off (D : Addr) (H H' : Hp) : Prop := ∀ b o, b ≠ D → H b = some o → H' b = some o
def RelPv (R : Nat → V → Hp → Prop) (H1 : Hp) (D : Addr) (i : Nat) (H : Hp) : Prop := ∃ ys : List V, Same H1 H ∧ H D = some (.lst ys) ∧ ys.length = i ∧ ∀ (k : Nat) (y : V), ys[k]? = some y → R k y H
theorem lc_relR {lo : Int} {n : Nat} {j : Nat} {te : TE} {vs : List Nat} {σ : L2.St} {H1 : Hp} {D : Addr} {Qd : Hp → Prop} (R : Nat → V → Hp → Prop) (nD : H1 D = none) (hz : n < sizeLine)
    (mono : ∀ i y H H', Off D H H' → R i y H → R i y H')
    (hw : ∀ x, wipe ((wipe σ vs).set j (some x)) vs = wipe σ vs)
    (hs : ∀ (i : Nat) (H' : Hp) (xs : List V), i < n → Same H1 H' → H' D = some (.lst xs) → ∀ Qt : V → Hp → Prop, (∀ y H'', Same H' H'' → R i y H'' → Qt y H'') → te ((wipe σ vs).set j (some (.int (lo + (i : Int))))) H' Qt)
    (hd : ∀ H' ys, Same H1 H' → H' D = some (.lst ys) → ys.length = n → (∀ (i : Nat) (y : V), ys[i]? = some y → R i y H') → Qd H') :
    ∃ W : Nat → Nat → Hp → Prop, (∃ m, W 0 m (upd H1 D (.lst []))) ∧ ∀ i m H, W i m H →
      ((Itr lo n).stop i H ∧ Qd H) ∨ ((Itr lo n).go i H ∧ ∃ Nx : Hp → Prop, (∀ H', Nx H' → ∃ m', m' < m ∧ W (i + 1) m' H') ∧ ∀ x H', (Itr lo n).yld i H x H' → gName j x (wipe σ vs) H' fun σ2 H2 => wipe σ2 vs = wipe σ vs ∧ tYes σ2 H2 fun b H3 =>
        if b = true then te σ2 H3 fun y H4 => ∃ acc, H4 D = some (.lst acc) ∧ acc.length < sizeLine ∧ Nx (upd H4 D (.lst (acc ++ [y]))) else Nx H3) := by
  refine lc_range (lo := lo) (n := n) (RelPv R H1 D) ⟨[], same_upd nD, upd_same, rfl, fun k y h => by simp at h⟩ ?_ ?_
  · rintro i H hi ⟨ys, s, hD, hl, hR⟩
    refine ⟨hw _, ?_⟩
    show if true = true then te ((wipe σ vs).set j (some (.int (lo + (i : Int))))) H (fun y H4 => ∃ acc, H4 D = some (.lst acc) ∧ acc.length < sizeLine ∧ RelPv R H1 D (i + 1) (upd H4 D (.lst (acc ++ [y])))) else RelPv R H1 D (i + 1) H
    refine iteT (hs i H ys hi s hD _ fun y H4 s4 r4 => ?_)
    refine ⟨ys, s4 _ _ hD, by omega, ys ++ [y], same_over nD (s.trans s4), upd_same, by rw [List.length_append, hl]; rfl, fun k z hz => ?_⟩
    have off : Off D H4 (upd H4 D (.lst (ys ++ [y]))) := fun b o nb h => by rw [upd_ne nb]; exact h
    by_cases hk : k < ys.length
    · rw [List.getElem?_append_left hk] at hz
      exact mono k z H _ (fun b o nb h => off b o nb (s4 b o h)) (hR k z hz)
    · rw [List.getElem?_append_right (by omega)] at hz
      have hk2 : k - ys.length = 0 := by
        have h2 := (List.getElem?_eq_some_iff.mp hz).1
        rw [List.length_singleton] at h2
        omega
      rw [hk2] at hz
      cases hz
      have ek : k = i := by omega
      rw [ek]
      exact mono i y H4 _ off r4
  · rintro H ⟨ys, s, hD, hl, hR⟩
    exact hd H ys s hD hl hR
/-! ### ways that are told by whole numbers -/
theorem iteDT {p A B : Prop} [Decidable p] (hp : p) (h : A) : if decide p = true then A else B := by rw [decide_eq_true hp]; exact iteT h
theorem iteDF {p A B : Prop} [Decidable p] (hp : ¬ p) (h : B) : if decide p = true then A else B := by rw [decide_eq_false hp]; exact iteF h
theorem iteNT {p A B : Prop} [Decidable p] (hp : ¬ p) (h : A) : if (!decide p) = true then A else B := by rw [decide_eq_false hp]; exact iteT h
theorem iteNF {p A B : Prop} [Decidable p] (hp : p) (h : B) : if (!decide p) = true then A else B := by rw [decide_eq_true hp]; exact iteF h
theorem iteET {a b : Int} {A B : Prop} [Decidable (V.int a = V.int b)] (hp : a = b) (h : A) : if decide (V.int a = V.int b) = true then A else B := iteDT (congrArg V.int hp) h
theorem iteEF {a b : Int} {A B : Prop} [Decidable (V.int a = V.int b)] (hp : ¬ a = b) (h : B) : if decide (V.int a = V.int b) = true then A else B := iteDF (fun z => hp (V.int.inj z)) h
theorem iteENT {a b : Int} {A B : Prop} [Decidable (V.int a = V.int b)] (hp : ¬ a = b) (h : A) : if (!decide (V.int a = V.int b)) = true then A else B := iteNT (fun z => hp (V.int.inj z)) h
theorem iteENF {a b : Int} {A B : Prop} [Decidable (V.int a = V.int b)] (hp : a = b) (h : B) : if (!decide (V.int a = V.int b)) = true then A else B := iteNF (congrArg V.int hp) h
/-- 1 or 0 of a comparison -/
theorem int_if {p : Prop} [Decidable p] : (if decide p = true then (1 : Int) else 0) = if p then 1 else 0 := by by_cases h : p <;> simp [h]
end Pre

namespace My
open PySem PySem.Spec PyProof.Rows L2
theorem nil_binds {K : PySem.W.Frag} {fd : FuncData} {ps : List Str} (h : ∃ ds, Vals [] ds ∧ Binds K fd ps ds) : Binds K fd ps [] := by
  obtain ⟨ds, v, b⟩ := h
  cases v
  exact b
def top (i : Nat) : Stmt := PySem.Challenge.pw_wholesound_k43_losses_by_number_and_sum.main.body.getD i (.Pass ⟨0, 0, 0, 0⟩)
abbrev s_is_whole : Stmt := top 5
abbrev N_is_whole : List Str := ["value"]
theorem sc_is_whole : FnScope N_is_whole ["value"] (defScope s_is_whole) := ⟨rfl, rfl, rfl, by decide +kernel, rfl, by decide +kernel, by decide +kernel⟩
abbrev s_is_between : Stmt := top 6
abbrev N_is_between : List Str := ["value", "low", "high"]
theorem sc_is_between : FnScope N_is_between ["value", "low", "high"] (defScope s_is_between) := ⟨rfl, rfl, rfl, by decide +kernel, rfl, by decide +kernel, by decide +kernel⟩
abbrev s_check_number : Stmt := top 7
abbrev N_check_number : List Str := ["number", "low", "high"]
theorem sc_check_number : FnScope N_check_number ["number", "low", "high"] (defScope s_check_number) := ⟨rfl, rfl, rfl, by decide +kernel, rfl, by decide +kernel, by decide +kernel⟩
abbrev s_check_width : Stmt := top 10
abbrev N_check_width : List Str := ["width"]
theorem sc_check_width : FnScope N_check_width ["width"] (defScope s_check_width) := ⟨rfl, rfl, rfl, by decide +kernel, rfl, by decide +kernel, by decide +kernel⟩
abbrev s_rounded_up : Stmt := top 11
abbrev N_rounded_up : List Str := ["top", "under"]
theorem sc_rounded_up : FnScope N_rounded_up ["top", "under"] (defScope s_rounded_up) := ⟨rfl, rfl, rfl, by decide +kernel, rfl, by decide +kernel, by decide +kernel⟩
abbrev s_check_sum : Stmt := top 12
abbrev N_check_sum : List Str := ["many", "total"]
theorem sc_check_sum : FnScope N_check_sum ["many", "total"] (defScope s_check_sum) := ⟨rfl, rfl, rfl, by decide +kernel, rfl, by decide +kernel, by decide +kernel⟩
abbrev s_filled : Stmt := top 13
abbrev N_filled : List Str := ["folds", "top", "left", "told", "unit", "more"]
theorem sc_filled : FnScope N_filled ["folds", "top", "left"] (defScope s_filled) := ⟨rfl, rfl, rfl, by decide +kernel, rfl, by decide +kernel, by decide +kernel⟩
abbrev s_far_loss : Stmt := top 14
abbrev N_far_loss : List Str := ["many", "total", "width", "other", "span", "count"]
theorem sc_far_loss : FnScope N_far_loss ["many", "total", "width", "other"] (defScope s_far_loss) := ⟨rfl, rfl, rfl, by decide +kernel, rfl, by decide +kernel, by decide +kernel⟩
abbrev s_worst_other : Stmt := top 15
abbrev N_worst_other : List Str := ["many", "total", "width", "told", "best", "other"]
theorem sc_worst_other : FnScope N_worst_other ["many", "total", "width"] (defScope s_worst_other) := ⟨rfl, rfl, rfl, by decide +kernel, rfl, by decide +kernel, by decide +kernel⟩
abbrev s_loss : Stmt := top 16
abbrev N_loss : List Str := ["many", "total", "width"]
theorem sc_loss : FnScope N_loss ["many", "total", "width"] (defScope s_loss) := ⟨rfl, rfl, rfl, by decide +kernel, rfl, by decide +kernel, by decide +kernel⟩
abbrev s_loss_row : Stmt := top 17
abbrev N_loss_row : List Str := ["many", "total", "width", "other", "count", "folds", "span", "unit"]
theorem sc_loss_row : FnScope N_loss_row ["many", "total", "width"] (defScope s_loss_row) := ⟨rfl, rfl, rfl, by decide +kernel, rfl, by decide +kernel, by decide +kernel⟩
abbrev s_safest : Stmt := top 18
abbrev N_safest : List Str := ["many", "total", "told", "best", "width"]
theorem sc_safest : FnScope N_safest ["many", "total"] (defScope s_safest) := ⟨rfl, rfl, rfl, by decide +kernel, rfl, by decide +kernel, by decide +kernel⟩
abbrev s_law_cell : Stmt := top 20
abbrev N_law_cell : List Str := ["_law_script", "_law_index"]
theorem sc_law_cell : FnScope N_law_cell ["_law_script", "_law_index"] (defScope s_law_cell) := ⟨rfl, rfl, rfl, by decide +kernel, rfl, by decide +kernel, by decide +kernel⟩
abbrev s_law_hash : Stmt := top 21
abbrev N_law_hash : List Str := ["_law_seed", "_law_index", "_law_mixed"]
theorem sc_law_hash : FnScope N_law_hash ["_law_seed", "_law_index"] (defScope s_law_hash) := ⟨rfl, rfl, rfl, by decide +kernel, rfl, by decide +kernel, by decide +kernel⟩
abbrev s_law_generator : Stmt := top 22
abbrev N_law_generator : List Str := ["_law_script", "_law_index", "_law_seed"]
theorem sc_law_generator : FnScope N_law_generator ["_law_script", "_law_index"] (defScope s_law_generator) := ⟨rfl, rfl, rfl, by decide +kernel, rfl, by decide +kernel, by decide +kernel⟩
abbrev s_law_random : Stmt := top 23
abbrev N_law_random : List Str := ["_law_generator_here", "_law_bound", "_law_drawn", "_law_turn"]
theorem sc_law_random : FnScope N_law_random ["_law_generator_here", "_law_bound"] (defScope s_law_random) := ⟨rfl, rfl, rfl, by decide +kernel, rfl, by decide +kernel, by decide +kernel⟩
abbrev s_law_price : Stmt := top 24
abbrev N_law_price : List Str := ["_law_folds", "_law_width", "_law_total", "_law_fold"]
theorem sc_law_price : FnScope N_law_price ["_law_folds", "_law_width"] (defScope s_law_price) := ⟨rfl, rfl, rfl, by decide +kernel, rfl, by decide +kernel, by decide +kernel⟩
abbrev s_law_all_rows : Stmt := top 25
abbrev N_law_all_rows : List Str := ["_law_many", "_law_total", "_law_found", "_law_one", "_law_row"]
theorem sc_law_all_rows : FnScope N_law_all_rows ["_law_many", "_law_total"] (defScope s_law_all_rows) := ⟨rfl, rfl, rfl, by decide +kernel, rfl, by decide +kernel, by decide +kernel⟩
abbrev s_law_lost : Stmt := top 26
abbrev N_law_lost : List Str := ["_law_folds", "_law_width", "_law_one"]
theorem sc_law_lost : FnScope N_law_lost ["_law_folds", "_law_width"] (defScope s_law_lost) := ⟨rfl, rfl, rfl, by decide +kernel, rfl, by decide +kernel, by decide +kernel⟩
abbrev s_law_small_right : Stmt := top 27
abbrev N_law_small_right : List Str := ["_law_many", "_law_total", "_law_width", "_law_rows", "_law_losses", "_law_lost_here", "_law_told", "_law_row", "_law_one"]
theorem sc_law_small_right : FnScope N_law_small_right ["_law_many", "_law_total"] (defScope s_law_small_right) := ⟨rfl, rfl, rfl, by decide +kernel, rfl, by decide +kernel, by decide +kernel⟩
abbrev s_law_drawn_row : Stmt := top 28
abbrev N_law_drawn_row : List Str := ["_law_generator_here", "_law_many", "_law_total", "_law_at", "_law_found", "_law_left", "_law_kind", "_law_more"]
theorem sc_law_drawn_row : FnScope N_law_drawn_row ["_law_generator_here", "_law_many", "_law_total"] (defScope s_law_drawn_row) := ⟨rfl, rfl, rfl, by decide +kernel, rfl, by decide +kernel, by decide +kernel⟩
abbrev s_law_great_right : Stmt := top 29
abbrev N_law_great_right : List Str := ["_law_generator_here", "_law_many", "_law_total", "_law_other", "_law_width", "_law_least", "_law_turn", "_law_most", "_law_told"]
theorem sc_law_great_right : FnScope N_law_great_right ["_law_generator_here", "_law_many", "_law_total"] (defScope s_law_great_right) := ⟨rfl, rfl, rfl, by decide +kernel, rfl, by decide +kernel, by decide +kernel⟩
abbrev s_law : Stmt := top 30
abbrev N_law : List Str := ["_law_script", "_law_generator_here", "_law_many", "_law_deep"]
theorem sc_law : FnScope N_law ["_law_script"] (defScope s_law) := ⟨rfl, rfl, rfl, by decide +kernel, rfl, by decide +kernel, by decide +kernel⟩
/-- what the top has left -/
structure Top (K : PySem.W.Frag) (mg : Str → Option Value) where
  f_is_whole : Addr
  fd_is_whole : FuncData
  F_is_whole : FunD K "is_whole" "is_whole" (defArgs s_is_whole) (defBody s_is_whole) (defScope s_is_whole) [] [] f_is_whole fd_is_whole
  b_is_whole : Binds K fd_is_whole ["value"] []
  g_is_whole : mg "is_whole" = some (.ref f_is_whole)
  f_is_between : Addr
  fd_is_between : FuncData
  F_is_between : FunD K "is_between" "is_between" (defArgs s_is_between) (defBody s_is_between) (defScope s_is_between) [] [] f_is_between fd_is_between
  b_is_between : Binds K fd_is_between ["value", "low", "high"] []
  g_is_between : mg "is_between" = some (.ref f_is_between)
  f_check_number : Addr
  fd_check_number : FuncData
  F_check_number : FunD K "check_number" "check_number" (defArgs s_check_number) (defBody s_check_number) (defScope s_check_number) [] [] f_check_number fd_check_number
  b_check_number : Binds K fd_check_number ["number", "low", "high"] []
  g_check_number : mg "check_number" = some (.ref f_check_number)
  f_check_width : Addr
  fd_check_width : FuncData
  F_check_width : FunD K "check_width" "check_width" (defArgs s_check_width) (defBody s_check_width) (defScope s_check_width) [] [] f_check_width fd_check_width
  b_check_width : Binds K fd_check_width ["width"] []
  g_check_width : mg "check_width" = some (.ref f_check_width)
  f_rounded_up : Addr
  fd_rounded_up : FuncData
  F_rounded_up : FunD K "rounded_up" "rounded_up" (defArgs s_rounded_up) (defBody s_rounded_up) (defScope s_rounded_up) [] [] f_rounded_up fd_rounded_up
  b_rounded_up : Binds K fd_rounded_up ["top", "under"] []
  g_rounded_up : mg "rounded_up" = some (.ref f_rounded_up)
  f_check_sum : Addr
  fd_check_sum : FuncData
  F_check_sum : FunD K "check_sum" "check_sum" (defArgs s_check_sum) (defBody s_check_sum) (defScope s_check_sum) [] [] f_check_sum fd_check_sum
  b_check_sum : Binds K fd_check_sum ["many", "total"] []
  g_check_sum : mg "check_sum" = some (.ref f_check_sum)
  f_filled : Addr
  fd_filled : FuncData
  F_filled : FunD K "filled" "filled" (defArgs s_filled) (defBody s_filled) (defScope s_filled) [] [] f_filled fd_filled
  b_filled : Binds K fd_filled ["folds", "top", "left"] []
  g_filled : mg "filled" = some (.ref f_filled)
  f_far_loss : Addr
  fd_far_loss : FuncData
  F_far_loss : FunD K "far_loss" "far_loss" (defArgs s_far_loss) (defBody s_far_loss) (defScope s_far_loss) [] [] f_far_loss fd_far_loss
  b_far_loss : Binds K fd_far_loss ["many", "total", "width", "other"] []
  g_far_loss : mg "far_loss" = some (.ref f_far_loss)
  f_worst_other : Addr
  fd_worst_other : FuncData
  F_worst_other : FunD K "worst_other" "worst_other" (defArgs s_worst_other) (defBody s_worst_other) (defScope s_worst_other) [] [] f_worst_other fd_worst_other
  b_worst_other : Binds K fd_worst_other ["many", "total", "width"] []
  g_worst_other : mg "worst_other" = some (.ref f_worst_other)
  f_loss : Addr
  fd_loss : FuncData
  F_loss : FunD K "loss" "loss" (defArgs s_loss) (defBody s_loss) (defScope s_loss) [] [] f_loss fd_loss
  b_loss : Binds K fd_loss ["many", "total", "width"] []
  g_loss : mg "loss" = some (.ref f_loss)
  f_loss_row : Addr
  fd_loss_row : FuncData
  F_loss_row : FunD K "loss_row" "loss_row" (defArgs s_loss_row) (defBody s_loss_row) (defScope s_loss_row) [] [] f_loss_row fd_loss_row
  b_loss_row : Binds K fd_loss_row ["many", "total", "width"] []
  g_loss_row : mg "loss_row" = some (.ref f_loss_row)
  f_safest : Addr
  fd_safest : FuncData
  F_safest : FunD K "safest" "safest" (defArgs s_safest) (defBody s_safest) (defScope s_safest) [] [] f_safest fd_safest
  b_safest : Binds K fd_safest ["many", "total"] []
  g_safest : mg "safest" = some (.ref f_safest)
  f_law_cell : Addr
  fd_law_cell : FuncData
  F_law_cell : FunD K "_law_cell" "_law_cell" (defArgs s_law_cell) (defBody s_law_cell) (defScope s_law_cell) [] [] f_law_cell fd_law_cell
  b_law_cell : Binds K fd_law_cell ["_law_script", "_law_index"] []
  g_law_cell : mg "_law_cell" = some (.ref f_law_cell)
  f_law_hash : Addr
  fd_law_hash : FuncData
  F_law_hash : FunD K "_law_hash" "_law_hash" (defArgs s_law_hash) (defBody s_law_hash) (defScope s_law_hash) [] [] f_law_hash fd_law_hash
  b_law_hash : Binds K fd_law_hash ["_law_seed", "_law_index"] []
  g_law_hash : mg "_law_hash" = some (.ref f_law_hash)
  f_law_generator : Addr
  fd_law_generator : FuncData
  F_law_generator : FunD K "_law_generator" "_law_generator" (defArgs s_law_generator) (defBody s_law_generator) (defScope s_law_generator) [] [] f_law_generator fd_law_generator
  b_law_generator : Binds K fd_law_generator ["_law_script", "_law_index"] []
  g_law_generator : mg "_law_generator" = some (.ref f_law_generator)
  f_law_random : Addr
  fd_law_random : FuncData
  F_law_random : FunD K "_law_random" "_law_random" (defArgs s_law_random) (defBody s_law_random) (defScope s_law_random) [] [] f_law_random fd_law_random
  b_law_random : Binds K fd_law_random ["_law_generator_here", "_law_bound"] []
  g_law_random : mg "_law_random" = some (.ref f_law_random)
  f_law_price : Addr
  fd_law_price : FuncData
  F_law_price : FunD K "_law_price" "_law_price" (defArgs s_law_price) (defBody s_law_price) (defScope s_law_price) [] [] f_law_price fd_law_price
  b_law_price : Binds K fd_law_price ["_law_folds", "_law_width"] []
  g_law_price : mg "_law_price" = some (.ref f_law_price)
  f_law_all_rows : Addr
  fd_law_all_rows : FuncData
  F_law_all_rows : FunD K "_law_all_rows" "_law_all_rows" (defArgs s_law_all_rows) (defBody s_law_all_rows) (defScope s_law_all_rows) [] [] f_law_all_rows fd_law_all_rows
  b_law_all_rows : Binds K fd_law_all_rows ["_law_many", "_law_total"] []
  g_law_all_rows : mg "_law_all_rows" = some (.ref f_law_all_rows)
  f_law_lost : Addr
  fd_law_lost : FuncData
  F_law_lost : FunD K "_law_lost" "_law_lost" (defArgs s_law_lost) (defBody s_law_lost) (defScope s_law_lost) [] [] f_law_lost fd_law_lost
  b_law_lost : Binds K fd_law_lost ["_law_folds", "_law_width"] []
  g_law_lost : mg "_law_lost" = some (.ref f_law_lost)
  f_law_small_right : Addr
  fd_law_small_right : FuncData
  F_law_small_right : FunD K "_law_small_right" "_law_small_right" (defArgs s_law_small_right) (defBody s_law_small_right) (defScope s_law_small_right) [] [] f_law_small_right fd_law_small_right
  b_law_small_right : Binds K fd_law_small_right ["_law_many", "_law_total"] []
  g_law_small_right : mg "_law_small_right" = some (.ref f_law_small_right)
  f_law_drawn_row : Addr
  fd_law_drawn_row : FuncData
  F_law_drawn_row : FunD K "_law_drawn_row" "_law_drawn_row" (defArgs s_law_drawn_row) (defBody s_law_drawn_row) (defScope s_law_drawn_row) [] [] f_law_drawn_row fd_law_drawn_row
  b_law_drawn_row : Binds K fd_law_drawn_row ["_law_generator_here", "_law_many", "_law_total"] []
  g_law_drawn_row : mg "_law_drawn_row" = some (.ref f_law_drawn_row)
  f_law_great_right : Addr
  fd_law_great_right : FuncData
  F_law_great_right : FunD K "_law_great_right" "_law_great_right" (defArgs s_law_great_right) (defBody s_law_great_right) (defScope s_law_great_right) [] [] f_law_great_right fd_law_great_right
  b_law_great_right : Binds K fd_law_great_right ["_law_generator_here", "_law_many", "_law_total"] []
  g_law_great_right : mg "_law_great_right" = some (.ref f_law_great_right)
  f_law : Addr
  fd_law : FuncData
  F_law : FunD K "law" "law" (defArgs s_law) (defBody s_law) (defScope s_law) [] [] f_law fd_law
  b_law : Binds K fd_law ["_law_script"] []
  g_law : mg "law" = some (.ref f_law)
  n_len : mg "len" = none
  n_sum : mg "sum" = none
  n_max : mg "max" = none
  n_min : mg "min" = none
  n_int : mg "int" = none
  n_bool : mg "bool" = none
  n_range : mg "range" = none
  n_isinstance : mg "isinstance" = none
  t_MOST_WIDTH : Tok
  m_MOST_WIDTH : mg "MOST_WIDTH" = some (.int 120 t_MOST_WIDTH)
def d_is_whole : He.DefD := ⟨("is_whole", none), "is_whole", "is_whole", defArgs s_is_whole, defBody s_is_whole, defScope s_is_whole, [], []⟩
def d_is_between : He.DefD := ⟨("is_between", none), "is_between", "is_between", defArgs s_is_between, defBody s_is_between, defScope s_is_between, [], []⟩
def d_check_number : He.DefD := ⟨("check_number", none), "check_number", "check_number", defArgs s_check_number, defBody s_check_number, defScope s_check_number, [], []⟩
def d_check_width : He.DefD := ⟨("check_width", none), "check_width", "check_width", defArgs s_check_width, defBody s_check_width, defScope s_check_width, [], []⟩
def d_rounded_up : He.DefD := ⟨("rounded_up", none), "rounded_up", "rounded_up", defArgs s_rounded_up, defBody s_rounded_up, defScope s_rounded_up, [], []⟩
def d_check_sum : He.DefD := ⟨("check_sum", none), "check_sum", "check_sum", defArgs s_check_sum, defBody s_check_sum, defScope s_check_sum, [], []⟩
def d_filled : He.DefD := ⟨("filled", none), "filled", "filled", defArgs s_filled, defBody s_filled, defScope s_filled, [], []⟩
def d_far_loss : He.DefD := ⟨("far_loss", none), "far_loss", "far_loss", defArgs s_far_loss, defBody s_far_loss, defScope s_far_loss, [], []⟩
def d_worst_other : He.DefD := ⟨("worst_other", none), "worst_other", "worst_other", defArgs s_worst_other, defBody s_worst_other, defScope s_worst_other, [], []⟩
def d_loss : He.DefD := ⟨("loss", none), "loss", "loss", defArgs s_loss, defBody s_loss, defScope s_loss, [], []⟩
def d_loss_row : He.DefD := ⟨("loss_row", none), "loss_row", "loss_row", defArgs s_loss_row, defBody s_loss_row, defScope s_loss_row, [], []⟩
def d_safest : He.DefD := ⟨("safest", none), "safest", "safest", defArgs s_safest, defBody s_safest, defScope s_safest, [], []⟩
def d_law_cell : He.DefD := ⟨("_law_cell", none), "_law_cell", "_law_cell", defArgs s_law_cell, defBody s_law_cell, defScope s_law_cell, [], []⟩
def d_law_hash : He.DefD := ⟨("_law_hash", none), "_law_hash", "_law_hash", defArgs s_law_hash, defBody s_law_hash, defScope s_law_hash, [], []⟩
def d_law_generator : He.DefD := ⟨("_law_generator", none), "_law_generator", "_law_generator", defArgs s_law_generator, defBody s_law_generator, defScope s_law_generator, [], []⟩
def d_law_random : He.DefD := ⟨("_law_random", none), "_law_random", "_law_random", defArgs s_law_random, defBody s_law_random, defScope s_law_random, [], []⟩
def d_law_price : He.DefD := ⟨("_law_price", none), "_law_price", "_law_price", defArgs s_law_price, defBody s_law_price, defScope s_law_price, [], []⟩
def d_law_all_rows : He.DefD := ⟨("_law_all_rows", none), "_law_all_rows", "_law_all_rows", defArgs s_law_all_rows, defBody s_law_all_rows, defScope s_law_all_rows, [], []⟩
def d_law_lost : He.DefD := ⟨("_law_lost", none), "_law_lost", "_law_lost", defArgs s_law_lost, defBody s_law_lost, defScope s_law_lost, [], []⟩
def d_law_small_right : He.DefD := ⟨("_law_small_right", none), "_law_small_right", "_law_small_right", defArgs s_law_small_right, defBody s_law_small_right, defScope s_law_small_right, [], []⟩
def d_law_drawn_row : He.DefD := ⟨("_law_drawn_row", none), "_law_drawn_row", "_law_drawn_row", defArgs s_law_drawn_row, defBody s_law_drawn_row, defScope s_law_drawn_row, [], []⟩
def d_law_great_right : He.DefD := ⟨("_law_great_right", none), "_law_great_right", "_law_great_right", defArgs s_law_great_right, defBody s_law_great_right, defScope s_law_great_right, [], []⟩
def d_law : He.DefD := ⟨("law", none), "law", "law", defArgs s_law, defBody s_law, defScope s_law, [], []⟩
def fn : List He.DefD := [d_is_whole, d_is_between, d_check_number, d_check_width, d_rounded_up, d_check_sum, d_filled, d_far_loss, d_worst_other, d_loss, d_loss_row, d_safest, d_law_cell, d_law_hash, d_law_generator, d_law_random, d_law_price, d_law_all_rows, d_law_lost, d_law_small_right, d_law_drawn_row, d_law_great_right, d_law]
def fa0 : List He.Fa := [.glo "is_whole", .glo "is_between", .glo "check_number", .glo "check_width", .glo "rounded_up", .glo "check_sum", .glo "filled", .glo "far_loss", .glo "worst_other", .glo "loss", .glo "loss_row", .glo "safest", .glo "_law_cell", .glo "_law_hash", .glo "_law_generator", .glo "_law_random", .glo "_law_price", .glo "_law_all_rows", .glo "_law_lost", .glo "_law_small_right", .glo "_law_drawn_row", .glo "_law_great_right", .glo "law", .free "len", .free "sum", .free "max", .free "min", .free "int", .free "bool", .free "range"]
def fa1 : List He.Fa := [.free "isinstance", .int "MOST_WIDTH" 120]
def fa : List He.Fa := fa0 ++ fa1
/-- isinstance of an own class -/
def insB (K : PySem.W.Frag) (x : Str) : Bool := decide (PySem.W.findIn K (.ref (He.ga K x)) "__class__" = some (some (.builtin "object.__class__"))) && (decide (PySem.W.specialIn K (.builtin "object.__class__") "__get__" = some (some (.builtin "getset_descriptor.__get__"))) && (decide (PySem.W.takesIn K (.builtin "object.__class__") = some true) && (decide (PySem.W.mroIn K (He.ga K x) (.type "object") = some true) && decide (PySem.W.kitOne K (.ref (He.ga K x)) (.ref (He.ga K x)) = some true))))
theorem insB_ok {K : PySem.W.Frag} {x : Str} (cl : Cls K (He.ga K x)) (h : insB K x = true) : C8.InsC K (He.ga K x) := by
  unfold insB at h
  simp only [Bool.and_eq_true, decide_eq_true_eq] at h
  exact ⟨cl, h.1, h.2.1, h.2.2.1, h.2.2.2.1, h.2.2.2.2⟩
def eqB (K : PySem.W.Frag) (x : Str) : Bool := decide (PySem.W.findIn K (.ref (He.ga K x)) "__ne__" = some (some (.builtin "object.__ne__"))) && (decide (PySem.W.subIn K (.ref (He.ga K x)) (.type "object") = some true) && (decide (PySem.W.subIn K (.type "list") (.ref (He.ga K x)) = some false) && decide (PySem.W.kitOne K (.type "list") (.ref (He.ga K x)) = some false)))
def eqs : List Str := []
def own : List Str := []
def ex (K : PySem.W.Frag) : Bool := (own.all fun x => insB K x) && eqs.all fun x => eqB K x
abbrev R : PySem.W.OpenRow := PySem.W.OpenLaw.row PySem.Challenge.rw_wholesound_k43_losses_by_number_and_sum
abbrev Al : Type := He.AlD × Bool
def obsG (g : Addr → Option Obj) : Al := (He.obsDG 5 fa fn g, ex (He.frG g (He.asD g 5)))
def Says (K : PySem.W.Frag) : Prop := He.SaysD fa fn K ∧ ex K = true
def hk : PySem.W.Hook where
  α := Al
  obs := fun s => obsG s.heap.get?
  val := fun _ => (He.valD fn, true)
  says := fun _ h => ∃ K : PySem.W.Frag, K.In h ∧ Says K
  of := fun _ _ e => ⟨_, He.frG_in, congrArg Prod.fst e, congrArg Prod.snd e⟩
  keeps := fun _ _ _ ⟨K, hK, c⟩ k => ⟨K, PySem.W.Frag.In.keeps hK k, c⟩
def ob (s : PySem.W.SharedT) : Al := obsG (HandSHeadRun.getT s)
theorem ob_eq (s : PySem.W.SharedT) : ob s = hk.obs s.abs := by
  have e : HandSHeadRun.getT s = s.abs.heap.get? := funext (HandSHeadRun.getT_eq s)
  show obsG (HandSHeadRun.getT s) = obsG s.abs.heap.get?
  rw [e]
def loose0 : List PySem.Str := ["SoundError", "InvalidNumber", "InvalidWidth", "is_whole", "is_between", "check_number", "MOST_WIDTH", "check_width", "rounded_up", "check_sum", "filled", "far_loss", "worst_other", "loss", "loss_row", "safest", "_law_cell", "_law_hash", "_law_generator", "_law_random", "_law_price", "_law_all_rows", "_law_lost", "_law_small_right", "_law_drawn_row", "_law_great_right"]
abbrev loose : List PySem.Str := loose0
theorem run (w : World) : HandSHeadRun.RunEq R (PySem.W.view R.prog [30]) hk ob 8000 loose w := by
  intro os
  kernel_rfl
noncomputable def top_mk {K : PySem.W.Frag} {h : Heap} {mg : Str → Option Value} (X : K.In h) (G : h.Ns mainGlobals mg) (c : Says K) : Top K mg :=
  let p0 := c.1.def_ 0 (d := d_is_whole) rfl
  let p1 := c.1.def_ 1 (d := d_is_between) rfl
  let p2 := c.1.def_ 2 (d := d_check_number) rfl
  let p3 := c.1.def_ 3 (d := d_check_width) rfl
  let p4 := c.1.def_ 4 (d := d_rounded_up) rfl
  let p5 := c.1.def_ 5 (d := d_check_sum) rfl
  let p6 := c.1.def_ 6 (d := d_filled) rfl
  let p7 := c.1.def_ 7 (d := d_far_loss) rfl
  let p8 := c.1.def_ 8 (d := d_worst_other) rfl
  let p9 := c.1.def_ 9 (d := d_loss) rfl
  let p10 := c.1.def_ 10 (d := d_loss_row) rfl
  let p11 := c.1.def_ 11 (d := d_safest) rfl
  let p12 := c.1.def_ 12 (d := d_law_cell) rfl
  let p13 := c.1.def_ 13 (d := d_law_hash) rfl
  let p14 := c.1.def_ 14 (d := d_law_generator) rfl
  let p15 := c.1.def_ 15 (d := d_law_random) rfl
  let p16 := c.1.def_ 16 (d := d_law_price) rfl
  let p17 := c.1.def_ 17 (d := d_law_all_rows) rfl
  let p18 := c.1.def_ 18 (d := d_law_lost) rfl
  let p19 := c.1.def_ 19 (d := d_law_small_right) rfl
  let p20 := c.1.def_ 20 (d := d_law_drawn_row) rfl
  let p21 := c.1.def_ 21 (d := d_law_great_right) rfl
  let p22 := c.1.def_ 22 (d := d_law) rfl
  let q0 := He.int_ok X G (c.1.fact 31 (f := .int "MOST_WIDTH" 120) rfl)
  { f_is_whole := _, fd_is_whole := p0.choose, F_is_whole := p0.choose_spec, b_is_whole := p0.choose_spec.bindsN fun _ _ _ _ _ _ us hl => match us, hl with | [_], _ => rfl, g_is_whole := He.glo_ok X G (c.1.fact 0 (f := .glo "is_whole") rfl),
    f_is_between := _, fd_is_between := p1.choose, F_is_between := p1.choose_spec, b_is_between := p1.choose_spec.bindsN fun _ _ _ _ _ _ us hl => match us, hl with | [_, _, _], _ => rfl, g_is_between := He.glo_ok X G (c.1.fact 1 (f := .glo "is_between") rfl),
    f_check_number := _, fd_check_number := p2.choose, F_check_number := p2.choose_spec, b_check_number := p2.choose_spec.bindsN fun _ _ _ _ _ _ us hl => match us, hl with | [_, _, _], _ => rfl, g_check_number := He.glo_ok X G (c.1.fact 2 (f := .glo "check_number") rfl),
    f_check_width := _, fd_check_width := p3.choose, F_check_width := p3.choose_spec, b_check_width := p3.choose_spec.bindsN fun _ _ _ _ _ _ us hl => match us, hl with | [_], _ => rfl, g_check_width := He.glo_ok X G (c.1.fact 3 (f := .glo "check_width") rfl),
    f_rounded_up := _, fd_rounded_up := p4.choose, F_rounded_up := p4.choose_spec, b_rounded_up := p4.choose_spec.bindsN fun _ _ _ _ _ _ us hl => match us, hl with | [_, _], _ => rfl, g_rounded_up := He.glo_ok X G (c.1.fact 4 (f := .glo "rounded_up") rfl),
    f_check_sum := _, fd_check_sum := p5.choose, F_check_sum := p5.choose_spec, b_check_sum := p5.choose_spec.bindsN fun _ _ _ _ _ _ us hl => match us, hl with | [_, _], _ => rfl, g_check_sum := He.glo_ok X G (c.1.fact 5 (f := .glo "check_sum") rfl),
    f_filled := _, fd_filled := p6.choose, F_filled := p6.choose_spec, b_filled := p6.choose_spec.bindsN fun _ _ _ _ _ _ us hl => match us, hl with | [_, _, _], _ => rfl, g_filled := He.glo_ok X G (c.1.fact 6 (f := .glo "filled") rfl),
    f_far_loss := _, fd_far_loss := p7.choose, F_far_loss := p7.choose_spec, b_far_loss := p7.choose_spec.bindsN fun _ _ _ _ _ _ us hl => match us, hl with | [_, _, _, _], _ => rfl, g_far_loss := He.glo_ok X G (c.1.fact 7 (f := .glo "far_loss") rfl),
    f_worst_other := _, fd_worst_other := p8.choose, F_worst_other := p8.choose_spec, b_worst_other := p8.choose_spec.bindsN fun _ _ _ _ _ _ us hl => match us, hl with | [_, _, _], _ => rfl, g_worst_other := He.glo_ok X G (c.1.fact 8 (f := .glo "worst_other") rfl),
    f_loss := _, fd_loss := p9.choose, F_loss := p9.choose_spec, b_loss := p9.choose_spec.bindsN fun _ _ _ _ _ _ us hl => match us, hl with | [_, _, _], _ => rfl, g_loss := He.glo_ok X G (c.1.fact 9 (f := .glo "loss") rfl),
    f_loss_row := _, fd_loss_row := p10.choose, F_loss_row := p10.choose_spec, b_loss_row := p10.choose_spec.bindsN fun _ _ _ _ _ _ us hl => match us, hl with | [_, _, _], _ => rfl, g_loss_row := He.glo_ok X G (c.1.fact 10 (f := .glo "loss_row") rfl),
    f_safest := _, fd_safest := p11.choose, F_safest := p11.choose_spec, b_safest := p11.choose_spec.bindsN fun _ _ _ _ _ _ us hl => match us, hl with | [_, _], _ => rfl, g_safest := He.glo_ok X G (c.1.fact 11 (f := .glo "safest") rfl),
    f_law_cell := _, fd_law_cell := p12.choose, F_law_cell := p12.choose_spec, b_law_cell := p12.choose_spec.bindsN fun _ _ _ _ _ _ us hl => match us, hl with | [_, _], _ => rfl, g_law_cell := He.glo_ok X G (c.1.fact 12 (f := .glo "_law_cell") rfl),
    f_law_hash := _, fd_law_hash := p13.choose, F_law_hash := p13.choose_spec, b_law_hash := p13.choose_spec.bindsN fun _ _ _ _ _ _ us hl => match us, hl with | [_, _], _ => rfl, g_law_hash := He.glo_ok X G (c.1.fact 13 (f := .glo "_law_hash") rfl),
    f_law_generator := _, fd_law_generator := p14.choose, F_law_generator := p14.choose_spec, b_law_generator := p14.choose_spec.bindsN fun _ _ _ _ _ _ us hl => match us, hl with | [_, _], _ => rfl, g_law_generator := He.glo_ok X G (c.1.fact 14 (f := .glo "_law_generator") rfl),
    f_law_random := _, fd_law_random := p15.choose, F_law_random := p15.choose_spec, b_law_random := p15.choose_spec.bindsN fun _ _ _ _ _ _ us hl => match us, hl with | [_, _], _ => rfl, g_law_random := He.glo_ok X G (c.1.fact 15 (f := .glo "_law_random") rfl),
    f_law_price := _, fd_law_price := p16.choose, F_law_price := p16.choose_spec, b_law_price := p16.choose_spec.bindsN fun _ _ _ _ _ _ us hl => match us, hl with | [_, _], _ => rfl, g_law_price := He.glo_ok X G (c.1.fact 16 (f := .glo "_law_price") rfl),
    f_law_all_rows := _, fd_law_all_rows := p17.choose, F_law_all_rows := p17.choose_spec, b_law_all_rows := p17.choose_spec.bindsN fun _ _ _ _ _ _ us hl => match us, hl with | [_, _], _ => rfl, g_law_all_rows := He.glo_ok X G (c.1.fact 17 (f := .glo "_law_all_rows") rfl),
    f_law_lost := _, fd_law_lost := p18.choose, F_law_lost := p18.choose_spec, b_law_lost := p18.choose_spec.bindsN fun _ _ _ _ _ _ us hl => match us, hl with | [_, _], _ => rfl, g_law_lost := He.glo_ok X G (c.1.fact 18 (f := .glo "_law_lost") rfl),
    f_law_small_right := _, fd_law_small_right := p19.choose, F_law_small_right := p19.choose_spec, b_law_small_right := p19.choose_spec.bindsN fun _ _ _ _ _ _ us hl => match us, hl with | [_, _], _ => rfl, g_law_small_right := He.glo_ok X G (c.1.fact 19 (f := .glo "_law_small_right") rfl),
    f_law_drawn_row := _, fd_law_drawn_row := p20.choose, F_law_drawn_row := p20.choose_spec, b_law_drawn_row := p20.choose_spec.bindsN fun _ _ _ _ _ _ us hl => match us, hl with | [_, _, _], _ => rfl, g_law_drawn_row := He.glo_ok X G (c.1.fact 20 (f := .glo "_law_drawn_row") rfl),
    f_law_great_right := _, fd_law_great_right := p21.choose, F_law_great_right := p21.choose_spec, b_law_great_right := p21.choose_spec.bindsN fun _ _ _ _ _ _ us hl => match us, hl with | [_, _, _], _ => rfl, g_law_great_right := He.glo_ok X G (c.1.fact 21 (f := .glo "_law_great_right") rfl),
    f_law := _, fd_law := p22.choose, F_law := p22.choose_spec, b_law := p22.choose_spec.bindsN fun _ _ _ _ _ _ us hl => match us, hl with | [_], _ => rfl, g_law := He.glo_ok X G (c.1.fact 22 (f := .glo "law") rfl),
    n_len := He.free_ok X G (c.1.fact 23 (f := .free "len") rfl),
    n_sum := He.free_ok X G (c.1.fact 24 (f := .free "sum") rfl),
    n_max := He.free_ok X G (c.1.fact 25 (f := .free "max") rfl),
    n_min := He.free_ok X G (c.1.fact 26 (f := .free "min") rfl),
    n_int := He.free_ok X G (c.1.fact 27 (f := .free "int") rfl),
    n_bool := He.free_ok X G (c.1.fact 28 (f := .free "bool") rfl),
    n_range := He.free_ok X G (c.1.fact 29 (f := .free "range") rfl),
    n_isinstance := He.free_ok X G (c.1.fact 30 (f := .free "isinstance") rfl),
    t_MOST_WIDTH := q0.choose, m_MOST_WIDTH := q0.choose_spec }
end My

namespace My
open PySem PySem.Spec PyProof.Rows L2 Pre
section
variable {P : Program} {w : World} {K : PySem.W.Frag} {mg : Str → Option Value} {base : Heap}
/-! ### is_whole, is_between, of whole numbers -/
def sp_is_whole : Sp := fun vs H Q _ => ∃ i : Int, vs = [.int i] ∧ Q (.bl true) H
theorem G_is_whole (T : Top K mg) : FnOk P w K mg base CX0 1 T.f_is_whole T.fd_is_whole ["value"] sp_is_whole := by
  refine T.F_is_whole.ok sc_is_whole (fun vs H Q E h => by obtain ⟨i, rfl, _⟩ := h; rfl) (fun cdv A outer s H vs Q E hr h => ?_)
  obtain ⟨i, rfl, q⟩ := h
  refine ⟨_, PSs.nox (pss_one (ps_ret (pe_and (pe_callB (k_isi K rfl) (by rfl) T.n_isinstance (by decide +kernel) (pa_cons (pv 0) (pa_cons (pe_bltn (v := .ty "int") (by rfl) T.n_int (by decide +kernel) rfl) pa_nil))) (pe_one (pe_not (pe_callB (k_isi K rfl) (by rfl) T.n_isinstance (by decide +kernel) (pa_cons (pv 0) (pa_cons (pe_bltn (v := .ty "bool") (by rfl) T.n_bool (by decide +kernel) rfl) pa_nil)))))))), ?_⟩
  refine ⟨_, rfl, _, _, _, _, true, rfl, .ty _, .base (.int i), kit_ty (by decide +kernel), true, rfl, iteT ?_⟩
  exact ⟨_, rfl, _, _, _, _, false, rfl, .ty _, .base (.int i), kit_ty (by decide +kernel), false, rfl, q⟩
/-- value a whole number, low one, high None or one -/
def sp_is_between : Sp := fun vs H Q _ => ∃ (i lo : Int) (hi : Option Int), vs = [.int i, .int lo, (match hi with | some j => .int j | none => .non)] ∧ Q (.bl (decide (lo ≤ i ∧ ∀ j, hi = some j → i ≤ j))) H
theorem G_is_between (T : Top K mg) : FnOk P w K mg base CX0 2 T.f_is_between T.fd_is_between ["value", "low", "high"] sp_is_between := by
  refine T.F_is_between.ok sc_is_between (fun vs H Q E h => by obtain ⟨i, lo, hi, rfl, _⟩ := h; rfl) (fun cdv A outer s H vs Q E hr h => ?_)
  obtain ⟨i, lo, hi, rfl, q⟩ := h
  refine ⟨_, PSs.nox (pss_one (ps_ret (pe_and (pe_call (G_is_whole T) (hr.mono (by decide)) (by rfl) T.g_is_whole T.F_is_whole.kp T.b_is_whole .nil pass0 (pa_cons (pv 0) pa_nil)) (pe_and (pe_cmpR op_le (pv 1) (pv 0) (nomark _)) (pe_one (pe_or (pe_cmpR op_isN (pv 2) pe_non (nomark _)) (pe_one (pe_cmpR op_le (pv 0) (pv 2) (nomark _))))))))), ?_⟩
  refine ⟨_, rfl, i, rfl, true, rfl, iteT ?_⟩
  refine ⟨_, rfl, _, rfl, _, _, rfl, rfl, _, rfl, ite2 (fun e => ?_) (fun e => ?_)⟩
  · have e1 : lo ≤ i := of_decide_eq_true e
    cases hi with
    | none =>
      refine ⟨_, rfl, rfl, _, rfl, iteT ?_⟩
      rw [decide_eq_true ⟨e1, fun j h => nomatch h⟩] at q
      exact q
    | some j =>
      refine ⟨_, rfl, rfl, _, rfl, iteF ⟨_, rfl, _, rfl, _, _, rfl, rfl, ?_⟩⟩
      have e2 : decide (lo ≤ i ∧ ∀ j', some j = some j' → i ≤ j') = decide (i ≤ j) := by
        by_cases h : i ≤ j
        · rw [decide_eq_true h, decide_eq_true]
          exact ⟨e1, fun j' e => by cases e; exact h⟩
        · rw [decide_eq_false h, decide_eq_false]
          exact fun z => h (z.2 j rfl)
      rw [e2] at q
      exact q
  · have e1 : ¬ lo ≤ i := fun h => e (decide_eq_true h)
    rw [decide_eq_false fun z => e1 z.1] at q
    exact q
end
end My

set_option exponentiation.threshold 100000
namespace My
open PySem PySem.Spec PyProof.Rows L2 Pre
section
variable {P : Program} {w : World} {K : PySem.W.Frag} {mg : Str → Option Value} {base : Heap}
/-! ### the law's draws -/
/-- a generator: its count is at most n -/
def GenAt (H : Hp) (g : Addr) (n : Nat) : Prop := ∃ x y z : Int, H g = some (.lst [.int x, .int y, .int z]) ∧ 0 ≤ z ∧ z ≤ (n : Int)
/-- all but one thing stand as they stood -/
def But (g : Addr) (H H' : Hp) : Prop := ∀ b o, b ≠ g → H b = some o → H' b = some o
theorem But.refl {g : Addr} {H : Hp} : But g H H := fun _ _ _ h => h
theorem But.trans {g : Addr} {H H1 H2 : Hp} (a : But g H H1) (b : But g H1 H2) : But g H H2 := fun c o n h => b c o n (a c o n h)
theorem But.same {g : Addr} {H H1 H2 : Hp} (a : But g H H1) (b : Same H1 H2) : But g H H2 := fun c o n h => b c o (a c o n h)
theorem But.of {g : Addr} {H H1 : Hp} (b : Same H H1) : But g H H1 := fun c o _ h => b c o h
theorem But.upd {g : Addr} {H H1 : Hp} {o : HO} (a : But g H H1) : But g H (upd H1 g o) := fun c u n h => by
  rw [upd_ne n]
  exact a c u n h
theorem But.free {g : Addr} {H H1 : Hp} (a : But g H H1) {p : Addr} (n : p ≠ g) (h : H1 p = none) : H p = none := by
  cases e : H p with
  | none => rfl
  | some o => rw [a p o n e] at h; cases h
/-- what is changed was not there at first -/
theorem But.fresh {g : Addr} {H H1 H2 : Hp} (s : Same H H1) (n : H g = none) (b : But g H1 H2) : Same H H2 := fun c o h => b c o (ne_of_none h n) (s c o h)
theorem GenAt.mono {H : Hp} {g : Addr} {n m : Nat} (h : GenAt H g n) (l : n ≤ m) : GenAt H g m := by
  obtain ⟨x, y, z, a, b, c⟩ := h
  exact ⟨x, y, z, a, b, by omega⟩
theorem GenAt.same {H H' : Hp} {g : Addr} {n : Nat} (h : GenAt H g n) (s : Same H H') : GenAt H' g n := by
  obtain ⟨x, y, z, a, b⟩ := h
  exact ⟨x, y, z, s _ _ a, b⟩
theorem GenAt.ne {H : Hp} {g : Addr} {n : Nat} {p : Addr} (h : GenAt H g n) (np : H p = none) : p ≠ g := by
  obtain ⟨x, y, z, a, _⟩ := h
  exact (ne_of_none a np).symm
theorem small_2900 {b : Int} (h : b ≤ 2 ^ 60) : b < 2 ^ 2900 := by omega
theorem pow_pos' (w : Nat) : (0 : Int) < 2 ^ w := Int.pow_pos (by decide)
theorem pow2_le {k m : Nat} (h : k ≤ m) : (2 : Int) ^ k ≤ 2 ^ m := by
  have e := Nat.pow_le_pow_right (show 0 < 2 by decide) h
  have e2 : ((2 ^ k : Nat) : Int) ≤ ((2 ^ m : Nat) : Int) := Int.ofNat_le.mpr e
  rw [Int.natCast_pow, Int.natCast_pow] at e2
  exact e2
def sp_law_cell (K : PySem.W.Frag) : Sp := fun vs H Q _ => ∃ (a : Addr) (ns : List Int) (i : Nat), vs = [.ref a, .int i] ∧ SqL K H a (ns.map V.int) ∧ ∀ (n : Int) H', Same H H' → Q (.int n) H'
theorem G_law_cell (T : Top K mg) : FnOk P w K mg base CX0 1 T.f_law_cell T.fd_law_cell ["_law_script", "_law_index"] (sp_law_cell K) := by
  refine T.F_law_cell.ok sc_law_cell (fun vs H Q E h => by obtain ⟨a, ns, i, rfl, _⟩ := h; rfl) (fun cdv A outer s H vs Q E hr h => ?_)
  obtain ⟨a, ns, i, rfl, hS, q⟩ := h
  refine ⟨_, PSs.nox (pss_cons (ps_if (pt_cmpR op_lt (pv 1) (pe_callB (k_len K rfl) (by rfl) T.n_len (by decide +kernel) (pa_cons (pv 0) pa_nil)) (nomark _))
    (pss_one (ps_ret (pe_ix (k_ixL K rfl) (pv 0) (pv 1) (fun _ _ => rfl))))
    pss_nil)
  (pss_one (ps_ret (pe_op op_mod (pe_callB (k_sum K rfl rfl) (by rfl) T.n_sum (by decide +kernel) (pa_cons (pe_slice (k_slL K rfl) (pv 0) po_none (po_some pe_int)) pa_nil)) pe_int)))), ?_⟩
  refine ⟨_, rfl, _, rfl, a, _, rfl, .inl hS, _, _, rfl, rfl, _, rfl, ite2 (fun e => ?_) (fun e => ?_)⟩
  · have e1 : (i : Int) < (((ns.map V.int).length : Nat) : Int) := of_decide_eq_true e
    rw [List.length_map] at e1
    have hi : i < ns.length := by omega
    refine ⟨_, rfl, _, rfl, a, _, _, .int ns[i], rfl, rfl, hS, atI_nat (by rw [List.getElem?_map, List.getElem?_eq_getElem hi]; rfl), ?_⟩
    exact q _ _ (Same.refl _)
  · refine ⟨_, rfl, _, rfl, a, _, rfl, hS, fun p np => ?_⟩
    have ec : ∃ ms : List Int, cutV (ns.map V.int) none (some 1) = ms.map V.int := by
      unfold cutV
      exact ⟨(ns.drop (HT.sIx (ns.map V.int).length 0 none)).take (HT.sIx (ns.map V.int).length (ns.map V.int).length (some 1) - HT.sIx (ns.map V.int).length 0 none), by rw [List.map_take, List.map_drop]⟩
    obtain ⟨ms, em⟩ := ec
    refine ⟨p, ms, rfl, .inl (.inl (by rw [upd_same, em])), _, _, rfl, rfl, (by show (0 : Int) < 1000003; decide), ?_⟩
    exact q _ _ (same_upd np)
theorem cmul_mod (x m j : Int) (h0 : 0 < m) (h1 : m ≤ 2 ^ 60) : CMul (x % m) j := by
  have a := Int.emod_nonneg x (show m ≠ 0 by omega)
  have b := Int.emod_lt_of_pos x h0
  exact .inl ⟨by omega, by omega⟩
def sp_law_hash : Sp := fun vs H Q _ => ∃ i j : Int, vs = [.int i, .int j] ∧ 0 ≤ j ∧ j < 2 ^ 60 ∧ ∀ n : Int, Q (.int n) H
theorem G_law_hash (T : Top K mg) : FnOk P w K mg base CX0 1 T.f_law_hash T.fd_law_hash ["_law_seed", "_law_index"] sp_law_hash := by
  refine T.F_law_hash.ok sc_law_hash (fun vs H Q E h => by obtain ⟨i, j, rfl, _⟩ := h; rfl) (fun cdv A outer s H vs Q E hr h => ?_)
  obtain ⟨i, j, rfl, h0, h1, q⟩ := h
  refine ⟨_, PSs.nox (pss_cons (ps_set (i := 2) sc_law_hash.nd rfl (by first | exact Or.inl rfl | exact Or.inr rfl) (pe_op op_mod (pe_callTy call_int1 (by rfl) T.n_int (by decide +kernel) (pa_cons (pe_op op_add (pe_op op_add (pe_op op_add (pe_op op_mul (pv 0) pe_int) (pe_op op_mul (pe_op op_mul pe_int (pv 1)) (pv 1))) (pe_op op_mul pe_int (pv 1))) pe_int) pa_nil)) pe_int))
  (pss_cons (ps_set (i := 2) sc_law_hash.nd rfl (by first | exact Or.inl rfl | exact Or.inr rfl) (pe_op op_mod (pe_callTy call_int1 (by rfl) T.n_int (by decide +kernel) (pa_cons (pe_op op_add (pe_op op_add (pe_op op_mul (pv 2) (pv 2)) (pe_op op_mul pe_int (pv 1))) pe_int) pa_nil)) pe_int))
  (pss_one (ps_ret (pe_op op_mod (pe_callTy call_int1 (by rfl) T.n_int (by decide +kernel) (pa_cons (pe_op op_mul (pv 2) pe_int) pa_nil)) pe_int))))), ?_⟩
  refine ⟨_, rfl, _, _, rfl, rfl, .inr ⟨by decide, by decide⟩, _, rfl, _, _, rfl, rfl, .inl ⟨by decide, by decide⟩, _, rfl, _, _, rfl, rfl, .inr ⟨by omega, by omega⟩, _, _, rfl, rfl, _, rfl, _, _, rfl, rfl, .inl ⟨by decide, by decide⟩, _, _, rfl, rfl, _, _, rfl, rfl,
    .inl ⟨_, rfl, _, _, rfl, rfl, (by show (0 : Int) < _; decide), ?_⟩⟩
  refine ⟨_, rfl, _, rfl, _, _, rfl, rfl, cmul_mod _ _ _ (by decide) (by decide), _, rfl, _, _, rfl, rfl, .inl ⟨by decide, by decide⟩, _, _, rfl, rfl, _, _, rfl, rfl, .inl ⟨_, rfl, _, _, rfl, rfl, (by show (0 : Int) < _; decide), ?_⟩⟩
  refine ⟨_, rfl, _, _, rfl, rfl, .inr ⟨by decide, by decide⟩, .inl ⟨_, rfl, _, _, rfl, rfl, (by show (0 : Int) < _; decide), ?_⟩⟩
  exact q _

def sp_law_generator (K : PySem.W.Frag) : Sp := fun vs H Q _ => ∃ (a : Addr) (ns : List Int) (i : Nat), vs = [.ref a, .int i] ∧ SqL K H a (ns.map V.int) ∧ ∀ H' g, Same H H' → H g = none → GenAt H' g (1000 * i) → Q (.ref g) H'
theorem G_law_generator (T : Top K mg) : FnOk P w K mg base CX0 2 T.f_law_generator T.fd_law_generator ["_law_script", "_law_index"] (sp_law_generator K) := by
  refine T.F_law_generator.ok sc_law_generator (fun vs H Q E h => by obtain ⟨a, ns, i, rfl, _⟩ := h; rfl) (fun cdv A outer s H vs Q E hr h => ?_)
  obtain ⟨a, ns, i, rfl, hS, q⟩ := h
  refine ⟨_, PSs.nox (pss_cons (ps_set (i := 2) sc_law_generator.nd rfl (by first | exact Or.inl rfl | exact Or.inr rfl) (pe_call (G_law_cell T) (hr.mono (by decide)) (by rfl) T.g_law_cell T.F_law_cell.kp T.b_law_cell .nil pass0 (pa_cons (pv 0) (pa_cons (pv 1) pa_nil))))
  (pss_one (ps_ret (pe_lst (pa_cons (pe_op op_mod (pe_callTy call_int1 (by rfl) T.n_int (by decide +kernel) (pa_cons (pe_callB (call_max2 rfl) (by rfl) T.n_max (by decide +kernel) (pa_cons (pe_op op_sub (pv 2) (pe_op op_powW pe_int pe_int)) (pa_cons pe_int pa_nil))) pa_nil)) (pe_op op_powW (pe_op op_powW pe_int pe_int) pe_int)) (pa_cons (pe_op op_mod (pe_callTy call_int1 (by rfl) T.n_int (by decide +kernel) (pa_cons (pv 2) pa_nil)) pe_int) (pa_cons (pe_op op_mul pe_int (pv 1)) pa_nil))))))), ?_⟩
  refine ⟨_, rfl, _, rfl, a, ns, i, rfl, hS, fun n H1 s1 => ?_⟩
  refine ⟨_, rfl, _, _, rfl, rfl, ⟨by decide, by decide +kernel⟩, _, _, rfl, rfl, _, _, rfl, .inl ⟨_, rfl, _, _, rfl, rfl, ⟨by decide, by decide +kernel⟩, _, _, rfl, rfl, ⟨by decide, by decide +kernel⟩, _, _, rfl, rfl, (by show (0 : Int) < _; decide +kernel), ?_⟩⟩
  refine ⟨_, rfl, .inl ⟨_, rfl, _, _, rfl, rfl, (by show (0 : Int) < _; decide), ?_⟩⟩
  refine ⟨_, rfl, _, _, rfl, rfl, .inl ⟨by decide, by decide⟩, (show 3 ≤ sizeLine by decide), fun g ng => ?_⟩
  exact q _ g (s1.trans (same_upd ng)) (s1.free ng) ⟨_, _, _, upd_same, by omega, by omega⟩
def sp_law_random : Sp := fun vs H Q _ => ∃ (g : Addr) (b : Int) (n : Nat), vs = [.ref g, .int b] ∧ GenAt H g n ∧ n ≤ 10 ^ 12 ∧ 0 < b ∧ b < 2 ^ 2900 ∧ ∀ (d : Int) H', 0 ≤ d → d < b → GenAt H' g (n + 100) → But g H H' → Q (.int d) H'
theorem G_law_random (T : Top K mg) : FnOk P w K mg base CX0 2 T.f_law_random T.fd_law_random ["_law_generator_here", "_law_bound"] sp_law_random := by
  refine T.F_law_random.ok sc_law_random (fun vs H Q E h => by obtain ⟨g, b, n, rfl, _⟩ := h; rfl) (fun cdv A outer s H vs Q E hr h => ?_)
  obtain ⟨g, b, n, rfl, ⟨x, y, z, hg, z0, z1⟩, hn, b0, b1, q⟩ := h
  refine ⟨_, PSs.nox (pss_cons (ps_if (pt_cmpR op_gt (pe_ix (k_ixL K rfl) (pv 0) pe_int (fun _ _ => rfl)) pe_int (nomark _))
    (pss_cons (ps_set (i := 2) sc_law_random.nd rfl (by first | exact Or.inl rfl | exact Or.inr rfl) (pe_op op_mod (pe_callTy call_int1 (by rfl) T.n_int (by decide +kernel) (pa_cons (pe_ix (k_ixL K rfl) (pv 0) pe_int (fun _ _ => rfl)) pa_nil)) (pv 1)))
  (pss_cons (ps_asg (pe_op op_fdivW (pe_ix (k_ixL K rfl) (pv 0) pe_int (fun _ _ => rfl)) (pv 1)) (pg_sub (pv 0) pe_int set_list))
  (pss_one (ps_ret (pv 2)))))
    pss_nil)
  (pss_cons (ps_set (i := 2) sc_law_random.nd rfl (by first | exact Or.inl rfl | exact Or.inr rfl) pe_int)
  (pss_cons (ps_for PassesOwn.never rfl (pi_range1 (by rfl) T.n_range (pa_cons (pe_op op_add pe_int (pe_op op_fdivW (pe_bits (pv 1)) pe_int)) pa_nil)) (pg_name (i := 3) sc_law_random.nd rfl (by first | exact Or.inl rfl | exact Or.inr rfl))
    (pss_cons (ps_asg (pe_op op_add (pe_ix (k_ixL K rfl) (pv 0) pe_int (fun _ _ => rfl)) pe_int) (pg_sub (pv 0) pe_int set_list))
  (pss_one (ps_set (i := 2) sc_law_random.nd rfl (by first | exact Or.inl rfl | exact Or.inr rfl) (pe_op op_add (pe_op op_mul (pv 2) pe_int) (pe_call (G_law_hash T) (hr.mono (by decide)) (by rfl) T.g_law_hash T.F_law_hash.kp T.b_law_hash .nil pass0 (pa_cons (pe_ix (k_ixL K rfl) (pv 0) pe_int (fun _ _ => rfl)) (pa_cons (pe_ix (k_ixL K rfl) (pv 0) pe_int (fun _ _ => rfl)) pa_nil))))))))
  (pss_one (ps_ret (pe_op op_mod (pe_callTy call_int1 (by rfl) T.n_int (by decide +kernel) (pa_cons (pv 2) pa_nil)) (pv 1))))))), ?_⟩
  have a0 : ∀ x y z : Int, atI [V.int x, .int y, .int z] 0 = some (.int x) := fun _ _ _ => rfl
  have a1 : ∀ x y z : Int, atI [V.int x, .int y, .int z] 1 = some (.int y) := fun _ _ _ => rfl
  have a2 : ∀ x y z : Int, atI [V.int x, .int y, .int z] 2 = some (.int z) := fun _ _ _ => rfl
  have hS : SqL K H g [.int x, .int y, .int z] := .inl (.inl hg)
  have nb : b.natAbs < 2 ^ 2900 := by
    have e : ((b.natAbs : Nat) : Int) < ((2 ^ 2900 : Nat) : Int) := by
      rw [Int.natCast_pow]
      omega
    exact Int.ofNat_lt.mp e
  refine ⟨_, rfl, g, _, 0, _, rfl, rfl, hS, a0 x y z, _, _, rfl, rfl, _, rfl, ite2 (fun e => ?_) (fun e => ?_)⟩
  · refine ⟨_, rfl, g, _, 0, _, rfl, rfl, hS, a0 x y z, .inl ⟨_, rfl, _, rfl, _, _, rfl, rfl, b0, ?_⟩⟩
    refine ⟨_, rfl, g, _, 0, _, rfl, rfl, hS, a0 x y z, _, rfl, _, _, rfl, rfl, wide_div b0 nb (by decide) (by decide), _, rfl, g, _, 0, 0, rfl, rfl, hg, rfl, _, rfl, ?_⟩
    exact q _ _ (Int.emod_nonneg _ (by omega)) (Int.emod_lt_of_pos _ b0) ⟨_, _, _, upd_same, z0, by omega⟩ (But.upd But.refl)
  · have hb : Builtin.Int.intBits b ≤ 2900 := PyProof.Rows.intBits_le nb
    have hq0 : (0 : Int) ≤ ((Builtin.Int.intBits b : Nat) : Int) / 30 := Int.ediv_nonneg (Int.natCast_nonneg _) (by decide)
    have hq1 : ((Builtin.Int.intBits b : Nat) : Int) / 30 ≤ 97 := by omega
    refine ⟨_, rfl, _, rfl, _, _, rfl, rfl, ⟨by decide, by decide +kernel⟩, _, _, rfl, rfl, _, rfl, by omega, by omega, ?_⟩
    refine for_range (lo := 0) (n := (1 + ((Builtin.Int.intBits b : Nat) : Int) / 30).toNat) (fun i σ H1 => ∃ (d z' : Int) (v : Option V), σ = [some (.ref g), some (.int b), some (.int d), v] ∧ H1 g = some (.lst [.int x, .int y, .int z']) ∧ 0 ≤ z' ∧ z' ≤ (n : Int) + (i : Int) ∧ But g H H1)
      ⟨0, z, none, rfl, hg, z0, by omega, But.refl⟩ ?_ ?_
    · rintro i σ H1 hi ⟨d, z', v, rfl, hg1, y0, y1, b1⟩
      have hS1 : SqL K H1 g [.int x, .int y, .int z'] := .inl (.inl hg1)
      refine ⟨_, rfl, g, _, 2, _, rfl, rfl, hS1, a2 x y z', _, _, rfl, rfl, _, rfl, g, _, 2, 2, rfl, rfl, hg1, rfl, ?_⟩
      have hS2 : SqL K (upd H1 g (.lst [.int x, .int y, .int (z' + 1)])) g [.int x, .int y, .int (z' + 1)] := .inl (.inl upd_same)
      refine ⟨_, rfl, _, _, rfl, rfl, .inr ⟨by decide, by decide⟩, _, rfl, g, _, 1, _, rfl, rfl, hS2, a1 _ _ _, _, rfl, g, _, 2, _, rfl, rfl, hS2, a2 _ _ _, _, _, rfl, by omega, by omega, fun r => ?_⟩
      exact ⟨_, _, rfl, rfl, _, z' + 1, _, rfl, upd_same, by omega, by omega, But.upd b1⟩
    · rintro σ H1 ⟨d, z', v, rfl, hg1, y0, y1, b1⟩
      refine ⟨_, rfl, .inl ⟨_, rfl, _, rfl, _, _, rfl, rfl, b0, ?_⟩⟩
      exact q _ _ (Int.emod_nonneg _ (by omega)) (Int.emod_lt_of_pos _ b0) ⟨_, _, _, hg1, y0, by omega⟩ b1
/-- a comprehension over a range that draws whole numbers -/
theorem lc_drawR {lo : Int} {n : Nat} {j : Nat} {te : TE} {vs : List Nat} {σ : L2.St} {H1 : Hp} {D : Addr} {Qd : Hp → Prop} (g : Addr) (m step : Nat) (P : Int → Prop) (nD : H1 D = none) (hG : GenAt H1 g m) (hz : n < sizeLine)
    (hw : ∀ x, wipe ((wipe σ vs).set j (some x)) vs = wipe σ vs)
    (hs : ∀ (i : Nat) (H' : Hp), i < n → But g H1 H' → GenAt H' g (m + step * i) → ∀ Qt : V → Hp → Prop, (∀ (y : Int) H'', P y → But g H' H'' → GenAt H'' g (m + step * (i + 1)) → Qt (.int y) H'') → te ((wipe σ vs).set j (some (.int (lo + (i : Int))))) H' Qt)
    (hd : ∀ H' (ys : List Int), But g H1 H' → GenAt H' g (m + step * n) → H' D = some (.lst (ys.map V.int)) → ys.length = n → (∀ y ∈ ys, P y) → Qd H') :
    ∃ W : Nat → Nat → Hp → Prop, (∃ m, W 0 m (upd H1 D (.lst []))) ∧ ∀ i m H, W i m H →
      ((Itr lo n).stop i H ∧ Qd H) ∨ ((Itr lo n).go i H ∧ ∃ Nx : Hp → Prop, (∀ H', Nx H' → ∃ m', m' < m ∧ W (i + 1) m' H') ∧ ∀ x H', (Itr lo n).yld i H x H' → gName j x (wipe σ vs) H' fun σ2 H2 => wipe σ2 vs = wipe σ vs ∧ tYes σ2 H2 fun b H3 =>
        if b = true then te σ2 H3 fun y H4 => ∃ acc, H4 D = some (.lst acc) ∧ acc.length < sizeLine ∧ Nx (upd H4 D (.lst (acc ++ [y]))) else Nx H3) := by
  have nDg : D ≠ g := hG.ne nD
  refine lc_range (lo := lo) (n := n) (fun i H => ∃ ys : List Int, But g H1 H ∧ GenAt H g (m + step * i) ∧ H D = some (.lst (ys.map V.int)) ∧ ys.length = i ∧ ∀ y ∈ ys, P y)
    ⟨[], But.of (same_upd nD), hG.same (same_upd nD), upd_same, rfl, (fun _ h => nomatch h)⟩ ?_ ?_
  · rintro i H hi ⟨ys, b, hg, hD, hl, hP⟩
    refine ⟨hw _, ?_⟩
    unfold tYes
    dsimp only
    rw [if_pos (show true = true from rfl)]
    refine hs i H hi b hg _ fun y H2 py b2 hg2 => ?_
    refine ⟨_, b2 _ _ nDg hD, by rw [List.length_map]; omega, ys ++ [y], ?_, ?_, ?_, ?_, ?_⟩
    · intro c o nc hc
      rw [upd_ne (ne_of_none hc nD)]
      exact b2 _ _ nc (b _ _ nc hc)
    · obtain ⟨x1, x2, x3, e1, e2⟩ := hg2
      exact ⟨x1, x2, x3, by rw [upd_ne nDg.symm]; exact e1, e2⟩
    · rw [upd_same, List.map_append]
      rfl
    · rw [List.length_append, hl]
      rfl
    · intro z hz
      rcases List.mem_append.mp hz with hz | hz
      · exact hP z hz
      · rw [List.mem_singleton.mp hz]
        exact py
  · rintro H ⟨ys, b, hg, hD, hl, hP⟩
    exact hd H ys b hg hD hl hP
end
end My

namespace My
open PySem PySem.Spec PyProof.Rows L2 Pre
/-! ### min and max of a list of pairs of whole numbers -/
def pairD (p : Int × Int) : PyData := .tuple [.int p.1, .int p.2]
def ltP2 (p q : Int × Int) : Prop := p.1 < q.1 ∨ (p.1 = q.1 ∧ p.2 < q.2)
instance (p q : Int × Int) : Decidable (ltP2 p q) := by unfold ltP2; infer_instance
theorem pair_lt (p q : Int × Int) : PySem.W.dataLt (pairD p) (pairD q) = decide (ltP2 p q) := PySem.W.dataLt_ii p.1 p.2 q.1 q.2
theorem ltP2_trans {p q r : Int × Int} (h : ¬ ltP2 q p) (k : ¬ ltP2 r q) : ¬ ltP2 r p := by
  unfold ltP2 at *
  omega
def minP (p : Int × Int) (ps : List (Int × Int)) : Int × Int := ps.foldl (fun a y => if ltP2 y a then y else a) p
def maxP (p : Int × Int) (ps : List (Int × Int)) : Int × Int := ps.foldl (fun a y => if ltP2 a y then y else a) p
theorem minP_data : ∀ (ps : List (Int × Int)) (p : Int × Int), PySem.W.minD (pairD p) (ps.map pairD) = pairD (minP p ps)
  | [], _ => rfl
  | q :: ps, p => by
    show PySem.W.minD (if PySem.W.dataLt (pairD q) (pairD p) = true then pairD q else pairD p) (ps.map pairD) = pairD (minP (if ltP2 q p then q else p) ps)
    rw [pair_lt]
    by_cases h : ltP2 q p
    · rw [decide_eq_true h, if_pos rfl, if_pos h, minP_data ps q]
    · rw [decide_eq_false h, if_neg (by decide), if_neg h, minP_data ps p]
theorem maxP_data : ∀ (ps : List (Int × Int)) (p : Int × Int), PySem.W.maxD (pairD p) (ps.map pairD) = pairD (maxP p ps)
  | [], _ => rfl
  | q :: ps, p => by
    show PySem.W.maxD (if PySem.W.dataLt (pairD p) (pairD q) = true then pairD q else pairD p) (ps.map pairD) = pairD (maxP (if ltP2 p q then q else p) ps)
    rw [pair_lt]
    by_cases h : ltP2 p q
    · rw [decide_eq_true h, if_pos rfl, if_pos h, maxP_data ps q]
    · rw [decide_eq_false h, if_neg (by decide), if_neg h, maxP_data ps p]
theorem minP_spec : ∀ (ps : List (Int × Int)) (p : Int × Int), minP p ps ∈ p :: ps ∧ ∀ q ∈ p :: ps, ¬ ltP2 q (minP p ps)
  | [], p => ⟨List.mem_cons_self, fun q hq => by
      rw [List.mem_singleton.mp hq]
      show ¬ ltP2 p p
      unfold ltP2
      omega⟩
  | r :: ps, p => by
    show minP (if ltP2 r p then r else p) ps ∈ _ ∧ ∀ q ∈ p :: r :: ps, ¬ ltP2 q (minP (if ltP2 r p then r else p) ps)
    by_cases h : ltP2 r p
    · rw [if_pos h]
      obtain ⟨h1, h2⟩ := minP_spec ps r
      refine ⟨List.mem_cons_of_mem _ h1, fun q hq => ?_⟩
      rcases List.mem_cons.mp hq with rfl | hq
      · have := h2 r List.mem_cons_self
        exact fun z => this (by unfold ltP2 at *; omega)
      · exact h2 q hq
    · rw [if_neg h]
      obtain ⟨h1, h2⟩ := minP_spec ps p
      refine ⟨?_, fun q hq => ?_⟩
      · rcases List.mem_cons.mp h1 with e | e
        · rw [e]; exact List.mem_cons_self
        · exact List.mem_cons_of_mem _ (List.mem_cons_of_mem _ e)
      · rcases List.mem_cons.mp hq with rfl | hq
        · exact h2 q List.mem_cons_self
        · rcases List.mem_cons.mp hq with rfl | hq
          · have := h2 p List.mem_cons_self
            exact fun z => this (by unfold ltP2 at *; omega)
          · exact h2 q (List.mem_cons_of_mem _ hq)
theorem maxP_spec : ∀ (ps : List (Int × Int)) (p : Int × Int), maxP p ps ∈ p :: ps ∧ ∀ q ∈ p :: ps, ¬ ltP2 (maxP p ps) q
  | [], p => ⟨List.mem_cons_self, fun q hq => by
      rw [List.mem_singleton.mp hq]
      show ¬ ltP2 p p
      unfold ltP2
      omega⟩
  | r :: ps, p => by
    show maxP (if ltP2 p r then r else p) ps ∈ _ ∧ ∀ q ∈ p :: r :: ps, ¬ ltP2 (maxP (if ltP2 p r then r else p) ps) q
    by_cases h : ltP2 p r
    · rw [if_pos h]
      obtain ⟨h1, h2⟩ := maxP_spec ps r
      refine ⟨List.mem_cons_of_mem _ h1, fun q hq => ?_⟩
      rcases List.mem_cons.mp hq with rfl | hq
      · have := h2 r List.mem_cons_self
        exact fun z => this (by unfold ltP2 at *; omega)
      · exact h2 q hq
    · rw [if_neg h]
      obtain ⟨h1, h2⟩ := maxP_spec ps p
      refine ⟨?_, fun q hq => ?_⟩
      · rcases List.mem_cons.mp h1 with e | e
        · rw [e]; exact List.mem_cons_self
        · exact List.mem_cons_of_mem _ (List.mem_cons_of_mem _ e)
      · rcases List.mem_cons.mp hq with rfl | hq
        · exact h2 q List.mem_cons_self
        · rcases List.mem_cons.mp hq with rfl | hq
          · have := h2 p List.mem_cons_self
            exact fun z => this (by unfold ltP2 at *; omega)
          · exact h2 q (List.mem_cons_of_mem _ hq)
theorem pairs_alike (ps : List (Int × Int)) : PySem.W.AlikeAll (ps.map pairD) := by
  refine ⟨fun x hx y hy => ?_, fun x hx => ?_⟩
  · obtain ⟨p, _, rfl⟩ := List.mem_map.mp hx
    obtain ⟨q, _, rfl⟩ := List.mem_map.mp hy
    rfl
  · obtain ⟨p, _, rfl⟩ := List.mem_map.mp hx
    exact fun z => nomatch z
theorem pairs_lay : ∀ ps : List (Int × Int), PyData.canLayAll0 (ps.map pairD) = true
  | [] => rfl
  | p :: ps => by simp [PyData.canLayAll0, PyData.canLay0, pairD, pairs_lay ps]
theorem pairs_depth : ∀ ps : List (Int × Int), PyData.depthAll (ps.map pairD) ≤ 2
  | [] => by simp [PyData.depthAll]
  | p :: ps => by
    have := pairs_depth ps
    simp only [List.map_cons, PyData.depthAll, pairD, PyData.depth]
    omega
/-- a list of pairs, at a -/
def PairsAt (K : PySem.W.Frag) (H : Hp) (a : Addr) (ps : List (Int × Int)) : Prop := ∃ as : List Addr, SqL K H a (as.map V.ref) ∧ as.length = ps.length ∧ ∀ (i : Nat) (t : Addr) (p : Int × Int), as[i]? = some t → ps[i]? = some p → SqT K H t [.int p.1, .int p.2]
theorem pairs_dp {K : PySem.W.Frag} {H : Hp} : ∀ {as : List Addr} {ps : List (Int × Int)}, as.length = ps.length → (∀ (i : Nat) (t : Addr) (p : Int × Int), as[i]? = some t → ps[i]? = some p → SqT K H t [.int p.1, .int p.2]) → DpAll K H (as.map V.ref) (ps.map pairD)
  | [], [], _, _ => .nil
  | [], _ :: _, h, _ => by simp at h
  | _ :: _, [], h, _ => by simp at h
  | a :: as, p :: ps, h, k => .cons (.tup (k 0 a p rfl rfl) (.cons (.int _) (.cons (.int _) .nil))) (pairs_dp (by simpa using h) fun i t q ht hq => k (i + 1) t q (by simpa using ht) (by simpa using hq))
def rMnP (K : PySem.W.Frag) (best : Int × Int → List (Int × Int) → Int × Int) : List V → Hp → VK → Prop := fun xs H Q => ∃ (a : Addr) (p : Int × Int) (ps : List (Int × Int)), xs = [.ref a] ∧ PairsAt K H a (p :: ps) ∧ ∀ t, SqT K H t [.int (best p ps).1, .int (best p ps).2] → Q (.ref t) H
section
variable {X : Cx} {K : PySem.W.Frag}
theorem pick {H : Hp} {s : Shared} {as : List Addr} {ps : List (Int × Int)} {its : List Value} {i : Nat} {v : Value} {h' : Heap} {bs cs : List Addr} {b : Int × Int} (hl : as.length = ps.length)
    (hT : ∀ (i : Nat) (t : Addr) (p : Int × Int), as[i]? = some t → ps[i]? = some p → SqT K H t [.int p.1, .int p.2]) (rv : Vals (as.map V.ref) its) (hr : ReadsAll s.heap its (ps.map pairD) cs) (hv : its.toArray[i]? = some v) (rd : Reads h' v (pairD b) bs)
    (hk : ∀ b o, s.heap.get? b = some o → h'.get? b = some o) : ∃ t, v = .ref t ∧ SqT K H t [.int b.1, .int b.2] := by
  have hv' : its[i]? = some v := by simpa using hv
  have hil : i < its.length := (List.getElem?_eq_some_iff.mp hv').1
  have hvl := rv.length
  rw [List.length_map] at hvl
  obtain ⟨u, hu, ru⟩ := rv.get (show (as.map V.ref)[i]? = some (.ref (as[i]'(by omega))) by rw [List.getElem?_map, List.getElem?_eq_getElem (by omega)]; rfl)
  rw [hv'] at hu
  cases hu
  have hp : ps[i]? = some (ps[i]'(by omega)) := List.getElem?_eq_getElem (by omega)
  obtain ⟨ds, r1, _, _, _⟩ := PySem.W.readsAll_at hr i v hv'
  have e1 : (ps.map pairD).getD i .none = pairD (ps[i]'(by omega)) := by
    rw [List.getD_eq_getElem?_getD, List.getElem?_map, hp]
    rfl
  rw [e1] at r1
  have e2 := PySem.SeqAt.Reads.unique (pairD b) _ v _ _ (by simp [pairD, PyData.canLay0, PyData.canLayAll0]) rd (Reads.keeps hk r1)
  have e3 : b = ps[i]'(by omega) := by
    unfold pairD at e2
    injection e2 with e2
    injection e2 with e4 e5
    injection e5 with e5 _
    injection e4 with e4
    injection e5 with e5
    exact Prod.ext e4 e5
  refine ⟨as[i]'(by omega), ru, ?_⟩
  rw [e3]
  exact hT i _ _ (List.getElem?_eq_getElem (by omega)) hp
theorem k_minP (K : PySem.W.Frag) (h : X.K = K) (hc : X.calm = true) (hu : X.A.units + 65 < cLine) : CallR X (.builtin "min") (rMnP K minP) := by
  subst h
  intro pins s σ H xs us Q I r h
  obtain ⟨a, p, ps, rfl, ⟨as, hS, hl, hT⟩, q⟩ := h
  obtain ⟨its, rv, hL, _⟩ := I.list hS
  rw [Vals.ref1 r]
  obtain ⟨cs, hr⟩ := Dp.readsAll I _ _ its (pairs_dp hl hT) rv
  have hd := pairs_depth (p :: ps)
  refine PySem.W.min_list_data (I.ok.hd hc) hL.isList (show ReadsAll s.heap its.toArray.toList (pairD p :: ps.map pairD) cs by simpa using hr) (pairs_alike (p :: ps)) (by rw [List.map_cons] at hd; omega) fun i v h' tk bs hv rd hk => ?_
  rw [minP_data] at rd
  obtain ⟨t, rfl, ht⟩ := pick hl hT rv hr hv rd hk
  exact ⟨.ref t, H, I.kept hk, rfl, q t ht⟩
theorem k_maxP (K : PySem.W.Frag) (h : X.K = K) (hc : X.calm = true) (hu : X.A.units + 65 < cLine) : CallR X (.builtin "max") (rMnP K maxP) := by
  subst h
  intro pins s σ H xs us Q I r h
  obtain ⟨a, p, ps, rfl, ⟨as, hS, hl, hT⟩, q⟩ := h
  obtain ⟨its, rv, hL, _⟩ := I.list hS
  rw [Vals.ref1 r]
  obtain ⟨cs, hr⟩ := Dp.readsAll I _ _ its (pairs_dp hl hT) rv
  have hd := pairs_depth (p :: ps)
  refine PySem.W.max_list_data (I.ok.hd hc) hL.isList (show ReadsAll s.heap its.toArray.toList (pairD p :: ps.map pairD) cs by simpa using hr) (pairs_alike (p :: ps)) (by rw [List.map_cons] at hd; omega) fun i v h' tk bs hv rd hk => ?_
  rw [maxP_data] at rd
  obtain ⟨t, rfl, ht⟩ := pick hl hT rv hr hv rd hk
  exact ⟨.ref t, H, I.kept hk, rfl, q t ht⟩
theorem huM {k : Nat} {A : Around} (r : Room k A) : A.units + 65 < cLine := by have := r.un; omega
end
end My

namespace My
open PySem PySem.Spec PyProof.Rows L2 Pre
/-- a comprehension over a list that makes new things: R tells what is known of the i-th -/
theorem lc_relL {K : PySem.W.Frag} {a : Addr} {xs : List V} {j : Nat} {te : TE} {vs : List Nat} {σ : L2.St} {H1 : Hp} {D : Addr} {Qd : Hp → Prop} (R : Nat → V → Hp → Prop) (nD : H1 D = none) (hS : SqL K H1 a xs) (hz : xs.length < sizeLine)
    (mono : ∀ (i : Nat) (y : V) (H H' : Hp), Pre.Off D H H' → R i y H → R i y H') (hw : ∀ x, wipe ((wipe σ vs).set j (some x)) vs = wipe σ vs)
    (hs : ∀ (i : Nat) (x : V) (H' : Hp) (zs : List V), xs[i]? = some x → Same H1 H' → H' D = some (.lst zs) → ∀ Qt : V → Hp → Prop, (∀ y H'', Same H' H'' → R i y H'' → Qt y H'') → te ((wipe σ vs).set j (some x)) H' Qt)
    (hd : ∀ H' ys, Same H1 H' → H' D = some (.lst ys) → ys.length = xs.length → (∀ (i : Nat) (y : V), ys[i]? = some y → R i y H') → Qd H') :
    ∃ W : Nat → Nat → Hp → Prop, (∃ m, W 0 m (upd H1 D (.lst []))) ∧ ∀ i m H, W i m H →
      ((Itl K a).stop i H ∧ Qd H) ∨ ((Itl K a).go i H ∧ ∃ Nx : Hp → Prop, (∀ H', Nx H' → ∃ m', m' < m ∧ W (i + 1) m' H') ∧ ∀ x H', (Itl K a).yld i H x H' → gName j x (wipe σ vs) H' fun σ2 H2 => wipe σ2 vs = wipe σ vs ∧ tYes σ2 H2 fun b H3 =>
        if b = true then te σ2 H3 fun y H4 => ∃ acc, H4 D = some (.lst acc) ∧ acc.length < sizeLine ∧ Nx (upd H4 D (.lst (acc ++ [y]))) else Nx H3) := by
  refine lc_list (K := K) (a := a) (xs := xs) (RelPv R H1 D) ⟨[], same_upd nD, upd_same, rfl, fun k y h => by simp at h⟩ (fun i H _ ⟨_, s, _⟩ => s.seq hS) ?_ ?_
  · rintro i x H hx ⟨ys, s, hD, hl, hR⟩
    have hi : i < xs.length := (List.getElem?_eq_some_iff.mp hx).1
    refine ⟨hw _, ?_⟩
    unfold tYes
    dsimp only
    rw [if_pos (show true = true from rfl)]
    refine hs i x H ys hx s hD _ fun y H4 s4 r4 => ?_
    refine ⟨ys, s4 _ _ hD, by omega, ys ++ [y], same_over nD (s.trans s4), upd_same, by rw [List.length_append, hl]; rfl, fun k z hz => ?_⟩
    have off : Pre.Off D H4 (upd H4 D (.lst (ys ++ [y]))) := fun b o nb h => by rw [upd_ne nb]; exact h
    by_cases hk : k < ys.length
    · rw [List.getElem?_append_left hk] at hz
      exact mono k z H _ (fun b o nb h => off b o nb (s4 b o h)) (hR k z hz)
    · rw [List.getElem?_append_right (by omega)] at hz
      have hk2 : k - ys.length = 0 := by
        have h2 := (List.getElem?_eq_some_iff.mp hz).1
        rw [List.length_singleton] at h2
        omega
      rw [hk2] at hz
      cases hz
      have ek : k = i := by omega
      rw [ek]
      exact mono i y H4 _ off r4
  · rintro H ⟨ys, s, hD, hl, hR⟩
    exact hd H ys s hD hl hR
/-- a list of lists of whole numbers -/
def RowsIn (H : Hp) (p : Addr) (rows : List (List Int)) : Prop := ∃ as : List Addr, H p = some (.lst (as.map V.ref)) ∧ as.length = rows.length ∧ ∀ (i : Nat) (a : Addr) (r : List Int), as[i]? = some a → rows[i]? = some r → H a = some (.lst (r.map V.int))
theorem RowsIn.same {H H' : Hp} {p : Addr} {rows : List (List Int)} (h : RowsIn H p rows) (s : Same H H') : RowsIn H' p rows := by
  obtain ⟨as, h1, h2, h3⟩ := h
  exact ⟨as, s _ _ h1, h2, fun i a r ha hr => s _ _ (h3 i a r ha hr)⟩
section
variable {X : Cx}
theorem huD {k : Nat} {A : Around} (r : Room k A) : A.units + 65 < cLine := by have := r.un; omega
theorem k_inD (K : PySem.W.Frag) (h : X.K = K) (hu : X.A.units + 65 < cLine) : OpR X (compareOp .In) (rInD K) := by subst h; exact op_inD hu
theorem k_notInD (K : PySem.W.Frag) (h : X.K = K) (hu : X.A.units + 65 < cLine) : OpR X (compareOp .NotIn) (rNotInD K) := by subst h; exact op_notInD hu
theorem k_indexD (K : PySem.W.Frag) (h : X.K = K) (hu : X.A.units + 65 < cLine) : MtR X "list.index" (rIndexD K) := by subst h; exact mt_indexD hu
end
/-- rows as data -/
def rowD (r : List Int) : PyData := .list (r.map PyData.int)
theorem rows_dp {K : PySem.W.Frag} {H : Hp} : ∀ {as : List Addr} {rows : List (List Int)}, as.length = rows.length → (∀ (i : Nat) (a : Addr) (r : List Int), as[i]? = some a → rows[i]? = some r → H a = some (.lst (r.map V.int))) → DpAll K H (as.map V.ref) (rows.map rowD)
  | [], [], _, _ => .nil
  | [], _ :: _, h, _ => by simp at h
  | _ :: _, [], h, _ => by simp at h
  | a :: as, r :: rows, h, k => .cons (.lst (.inl (.inl (k 0 a r rfl rfl))) (Pre.dp_ints r)) (rows_dp (by simpa using h) fun i t q ht hq => k (i + 1) t q (by simpa using ht) (by simpa using hq))
theorem rowD_eqv (r q : List Int) : PyData.eqv (rowD r) (rowD q) = decide (r = q) := by
  unfold rowD
  rw [PyData.eqv, eqv_ints]
theorem rows_shaped (rows : List (List Int)) : SeqAt.shaped (.list (rows.map rowD)) = true := by
  have h1 : ∀ l : List (List Int), PyData.canLayAll0 (l.map rowD) = true := fun l => by
    induction l with
    | nil => rfl
    | cons r l ih =>
      show (PyData.canLay0 (rowD r) && PyData.canLayAll0 (l.map rowD)) = true
      rw [ih]
      unfold rowD
      rw [PyData.canLay0, lay_ints]
      rfl
  have h2 : ∀ l : List (List Int), PyData.depthAll (l.map rowD) ≤ 1 := fun l => by
    induction l with
    | nil => simp [PyData.depthAll]
    | cons r l ih =>
      show PyData.depthAll (rowD r :: l.map rowD) ≤ 1
      rw [PyData.depthAll]
      unfold rowD at *
      rw [PyData.depth, depth_ints]
      omega
  show (PyData.canLay0 (.list (rows.map rowD)) && decide (PyData.depth (.list (rows.map rowD)) ≤ 64)) = true
  rw [Bool.and_eq_true]
  have := h2 rows
  exact ⟨by rw [PyData.canLay0]; exact h1 rows, decide_eq_true (by rw [PyData.depth]; omega)⟩
end My

namespace My
/-! ### prices, losses -/
def price (ns : List Int) (w : Nat) : Int := (ns.map fun n => n / 2 ^ w + 1 + (w : Int)).sum
def fl (ns : List Int) (w : Nat) : Int := (ns.map fun n => n / 2 ^ w).sum
def rup (t u : Int) : Int := max 0 (-((-t) / u))
def farF (m t : Int) (w o : Nat) : Int :=
  if o > w then m * ((w : Int) - o) + t / 2 ^ w - rup (t / 2 ^ w - m * (2 ^ (o - w) - 1)) (2 ^ (o - w))
  else m * ((w : Int) - o) - (rup (t - m * (2 ^ o - 1)) (2 ^ o) - rup (t - m * (2 ^ o - 1)) (2 ^ o) / 2 ^ (w - o))
def Row (m : Nat) (t : Int) (ns : List Int) : Prop := ns.length = m ∧ ns.sum = t ∧ ∀ n ∈ ns, 0 ≤ n
theorem p2 (w : Nat) : (0 : Int) < 2 ^ w := Int.pow_pos (by decide)
theorem price_fl : ∀ (ns : List Int) (w : Nat), price ns w = fl ns w + ns.length * (1 + (w : Int))
  | [], w => by simp [price, fl]
  | n :: ns, w => by
    have ih := price_fl ns w
    unfold price fl at *
    rw [List.map_cons, List.sum_cons, List.map_cons, List.sum_cons, List.length_cons, ih, Int.natCast_add, Int.add_mul]
    omega
/-- up-rounded quotients -/
theorem rup_le {t u d : Int} (hu : 0 < u) (hd : 0 ≤ d) (h : t ≤ u * d) : rup t u ≤ d := by
  unfold rup
  have h1 := Int.mul_ediv_self_le (x := -t) (k := u) (by omega)
  have h2 : -d ≤ (-t) / u := (Int.le_ediv_iff_mul_le hu).mpr (by rw [Int.neg_mul, Int.mul_comm]; omega)
  omega
theorem rup_ge {t u : Int} (hu : 0 < u) : t ≤ u * rup t u := by
  have h1 := Int.lt_ediv_add_one_mul_self (-t) hu
  have h3 := Int.mul_ediv_self_le (x := -t) (k := u) (by omega)
  have h4 : u * (-((-t) / u)) ≤ u * rup t u := Int.mul_le_mul_of_nonneg_left (by unfold rup; omega) (by omega)
  rw [Int.mul_neg] at h4
  omega
theorem rup_nn (t u : Int) : 0 ≤ rup t u := by unfold rup; omega
theorem rup_lt {t u : Int} (hu : 0 < u) (h : 0 < rup t u) : u * rup t u < t + u := by
  have h1 := Int.lt_ediv_add_one_mul_self (-t) hu
  have e : rup t u = -((-t) / u) := by unfold rup at *; omega
  rw [e, Int.mul_neg]
  rw [Int.add_mul, Int.mul_comm, Int.one_mul] at h1
  omega
/-- sums of floors -/
theorem fl_nn : ∀ (ns : List Int) (w : Nat), (∀ n ∈ ns, 0 ≤ n) → 0 ≤ fl ns w
  | [], _, _ => by simp [fl]
  | n :: ns, w, h => by
    have ih := fl_nn ns w fun k hk => h k (List.mem_cons_of_mem _ hk)
    have h0 := Int.ediv_nonneg (h n List.mem_cons_self) (Int.le_of_lt (p2 w))
    unfold fl at *
    rw [List.map_cons, List.sum_cons]
    omega
theorem fl_sum : ∀ (ns : List Int) (w : Nat), 2 ^ w * fl ns w ≤ ns.sum ∧ ns.sum ≤ 2 ^ w * fl ns w + ns.length * (2 ^ w - 1)
  | [], w => by simp [fl]
  | n :: ns, w => by
    obtain ⟨h1, h2⟩ := fl_sum ns w
    have hp := p2 w
    have h3 := Int.mul_ediv_self_le (x := n) (k := 2 ^ w) (by omega)
    have h4 := Int.lt_ediv_add_one_mul_self n hp
    rw [Int.add_mul, Int.one_mul, Int.mul_comm] at h4
    unfold fl at *
    rw [List.map_cons, List.sum_cons, List.sum_cons, List.length_cons, Int.mul_add, Int.natCast_add, Int.add_mul]
    generalize 2 ^ w * (n / 2 ^ w) = z at *
    generalize (2 : Int) ^ w = u at *
    omega
theorem ediv_pow (n : Int) (a b : Nat) : n / 2 ^ (a + b) = n / 2 ^ a / 2 ^ b := by
  rw [Int.pow_add, Int.ediv_ediv_of_nonneg (Int.le_of_lt (p2 a))]
/-- floors of floors -/
def fm (ns : List Int) (w : Nat) : List Int := ns.map fun n => n / 2 ^ w
theorem fm_fl (ns : List Int) (a b : Nat) : fl (fm ns a) b = fl ns (a + b) := by
  unfold fl fm
  rw [List.map_map]
  congr 1
  refine List.map_congr_left fun n _ => ?_
  exact (ediv_pow n a b).symm
theorem fm_sum (ns : List Int) (a : Nat) : (fm ns a).sum = fl ns a := rfl
theorem fm_nn {ns : List Int} {a : Nat} (h : ∀ n ∈ ns, 0 ≤ n) : ∀ n ∈ fm ns a, 0 ≤ n := fun n hn => by
  obtain ⟨k, hk, rfl⟩ := List.mem_map.mp hn
  exact Int.ediv_nonneg (h k hk) (Int.le_of_lt (p2 a))
theorem fl_le (ns : List Int) (w : Nat) : fl ns w ≤ ns.sum / 2 ^ w := (Int.le_ediv_iff_mul_le (p2 w)).mpr (by rw [Int.mul_comm]; exact (fl_sum ns w).1)
theorem mono_sub {x y : Int} {k : Nat} (h0 : 0 ≤ x) (h : x ≤ y) : x - x / 2 ^ k ≤ y - y / 2 ^ k := by
  have hp := p2 k
  have h1 : y / 2 ^ k ≤ x / 2 ^ k + (y - x) := by
    refine Int.le_of_lt_add_one ((Int.ediv_lt_iff_lt_mul hp).mpr ?_)
    have h4 := Int.lt_ediv_add_one_mul_self x hp
    have h5 : (y - x) * 1 ≤ (y - x) * 2 ^ k := Int.mul_le_mul_of_nonneg_left (by omega) (by omega)
    have e : (x / 2 ^ k + (y - x) + 1) * 2 ^ k = (x / 2 ^ k + 1) * 2 ^ k + (y - x) * 2 ^ k := by
      rw [← Int.add_mul]
      congr 1
      omega
    rw [e]
    omega
  omega
/-- no row loses more -/
theorem far_ge {m : Nat} {t : Int} {ns : List Int} (h : Row m t ns) (w o : Nat) : price ns w - price ns o ≤ farF m t w o := by
  obtain ⟨hl, hs, nn⟩ := h
  rw [price_fl, price_fl, hl]
  have e : (m : Int) * (1 + (w : Int)) - (m : Int) * (1 + (o : Int)) = (m : Int) * ((w : Int) - o) := by
    rw [← Int.mul_sub]
    congr 1
    omega
  unfold farF
  by_cases hc : o > w
  · rw [if_pos hc]
    have hp := p2 (o - w)
    have hC := fl_le ns w
    rw [hs] at hC
    have hD := (fl_sum (fm ns w) (o - w)).2
    rw [fm_fl, fm_sum, show w + (o - w) = o by omega] at hD
    have hml : (fm ns w).length = m := by unfold fm; rw [List.length_map, hl]
    rw [hml] at hD
    have hDn := fl_nn ns o nn
    have hr : rup (t / 2 ^ w - (m : Int) * (2 ^ (o - w) - 1)) (2 ^ (o - w)) ≤ fl ns o + (t / 2 ^ w - fl ns w) := by
      refine rup_le hp (by omega) ?_
      rw [Int.mul_add]
      have h5 : 1 * (t / 2 ^ w - fl ns w) ≤ 2 ^ (o - w) * (t / 2 ^ w - fl ns w) := Int.mul_le_mul_of_nonneg_right (by omega) (by omega)
      omega
    omega
  · rw [if_neg hc]
    have hG := (fl_sum ns o).2
    rw [hs, hl] at hG
    have hGn := fl_nn ns o nn
    have hle := fl_le (fm ns o) (w - o)
    rw [fm_fl, fm_sum, show o + (w - o) = w by omega] at hle
    have hr : rup (t - (m : Int) * (2 ^ o - 1)) (2 ^ o) ≤ fl ns o := rup_le (p2 o) hGn (by omega)
    have := mono_sub (k := w - o) (rup_nn _ _) hr
    omega
end My

namespace My
/-! ### rows that are filled up -/
/-- [0] * m, each filled up to top, as long as something is left -/
def fillF (top : Int) : Nat → Int → List Int
  | 0, _ => []
  | k + 1, left => min left top :: fillF top k (left - min left top)
theorem fill_len (top : Int) : ∀ (k : Nat) (l : Int), (fillF top k l).length = k
  | 0, _ => rfl
  | k + 1, l => by
    show (fillF top k _).length + 1 = k + 1
    rw [fill_len top k]
theorem fill_in (top : Int) (ht : 0 ≤ top) : ∀ (k : Nat) (l : Int), 0 ≤ l → ∀ n ∈ fillF top k l, 0 ≤ n ∧ n ≤ top
  | 0, _, _, _, h => nomatch h
  | k + 1, l, hl, n, h => by
    rcases List.mem_cons.mp h with rfl | h
    · omega
    · exact fill_in top ht k _ (by omega) n h
theorem fill_sum (top : Int) (ht : 0 ≤ top) : ∀ (k : Nat) (l : Int), 0 ≤ l → (fillF top k l).sum = min l (k * top)
  | 0, l, hl => by
    show (0 : Int) = min l (((0 : Nat) : Int) * top)
    rw [show ((0 : Nat) : Int) * top = 0 by simp]
    omega
  | k + 1, l, hl => by
    show min l top + (fillF top k (l - min l top)).sum = _
    rw [fill_sum top ht k _ (by omega), Int.natCast_add, Int.add_mul]
    have : 0 ≤ (k : Int) * top := Int.mul_nonneg (by omega) ht
    omega
/-- the rest is put to the first -/
def putF (ns : List Int) (e : Int) : List Int := ns.set 0 (ns.getD 0 0 + e)
theorem put_cons (n : Int) (ns : List Int) (e : Int) : putF (n :: ns) e = (n + e) :: ns := rfl
/-- the row that loses most, other above width -/
def rowHi (m : Nat) (t : Int) (w o : Nat) : List Int :=
  putF ((putF (fillF (2 ^ (o - w) - 1) m (t / 2 ^ w)) (t / 2 ^ w - (fillF (2 ^ (o - w) - 1) m (t / 2 ^ w)).sum)).map fun n => n * 2 ^ w) (t - t / 2 ^ w * 2 ^ w)
/-- other at most width -/
def rowLo (m : Nat) (t : Int) (o : Nat) : List Int :=
  putF (fillF (2 ^ o - 1) m (t - rup (t - m * (2 ^ o - 1)) (2 ^ o) * 2 ^ o)) (t - (fillF (2 ^ o - 1) m (t - rup (t - m * (2 ^ o - 1)) (2 ^ o) * 2 ^ o)).sum)
theorem fl_small {ns : List Int} {w : Nat} (h : ∀ n ∈ ns, 0 ≤ n ∧ n ≤ 2 ^ w - 1) : fl ns w = 0 := by
  unfold fl
  have : ∀ l : List Int, (∀ n ∈ l, 0 ≤ n ∧ n ≤ 2 ^ w - 1) → (l.map fun n => n / 2 ^ w).sum = 0 := fun l => by
    induction l with
    | nil => intro _; rfl
    | cons n l ih =>
      intro hl
      have h1 := hl n List.mem_cons_self
      rw [List.map_cons, List.sum_cons, ih fun k hk => hl k (List.mem_cons_of_mem _ hk), Int.ediv_eq_zero_of_lt h1.1 (by omega)]
      rfl
  exact this ns h
theorem fl_cons (n : Int) (ns : List Int) (w : Nat) : fl (n :: ns) w = n / 2 ^ w + fl ns w := by
  unfold fl
  rw [List.map_cons, List.sum_cons]
theorem p2_le {a b : Nat} (h : a ≤ b) : (2 : Int) ^ a ≤ 2 ^ b := by
  have e := Nat.pow_le_pow_right (show 0 < 2 by decide) h
  have e1 : ((2 ^ a : Nat) : Int) ≤ ((2 ^ b : Nat) : Int) := Int.ofNat_le.mpr e
  rw [Int.natCast_pow, Int.natCast_pow] at e1
  exact e1
theorem rup_div {e u : Int} (hu : 0 < u) (he : 0 < e) : (u - 1 + e) / u = rup e u := by
  have h1 := rup_ge (t := e) hu
  have h0 : 0 < rup e u := by
    have := rup_nn e u
    rcases Int.lt_or_eq_of_le this with z | z
    · exact z
    · rw [← z] at h1; omega
  have h2 := rup_lt hu h0
  refine Int.le_antisymm (Int.le_of_lt_add_one ((Int.ediv_lt_iff_lt_mul hu).mpr ?_)) ((Int.le_ediv_iff_mul_le hu).mpr ?_)
  · rw [Int.add_mul, Int.one_mul, Int.mul_comm]; omega
  · rw [Int.mul_comm]; omega
theorem lo_nn {m : Nat} {t : Int} {o : Nat} (hm : 1 ≤ m) (ht : 0 ≤ t) : 0 ≤ t - rup (t - m * (2 ^ o - 1)) (2 ^ o) * 2 ^ o ∧ t - rup (t - m * (2 ^ o - 1)) (2 ^ o) * 2 ^ o ≤ m * (2 ^ o - 1) := by
  have hp := p2 o
  have h1 := rup_ge (t := t - m * (2 ^ o - 1)) hp
  have h0 := rup_nn (t - m * (2 ^ o - 1)) (2 ^ o)
  rw [Int.mul_comm (rup _ _)]
  refine ⟨?_, by omega⟩
  by_cases hz : rup (t - m * (2 ^ o - 1)) (2 ^ o) = 0
  · rw [hz]; omega
  · have h2 := rup_lt (t := t - m * (2 ^ o - 1)) hp (by omega)
    have h3 : 1 * (2 ^ o - 1) ≤ (m : Int) * (2 ^ o - 1) := Int.mul_le_mul_of_nonneg_right (by omega) (by omega)
    omega
theorem rowLo_ok {m : Nat} {t : Int} (hm : 1 ≤ m) (ht : 0 ≤ t) {w o : Nat} (h : o ≤ w) : Row m t (rowLo m t o) ∧ price (rowLo m t o) w - price (rowLo m t o) o = farF m t w o := by
  have hp := p2 o
  obtain ⟨h1, h2⟩ := lo_nn (o := o) hm ht
  have hs := fill_sum (2 ^ o - 1) (by omega) m _ h1
  have hi := fill_in (2 ^ o - 1) (by omega) m _ h1
  have hl := fill_len (2 ^ o - 1) m (t - rup (t - m * (2 ^ o - 1)) (2 ^ o) * 2 ^ o)
  have hr0 := rup_nn (t - m * (2 ^ o - 1)) (2 ^ o)
  rw [Int.min_eq_left h2] at hs
  unfold rowLo farF
  rw [if_neg (by omega), hs]
  generalize rup (t - (m : Int) * (2 ^ o - 1)) (2 ^ o) = R at *
  generalize fillF (2 ^ o - 1) m (t - R * 2 ^ o) = f at *
  cases f with
  | nil => simp at hl; omega
  | cons c cs =>
    rw [put_cons, show t - (t - R * 2 ^ o) = R * 2 ^ o by omega]
    have hc := hi c List.mem_cons_self
    have hcs : ∀ n ∈ cs, 0 ≤ n ∧ n ≤ 2 ^ o - 1 := fun n hn => hi n (List.mem_cons_of_mem _ hn)
    have hR : 0 ≤ R * 2 ^ o := Int.mul_nonneg hr0 (by omega)
    refine ⟨⟨by simpa using hl, ?_, fun n hn => ?_⟩, ?_⟩
    · rw [List.sum_cons] at hs ⊢
      omega
    · rcases List.mem_cons.mp hn with rfl | hn
      · omega
      · exact (hcs n hn).1
    · have hlc : ((c + R * 2 ^ o) :: cs).length = m := by simpa using hl
      have hpw : (2 : Int) ^ o ≤ 2 ^ w := p2_le h
      have eo : (c + R * 2 ^ o) / 2 ^ o = R := by
        rw [Int.add_mul_ediv_right _ _ (by omega), Int.ediv_eq_zero_of_lt hc.1 (by omega), Int.zero_add]
      have ew : (c + R * 2 ^ o) / 2 ^ w = R / 2 ^ (w - o) := by
        rw [show w = o + (w - o) by omega, ediv_pow, eo, show o + (w - o) - o = w - o by omega]
      rw [price_fl, price_fl, hlc, fl_cons, fl_cons, eo, ew, fl_small (w := o) hcs, fl_small (w := w) (fun n hn => ⟨(hcs n hn).1, by have := (hcs n hn).2; omega⟩)]
      have e : (m : Int) * (1 + (w : Int)) - (m : Int) * (1 + (o : Int)) = (m : Int) * ((w : Int) - o) := by
        rw [← Int.mul_sub]
        congr 1
        omega
      omega
theorem rowHi_ok {m : Nat} {t : Int} (hm : 1 ≤ m) (ht : 0 ≤ t) {w o : Nat} (h : w < o) : Row m t (rowHi m t w o) ∧ price (rowHi m t w o) w - price (rowHi m t w o) o = farF m t w o := by
  have hp := p2 w
  have hq := p2 (o - w)
  have hc0 : 0 ≤ t / 2 ^ w := Int.ediv_nonneg ht (by omega)
  have ht1 := Int.mul_ediv_self_le (x := t) (k := 2 ^ w) (by omega)
  have ht2 := Int.lt_ediv_add_one_mul_self t hp
  rw [Int.add_mul, Int.one_mul] at ht2
  have hs := fill_sum (2 ^ (o - w) - 1) (by omega) m _ hc0
  have hi := fill_in (2 ^ (o - w) - 1) (by omega) m _ hc0
  have hl := fill_len (2 ^ (o - w) - 1) m (t / 2 ^ w)
  unfold rowHi farF
  rw [if_pos h]
  rw [Int.mul_comm] at ht1
  generalize t / 2 ^ w = C at *
  have hfull : C > m * (2 ^ (o - w) - 1) → ∀ n ∈ fillF (2 ^ (o - w) - 1) m C, n = 2 ^ (o - w) - 1 := fun hbig => by
    have : ∀ (k : Nat) (l : Int), l ≥ k * (2 ^ (o - w) - 1) → ∀ n ∈ fillF (2 ^ (o - w) - 1) k l, n = 2 ^ (o - w) - 1 := fun k => by
      induction k with
      | zero => intro l _ n hn; cases hn
      | succ k ih =>
        intro l hl n hn
        rw [Int.natCast_add, Int.add_mul] at hl
        have hk : 0 ≤ (k : Int) * (2 ^ (o - w) - 1) := Int.mul_nonneg (by omega) (by omega)
        have em : min l (2 ^ (o - w) - 1) = 2 ^ (o - w) - 1 := by omega
        rcases List.mem_cons.mp hn with rfl | hn
        · exact em
        · rw [em] at hn
          exact ih _ (by omega) n hn
    exact this m C (by omega)
  generalize fillF (2 ^ (o - w) - 1) m C = f at *
  cases f with
  | nil => simp at hl; omega
  | cons c cs =>
    have hc := hi c List.mem_cons_self
    have hcs : ∀ n ∈ cs, 0 ≤ n ∧ n ≤ 2 ^ (o - w) - 1 := fun n hn => hi n (List.mem_cons_of_mem _ hn)
    rw [put_cons, List.map_cons, put_cons, hs]
    have hM : 0 ≤ (m : Int) * (2 ^ (o - w) - 1) := Int.mul_nonneg (by omega) (by omega)
    generalize hE : C - min C (m * (2 ^ (o - w) - 1)) = e
    have he : 0 ≤ e := by omega
    have hx : 0 ≤ (c + e) * 2 ^ w := Int.mul_nonneg (by omega) (by omega)
    have sm : ∀ l : List Int, (l.map fun n => n * 2 ^ w).sum = l.sum * 2 ^ w := fun l => by
      induction l with
      | nil => simp
      | cons a l ih => rw [List.map_cons, List.sum_cons, List.sum_cons, ih, Int.add_mul]
    have hcsum : c + cs.sum = min C (m * (2 ^ (o - w) - 1)) := by rw [← hs, List.sum_cons]
    refine ⟨⟨by simpa using hl, ?_, fun n hn => ?_⟩, ?_⟩
    · rw [List.sum_cons, sm]
      have : (c + e) * 2 ^ w + cs.sum * 2 ^ w = C * 2 ^ w := by
        rw [← Int.add_mul]
        congr 1
        omega
      omega
    · rcases List.mem_cons.mp hn with rfl | hn
      · omega
      · obtain ⟨k, hk, rfl⟩ := List.mem_map.mp hn
        exact Int.mul_nonneg (hcs k hk).1 (by omega)
    · have hlc : (((c + e) * 2 ^ w + (t - C * 2 ^ w)) :: cs.map fun n => n * 2 ^ w).length = m := by simpa using hl
      have hr : 0 ≤ t - C * 2 ^ w ∧ t - C * 2 ^ w < 2 ^ w := by omega
      have e1 : ((c + e) * 2 ^ w + (t - C * 2 ^ w)) / 2 ^ w = c + e := by
        rw [Int.add_comm, Int.add_mul_ediv_right _ _ (by omega), Int.ediv_eq_zero_of_lt hr.1 hr.2, Int.zero_add]
      have e2 : ((c + e) * 2 ^ w + (t - C * 2 ^ w)) / 2 ^ o = (c + e) / 2 ^ (o - w) := by
        rw [show o = w + (o - w) by omega, ediv_pow, e1, show w + (o - w) - w = o - w by omega]
      have e3 : fl (cs.map fun n => n * 2 ^ w) w = cs.sum := by
        unfold fl
        rw [List.map_map]
        have : ((fun n => n / 2 ^ w) ∘ fun n => n * 2 ^ w : Int → Int) = id := funext fun n => Int.mul_ediv_cancel n (by omega)
        rw [this, List.map_id]
      have e4 : fl (cs.map fun n => n * 2 ^ w) o = 0 := by
        refine fl_small fun n hn => ?_
        obtain ⟨k, hk, rfl⟩ := List.mem_map.mp hn
        have h5 := hcs k hk
        refine ⟨Int.mul_nonneg h5.1 (by omega), ?_⟩
        have h6 : k * 2 ^ w ≤ (2 ^ (o - w) - 1) * 2 ^ w := Int.mul_le_mul_of_nonneg_right h5.2 (by omega)
        have h7 : (2 : Int) ^ (o - w) * 2 ^ w = 2 ^ o := by rw [← Int.pow_add, show o - w + w = o by omega]
        rw [Int.sub_mul, Int.one_mul, h7] at h6
        omega
      have e5 : (c + e) / 2 ^ (o - w) = rup (C - m * (2 ^ (o - w) - 1)) (2 ^ (o - w)) := by
        by_cases hbig : C > m * (2 ^ (o - w) - 1)
        · have hce := hfull hbig c List.mem_cons_self
          rw [hce, show C - m * (2 ^ (o - w) - 1) = e by omega]
          exact rup_div hq (by omega)
        · have h8 := rup_le (t := C - m * (2 ^ (o - w) - 1)) (d := 0) hq (Int.le_refl _) (by omega)
          have h9 := rup_nn (C - m * (2 ^ (o - w) - 1)) (2 ^ (o - w))
          rw [show c + e = c by omega, Int.ediv_eq_zero_of_lt hc.1 (by omega)]
          omega
      rw [price_fl, price_fl, hlc, fl_cons, fl_cons, e1, e2, e3, e4, e5]
      have e6 : (m : Int) * (1 + (w : Int)) - (m : Int) * (1 + (o : Int)) = (m : Int) * ((w : Int) - o) := by
        rw [← Int.mul_sub]
        congr 1
        omega
      omega
end My

namespace My
/-! ### the worst other width, the safest width; n: as many widths as are asked -/
def farP (m t : Int) (w : Nat) (n : Nat) : List (Int × Int) := (List.range n).map fun (o : Nat) => (farF m t w o, -(o : Int))
def bestP (m t : Int) (w n : Nat) : Int × Int := maxP (farF m t w 0, 0) ((List.range (n - 1)).map fun (o : Nat) => (farF m t w (o + 1), -((o : Int) + 1)))
def lossF (m t : Int) (w n : Nat) : Int := if (bestP m t w n).1 > 0 then (bestP m t w n).1 else 0
def othF (m t : Int) (w n : Nat) : Int := if (bestP m t w n).1 > 0 then -(bestP m t w n).2 else (w : Int)
theorem farP_cons (m t : Int) (w n : Nat) (h : 1 ≤ n) : farP m t w n = (farF m t w 0, 0) :: (List.range (n - 1)).map fun (o : Nat) => (farF m t w (o + 1), -((o : Int) + 1)) := by
  obtain ⟨k, rfl⟩ : ∃ k, n = k + 1 := ⟨n - 1, by omega⟩
  unfold farP
  rw [Nat.add_sub_cancel, List.range_succ_eq_map, List.map_cons, List.map_map]
  rfl
theorem best_spec (m t : Int) (w n : Nat) (h : 1 ≤ n) : (∃ o : Nat, o < n ∧ bestP m t w n = (farF m t w o, -(o : Int))) ∧ ∀ o : Nat, o < n → farF m t w o ≤ (bestP m t w n).1 := by
  obtain ⟨h1, h2⟩ := maxP_spec ((List.range (n - 1)).map fun (o : Nat) => (farF m t w (o + 1), -((o : Int) + 1))) (farF m t w 0, 0)
  rw [← farP_cons m t w n h] at h1 h2
  refine ⟨?_, fun o ho => ?_⟩
  · obtain ⟨o, ho, e⟩ := List.mem_map.mp h1
    exact ⟨o, List.mem_range.mp ho, e.symm⟩
  · have := h2 (farF m t w o, -(o : Int)) (List.mem_map.mpr ⟨o, List.mem_range.mpr ho, rfl⟩)
    unfold ltP2 at this
    show farF m t w o ≤ (maxP _ _).1
    omega
theorem loss_nn (m t : Int) (w n : Nat) : 0 ≤ lossF m t w n := by
  unfold lossF
  split <;> omega
theorem loss_far {m t : Int} {w n : Nat} (h : 1 ≤ n) {o : Nat} (ho : o < n) : farF m t w o ≤ lossF m t w n := by
  have := (best_spec m t w n h).2 o ho
  unfold lossF
  split <;> omega
theorem oth_nat (m t : Int) (w n : Nat) (h : 1 ≤ n) : ∃ o : Nat, othF m t w n = (o : Int) ∧ (o < n ∨ o = w) ∧ (o = w ∧ lossF m t w n = 0 ∨ lossF m t w n = farF m t w o) := by
  obtain ⟨⟨o, ho, e⟩, _⟩ := best_spec m t w n h
  unfold othF lossF
  rw [e]
  by_cases hb : farF m t w o > 0
  · rw [if_pos hb, if_pos hb]
    exact ⟨o, by show -(-(o : Int)) = _; omega, .inl ho, .inr rfl⟩
  · rw [if_neg hb, if_neg hb]
    exact ⟨w, rfl, .inr rfl, .inl ⟨rfl, rfl⟩⟩
/-- widths beyond the sum's bits -/
theorem price_far {m : Nat} {t : Int} {ns : List Int} (h : Row m t ns) {w : Nat} (hw : t < 2 ^ w) : price ns w = m * (1 + (w : Int)) := by
  obtain ⟨hl, hs, nn⟩ := h
  rw [price_fl, hl]
  have h1 := fl_le ns w
  have h2 := fl_nn ns w nn
  have ht : 0 ≤ t := by
    rw [← hs]
    have : ∀ l : List Int, (∀ n ∈ l, 0 ≤ n) → 0 ≤ l.sum := fun l => by
      induction l with
      | nil => intro _; exact Int.le_refl _
      | cons a l ih =>
        intro hl
        have := ih fun k hk => hl k (List.mem_cons_of_mem _ hk)
        have := hl a List.mem_cons_self
        rw [List.sum_cons]
        omega
    exact this ns nn
  rw [hs, Int.ediv_eq_zero_of_lt ht hw] at h1
  omega
theorem price_up {m : Nat} {t : Int} {ns : List Int} (h : Row m t ns) {w o : Nat} (hw : t < 2 ^ w) (ho : w ≤ o) : price ns w ≤ price ns o := by
  rw [price_far h hw, price_far h (Int.lt_of_lt_of_le hw (p2_le ho))]
  exact Int.mul_le_mul_of_nonneg_left (by omega) (by omega)
/-- the loss is one for all rows and all other widths -/
theorem loss_ge {m : Nat} {t : Int} {ns : List Int} (h : Row m t ns) {b : Nat} (hb : t < 2 ^ b) (w o : Nat) : price ns w - price ns o ≤ lossF m t w (b + 2) := by
  by_cases ho : o < b + 2
  · exact Int.le_trans (far_ge h w o) (loss_far (by omega) ho)
  · have h1 := price_up h hb (show b ≤ o by omega)
    have h2 := Int.le_trans (far_ge h w b) (loss_far (n := b + 2) (by omega) (by omega))
    omega
/-- the row that is told -/
def rowF (m : Nat) (t : Int) (w n : Nat) : List Int := if othF m t w n > w then rowHi m t w (othF m t w n).toNat else rowLo m t (othF m t w n).toNat
theorem rowF_ok {m : Nat} {t : Int} (hm : 1 ≤ m) (ht : 0 ≤ t) (w n : Nat) (h : 1 ≤ n) : Row m t (rowF m t w n) ∧ ∃ o : Nat, (o < n ∨ o = w) ∧ price (rowF m t w n) w - price (rowF m t w n) o = lossF m t w n := by
  obtain ⟨o, e, ho, hl⟩ := oth_nat m t w n h
  unfold rowF
  rw [e, Int.toNat_natCast]
  by_cases hc : (o : Int) > w
  · rw [if_pos hc]
    obtain ⟨h1, h2⟩ := rowHi_ok hm ht (w := w) (o := o) (by omega)
    refine ⟨h1, o, ho, ?_⟩
    rcases hl with ⟨z, _⟩ | z
    · omega
    · rw [h2, z]
  · rw [if_neg hc]
    obtain ⟨h1, h2⟩ := rowLo_ok hm ht (w := w) (o := o) (by omega)
    refine ⟨h1, o, ho, ?_⟩
    rcases hl with ⟨z, z2⟩ | z
    · rw [z2, z]; omega
    · rw [h2, z]
/-- beyond the bits the loss does not fall -/
theorem loss_up {m : Nat} {t : Int} (hm : 1 ≤ m) (ht : 0 ≤ t) {b w : Nat} (hb : t < 2 ^ b) (hw : b ≤ w) : lossF m t w (b + 2) ≤ lossF m t (w + 1) (b + 2) := by
  obtain ⟨h1, o, _, h2⟩ := rowF_ok hm ht w (b + 2) (by omega)
  have h3 := loss_ge h1 hb (w + 1) o
  have h4 := price_up h1 (w := w) (o := w + 1) (Int.lt_of_lt_of_le hb (p2_le hw)) (by omega)
  omega
/-- the safest width -/
def safeP (m t : Int) (n : Nat) : Int × Int := minP (lossF m t 0 n, 0) ((List.range (n - 1)).map fun (w : Nat) => (lossF m t (w + 1) n, (w : Int) + 1))
def lossP (m t : Int) (n : Nat) : List (Int × Int) := (List.range n).map fun (w : Nat) => (lossF m t w n, (w : Int))
theorem lossP_cons (m t : Int) (n : Nat) (h : 1 ≤ n) : lossP m t n = (lossF m t 0 n, 0) :: (List.range (n - 1)).map fun (w : Nat) => (lossF m t (w + 1) n, (w : Int) + 1) := by
  obtain ⟨k, rfl⟩ : ∃ k, n = k + 1 := ⟨n - 1, by omega⟩
  unfold lossP
  rw [Nat.add_sub_cancel, List.range_succ_eq_map, List.map_cons, List.map_map]
  rfl
theorem safe_spec {m : Nat} {t : Int} (hm : 1 ≤ m) (ht : 0 ≤ t) {b : Nat} (hb : t < 2 ^ b) : ∃ w : Nat, w < b + 2 ∧ safeP m t (b + 2) = (lossF m t w (b + 2), (w : Int)) ∧ ∀ v : Nat, v < b + 3 → lossF m t w (b + 2) + (if v < w then 1 else 0) ≤ lossF m t v (b + 2) := by
  obtain ⟨h1, h2⟩ := minP_spec ((List.range (b + 2 - 1)).map fun (w : Nat) => (lossF m t (w + 1) (b + 2), (w : Int) + 1)) (lossF m t 0 (b + 2), 0)
  rw [← lossP_cons m t (b + 2) (by omega)] at h1 h2
  obtain ⟨w, hw, e⟩ := List.mem_map.mp h1
  have hw := List.mem_range.mp hw
  have e' : safeP m t (b + 2) = (lossF m t w (b + 2), (w : Int)) := e.symm
  have key : ∀ v : Nat, v < b + 2 → lossF m t w (b + 2) + (if v < w then 1 else 0) ≤ lossF m t v (b + 2) := fun v hv => by
    have := h2 (lossF m t v (b + 2), (v : Int)) (List.mem_map.mpr ⟨v, List.mem_range.mpr hv, rfl⟩)
    rw [← e] at this
    unfold ltP2 at this
    by_cases hc : v < w
    · rw [if_pos hc]
      simp only at this
      omega
    · rw [if_neg hc]
      simp only at this
      omega
  refine ⟨w, hw, e', fun v hv => ?_⟩
  by_cases hv2 : v < b + 2
  · exact key v hv2
  · have e3 : v = b + 1 + 1 := by omega
    rw [if_neg (by omega), e3]
    have h4 := key (b + 1) (by omega)
    have h5 := loss_up hm ht hb (w := b + 1) (by omega)
    split at h4 <;> omega
end My

namespace My
/-- all rows of j + 1 numbers with the sum t -/
def rowsK : Nat → Nat → List (List Int)
  | 0, t => [[(t : Int)]]
  | j + 1, t => (List.range (t + 1)).flatMap fun o => (rowsK j (t - o)).map fun r => (o : Int) :: r
theorem flat_len {α β : Type} (f : α → List β) (c : Nat) : ∀ l : List α, (∀ x ∈ l, (f x).length ≤ c) → (l.flatMap f).length ≤ l.length * c
  | [], _ => by simp
  | x :: l, h => by
    have ih := flat_len f c l fun y hy => h y (List.mem_cons_of_mem _ hy)
    have hx := h x List.mem_cons_self
    rw [List.flatMap_cons, List.length_append, List.length_cons, Nat.succ_mul]
    omega
theorem rowsK_len : ∀ (j t : Nat), t ≤ 12 → (rowsK j t).length ≤ 13 ^ j
  | 0, _, _ => by simp [rowsK]
  | j + 1, t, h => by
    show ((List.range (t + 1)).flatMap _).length ≤ _
    refine Nat.le_trans (flat_len _ (13 ^ j) _ fun o _ => ?_) ?_
    · rw [List.length_map]
      exact rowsK_len j (t - o) (by omega)
    · rw [List.length_range, Nat.pow_succ, Nat.mul_comm]
      exact Nat.mul_le_mul_left _ (by omega)
theorem rowsK_row : ∀ (j t : Nat) (r : List Int), r ∈ rowsK j t → r.length = j + 1
  | 0, t, r, h => by rw [List.mem_singleton.mp h]; rfl
  | j + 1, t, r, h => by
    obtain ⟨o, _, h2⟩ := List.mem_flatMap.mp h
    obtain ⟨r', h3, rfl⟩ := List.mem_map.mp h2
    rw [List.length_cons, rowsK_row j _ r' h3]
/-! ### the small ones, by all rows -/
def minI : List Int → Int
  | [] => 0
  | x :: xs => xs.foldl min x
def maxI : List Int → Int
  | [] => 0
  | x :: xs => xs.foldl max x
theorem fold_min : ∀ (xs : List Int) (x : Int), xs.foldl min x ∈ x :: xs ∧ ∀ y ∈ x :: xs, xs.foldl min x ≤ y
  | [], x => ⟨List.mem_cons_self, fun y hy => by rw [List.mem_singleton.mp hy]; exact Int.le_refl _⟩
  | a :: xs, x => by
    obtain ⟨h1, h2⟩ := fold_min xs (min x a)
    show xs.foldl min (min x a) ∈ _ ∧ ∀ y ∈ x :: a :: xs, xs.foldl min (min x a) ≤ y
    have h3 := h2 (min x a) List.mem_cons_self
    refine ⟨?_, fun y hy => ?_⟩
    · rcases List.mem_cons.mp h1 with e | e
      · rw [e]
        rcases Int.le_total x a with h | h
        · rw [Int.min_eq_left h]; exact List.mem_cons_self
        · rw [Int.min_eq_right h]; exact List.mem_cons_of_mem _ List.mem_cons_self
      · exact List.mem_cons_of_mem _ (List.mem_cons_of_mem _ e)
    · rcases List.mem_cons.mp hy with rfl | hy
      · omega
      · rcases List.mem_cons.mp hy with rfl | hy
        · omega
        · exact h2 y (List.mem_cons_of_mem _ hy)
theorem fold_max : ∀ (xs : List Int) (x : Int), xs.foldl max x ∈ x :: xs ∧ ∀ y ∈ x :: xs, y ≤ xs.foldl max x
  | [], x => ⟨List.mem_cons_self, fun y hy => by rw [List.mem_singleton.mp hy]; exact Int.le_refl _⟩
  | a :: xs, x => by
    obtain ⟨h1, h2⟩ := fold_max xs (max x a)
    show xs.foldl max (max x a) ∈ _ ∧ ∀ y ∈ x :: a :: xs, y ≤ xs.foldl max (max x a)
    have h3 := h2 (max x a) List.mem_cons_self
    refine ⟨?_, fun y hy => ?_⟩
    · rcases List.mem_cons.mp h1 with e | e
      · rw [e]
        rcases Int.le_total x a with h | h
        · rw [Int.max_eq_right h]; exact List.mem_cons_of_mem _ List.mem_cons_self
        · rw [Int.max_eq_left h]; exact List.mem_cons_self
      · exact List.mem_cons_of_mem _ (List.mem_cons_of_mem _ e)
    · rcases List.mem_cons.mp hy with rfl | hy
      · omega
      · rcases List.mem_cons.mp hy with rfl | hy
        · omega
        · exact h2 y (List.mem_cons_of_mem _ hy)
theorem min_uniq {l : List Int} {m : Int} (h1 : m ∈ l) (h2 : ∀ y ∈ l, m ≤ y) : m = minI l := by
  cases l with
  | nil => cases h1
  | cons x xs =>
    obtain ⟨h3, h4⟩ := fold_min xs x
    exact Int.le_antisymm (h2 _ h3) (h4 _ h1)
theorem max_uniq {l : List Int} {m : Int} (h1 : m ∈ l) (h2 : ∀ y ∈ l, y ≤ m) : m = maxI l := by
  cases l with
  | nil => cases h1
  | cons x xs =>
    obtain ⟨h3, h4⟩ := fold_max xs x
    exact Int.le_antisymm (h4 _ h1) (h2 _ h3)
def lost7 (v : Nat) (r : List Int) : Int := price r v - minI ((List.range 7).map fun (o : Nat) => price r o)
def lostL (j t v : Nat) : List Int := (rowsK j t).map (lost7 v)
def bitsN (t : Nat) : Nat := if t = 0 then 0 else t.log2 + 1
def smallB (j t : Nat) : Bool :=
  ((List.range 7).all fun v => decide (lossF ((j : Int) + 1) t v (bitsN t + 2) = maxI (lostL j t v)) && (match (rowsK j t).findIdx? (fun r => decide (r = rowF (j + 1) t v (bitsN t + 2))) with
    | some i => decide ((lostL j t v).getD i 0 = maxI (lostL j t v))
    | none => false)) &&
  (match ((List.range 7).map fun (v : Nat) => maxI (lostL j t v)).findIdx? (fun z => decide (z = minI ((List.range 7).map fun (v : Nat) => maxI (lostL j t v)))) with
    | some i => decide (safeP ((j : Int) + 1) t (bitsN t + 2) = (minI ((List.range 7).map fun (v : Nat) => maxI (lostL j t v)), (i : Int)))
    | none => false)
theorem small_ok : ∀ j : Fin 4, ∀ t : Fin 12, (t.val < 11 - 2 * j.val ∨ j.val = 1) → smallB j t = true := by decide +kernel
end My

namespace My
open PySem PySem.Spec PyProof.Rows L2 Pre
section
variable {P : Program} {w : World} {K : PySem.W.Frag} {mg : Str → Option Value} {base : Heap}
def sp_check_number : Sp := fun vs H Q _ => ∃ (i lo : Int) (hi : Option Int), vs = [.int i, .int lo, (match hi with | some j => .int j | none => .non)] ∧ lo ≤ i ∧ (∀ j, hi = some j → i ≤ j) ∧ Q .non H
theorem G_check_number (T : Top K mg) : FnOk P w K mg base CX0 3 T.f_check_number T.fd_check_number ["number", "low", "high"] sp_check_number := by
  refine T.F_check_number.ok sc_check_number (fun vs H Q E h => by obtain ⟨i, lo, hi, rfl, _⟩ := h; rfl) (fun cdv A outer s H vs Q E hr h => ?_)
  obtain ⟨i, lo, hi, rfl, h0, h1, q⟩ := h
  refine ⟨_, PSs.nox (pss_one (ps_if (pt_not (pt_val (pe_call (G_is_between T) (hr.mono (by decide)) (by rfl) T.g_is_between T.F_is_between.kp T.b_is_between .nil pass0 (pa_cons (pv 0) (pa_cons (pv 1) (pa_cons (pv 2) pa_nil))))))
    (pss_one ps_never)
    pss_nil)), ?_⟩
  refine ⟨_, rfl, _, rfl, _, rfl, i, lo, hi, rfl, _, rfl, ?_⟩
  rw [decide_eq_true ⟨h0, h1⟩]
  exact iteF q
def sp_check_width : Sp := fun vs H Q _ => ∃ i : Int, vs = [.int i] ∧ 0 ≤ i ∧ i ≤ 120 ∧ Q .non H
theorem G_check_width (T : Top K mg) : FnOk P w K mg base CX0 3 T.f_check_width T.fd_check_width ["width"] sp_check_width := by
  refine T.F_check_width.ok sc_check_width (fun vs H Q E h => by obtain ⟨i, rfl, _⟩ := h; rfl) (fun cdv A outer s H vs Q E hr h => ?_)
  obtain ⟨i, rfl, h0, h1, q⟩ := h
  refine ⟨_, PSs.nox (pss_one (ps_if (pt_not (pt_val (pe_call (G_is_between T) (hr.mono (by decide)) (by rfl) T.g_is_between T.F_is_between.kp T.b_is_between .nil pass0 (pa_cons (pv 0) (pa_cons pe_int (pa_cons (pe_glob (v := .int 120) rfl T.m_MOST_WIDTH ⟨_, rfl⟩) pa_nil))))))
    (pss_one ps_never)
    pss_nil)), ?_⟩
  refine ⟨_, rfl, i, 0, some 120, rfl, _, rfl, ?_⟩
  rw [decide_eq_true ⟨h0, fun j h => by cases h; exact h1⟩]
  exact iteF q
def sp_check_sum : Sp := fun vs H Q _ => ∃ m t : Int, vs = [.int m, .int t] ∧ 1 ≤ m ∧ 0 ≤ t ∧ Q .non H
theorem G_check_sum (T : Top K mg) : FnOk P w K mg base CX0 4 T.f_check_sum T.fd_check_sum ["many", "total"] sp_check_sum := by
  refine T.F_check_sum.ok sc_check_sum (fun vs H Q E h => by obtain ⟨m, t, rfl, _⟩ := h; rfl) (fun cdv A outer s H vs Q E hr h => ?_)
  obtain ⟨m, t, rfl, h0, h1, q⟩ := h
  refine ⟨_, PSs.nox (pss_cons (ps_expr (pe_call (G_check_number T) (hr.mono (by decide)) (by rfl) T.g_check_number T.F_check_number.kp T.b_check_number .nil pass0 (pa_cons (pv 0) (pa_cons pe_int (pa_cons pe_non pa_nil)))))
  (pss_one (ps_expr (pe_call (G_check_number T) (hr.mono (by decide)) (by rfl) T.g_check_number T.F_check_number.kp T.b_check_number .nil pass0 (pa_cons (pv 1) (pa_cons pe_int (pa_cons pe_non pa_nil))))))), ?_⟩
  refine ⟨_, rfl, m, 1, none, rfl, h0, (fun j h => nomatch h), ?_⟩
  exact ⟨_, rfl, t, 0, none, rfl, h1, (fun j h => nomatch h), q⟩
def sp_rounded_up : Sp := fun vs H Q _ => ∃ (t : Int) (u : Int), vs = [.int t, .int u] ∧ 0 < u ∧ u.natAbs < 2 ^ 200 ∧ Q (.int (rup t u)) H
theorem G_rounded_up (T : Top K mg) : FnOk P w K mg base CX0 1 T.f_rounded_up T.fd_rounded_up ["top", "under"] sp_rounded_up := by
  refine T.F_rounded_up.ok sc_rounded_up (fun vs H Q E h => by obtain ⟨t, u, rfl, _⟩ := h; rfl) (fun cdv A outer s H vs Q E hr h => ?_)
  obtain ⟨t, u, rfl, hu, hb, q⟩ := h
  refine ⟨_, PSs.nox (pss_one (ps_ret (pe_callB (call_max2 rfl) (by rfl) T.n_max (by decide +kernel) (pa_cons pe_int (pa_cons (pe_un un_neg (pe_op op_fdivW (pe_un un_neg (pv 0)) (pv 1))) pa_nil))))), ?_⟩
  unfold rup at q
  refine ⟨_, rfl, _, rfl, _, rfl, _, _, rfl, rfl, wide_div (b := 200) hu hb (by decide) (by decide), _, rfl, _, _, rfl, ?_⟩
  have e : (if -(-t / u) > 0 then -(-t / u) else 0) = max 0 (-(-t / u)) := by omega
  rw [e]
  exact q
/-- what is left behind the first ones -/
def fillL (top : Int) : Nat → Int → Int
  | 0, l => l
  | k + 1, l => fillL top k (l - min l top)
theorem fillL_next (top : Int) : ∀ (k : Nat) (l : Int), fillL top (k + 1) l = fillL top k l - min (fillL top k l) top
  | 0, _ => rfl
  | k + 1, l => fillL_next top k (l - min l top)
theorem fill_at (top : Int) : ∀ (m i : Nat) (l : Int), i < m → (fillF top m l)[i]? = some (min (fillL top i l) top)
  | 0, _, _, h => absurd h (by omega)
  | m + 1, 0, l, _ => rfl
  | m + 1, i + 1, l, h => fill_at top m i (l - min l top) (by omega)
def sp_filled (K : PySem.W.Frag) : Sp := fun vs H Q _ => ∃ (a : Addr) (m : Nat) (top left : Int), vs = [.ref a, .int top, .int left] ∧ SqL K H a ((List.replicate m (0 : Int)).map V.int) ∧ m ≤ 1000 ∧ ∀ H' p, Same H H' → H p = none → H' p = some (.lst ((fillF top m left).map V.int)) → Q (.ref p) H'
theorem G_filled (T : Top K mg) : FnOk P w K mg base CX0 1 T.f_filled T.fd_filled ["folds", "top", "left"] (sp_filled K) := by
  refine T.F_filled.ok sc_filled (fun vs H Q E h => by obtain ⟨a, m, top, left, rfl, _⟩ := h; rfl) (fun cdv A outer s H vs Q E hr h => ?_)
  obtain ⟨a, m, top, left, rfl, hA, hm, q⟩ := h
  refine ⟨_, PSs.nox (pss_cons (ps_set (i := 3) sc_filled.nd rfl (by first | exact Or.inl rfl | exact Or.inr rfl) (pe_lst pa_nil))
  (pss_cons (ps_for PassesOwn.never rfl (k_piL K rfl (pv 0)) (pg_name (i := 4) sc_filled.nd rfl (by first | exact Or.inl rfl | exact Or.inr rfl))
    (pss_cons (ps_set (i := 5) sc_filled.nd rfl (by first | exact Or.inl rfl | exact Or.inr rfl) (pe_callB (call_min2 rfl) (by rfl) T.n_min (by decide +kernel) (pa_cons (pv 2) (pa_cons (pe_op op_sub (pv 1) (pv 4)) pa_nil))))
  (pss_cons (ps_expr (pe_bm PySem.F.plainAttrs_list PySem.F.slot_list_append PySem.F.type_list_append mt_append (pv 3) (pa_cons (pe_op op_add (pv 4) (pv 5)) pa_nil)))
  (pss_one (ps_set (i := 2) sc_filled.nd rfl (by first | exact Or.inl rfl | exact Or.inr rfl) (pe_op op_sub (pv 2) (pv 5)))))))
  (pss_one (ps_ret (pv 3))))), ?_⟩
  refine ⟨Nat.zero_le _, fun f nf => ?_⟩
  obtain ⟨H1, e1, s1, h1⟩ := fresh (.lst []) nf
  rw [e1]
  have hA1 := s1.seq hA
  have hfl := fill_len top m left
  refine ⟨_, rfl, a, rfl, ⟨_, hA1⟩, for_list (K := K) (a := a) (xs := (List.replicate m (0 : Int)).map V.int) (fun i σ H2 => ∃ v4 v5, σ = [some (.ref a), some (.int top), some (.int (fillL top i left)), some (.ref f), v4, v5] ∧ Same H H2 ∧ H2 f = some (.lst (((fillF top m left).take i).map V.int))) ⟨none, none, rfl, s1, h1⟩ (fun i σ H2 _ ⟨_, _, _, s, _⟩ => s.seq hA) ?_ ?_⟩
  · rintro i x σ H2 hx ⟨v4, v5, rfl, s2, h2⟩
    obtain ⟨n, hn, rfl⟩ := int_at hx
    have hi : i < m := by
      have := (List.getElem?_eq_some_iff.mp hn).1
      rw [List.length_replicate] at this
      exact this
    have en : n = 0 := by
      rw [List.getElem?_replicate, if_pos hi] at hn
      exact (Option.some.inj hn).symm
    subst en
    refine ⟨_, rfl, _, rfl, _, rfl, _, _, rfl, rfl, _, _, rfl, ?_⟩
    have em : (if top - 0 < fillL top i left then top - 0 else fillL top i left) = min (fillL top i left) top := by omega
    rw [em]
    refine ⟨_, rfl, .inl ⟨rfl, _, .inl (.inl h2)⟩, _, rfl, _, rfl, _, _, rfl, rfl, f, _, _, rfl, rfl, h2, by rw [List.length_map, List.length_take]; exact Nat.lt_of_le_of_lt (Nat.min_le_left _ _) (small1000 (by omega)), ?_⟩
    refine ⟨_, rfl, _, rfl, _, _, rfl, rfl, some (.int 0), some (.int (min (fillL top i left) top)), ?_, same_over nf s2, ?_⟩
    · show _ = [some (V.ref a), some (.int top), some (.int (fillL top (i + 1) left)), some (.ref f), some (.int 0), some (.int (min (fillL top i left) top))]
      rw [fillL_next]
      rfl
    · rw [upd_same, List.take_add_one, fill_at top m i left hi, List.map_append]
      dsimp only
      rw [Int.zero_add]
      rfl
  · rintro σ H2 ⟨v4, v5, rfl, s2, h2⟩
    refine ⟨_, rfl, q _ f s2 nf ?_⟩
    rw [h2, List.length_map, List.length_replicate, List.take_of_length_le (by omega)]
def sp_far_loss : Sp := fun vs H Q _ => ∃ (m t : Int) (w o : Nat), vs = [.int m, .int t, .int w, .int o] ∧ 0 ≤ m ∧ m ≤ 10 ^ 12 ∧ 0 ≤ t ∧ w ≤ 120 ∧ o ≤ 120 ∧ Q (.int (farF m t w o)) H
theorem G_far_loss (T : Top K mg) : FnOk P w K mg base CX0 2 T.f_far_loss T.fd_far_loss ["many", "total", "width", "other"] sp_far_loss := by
  refine T.F_far_loss.ok sc_far_loss (fun vs H Q E h => by obtain ⟨m, t, w, o, rfl, _⟩ := h; rfl) (fun cdv A outer s H vs Q E hr h => ?_)
  obtain ⟨m, t, w, o, rfl, hm, hm2, ht, hw, ho, q⟩ := h
  refine ⟨_, PSs.nox (pss_cons (ps_if (pt_cmpR op_gt (pv 3) (pv 2) (nomark _))
    (pss_cons (ps_par (by rfl) sc_far_loss.nd (i := 4) (j := 5) rfl rfl (by decide) rfl rfl (pa_cons (pe_op op_shl pe_int (pe_op op_sub (pv 3) (pv 2))) (pa_cons (pe_op op_shr (pv 1) (pv 2)) pa_nil)) (by rfl))
  (pss_one (ps_ret (pe_op op_sub (pe_op op_add (pe_op op_mul (pv 0) (pe_op op_sub (pv 2) (pv 3))) (pv 5)) (pe_call (G_rounded_up T) (hr.mono (by decide)) (by rfl) T.g_rounded_up T.F_rounded_up.kp T.b_rounded_up .nil pass0 (pa_cons (pe_op op_sub (pv 5) (pe_op op_mul (pv 0) (pe_op op_sub (pv 4) pe_int))) (pa_cons (pv 4) pa_nil)))))))
    pss_nil)
  (pss_cons (ps_par (by rfl) sc_far_loss.nd (i := 4) (j := 5) rfl rfl (by decide) rfl rfl (pa_cons (pe_op op_shl pe_int (pe_op op_sub (pv 2) (pv 3))) (pa_cons (pe_call (G_rounded_up T) (hr.mono (by decide)) (by rfl) T.g_rounded_up T.F_rounded_up.kp T.b_rounded_up .nil pass0 (pa_cons (pe_op op_sub (pv 1) (pe_op op_mul (pv 0) (pe_op op_sub (pe_op op_shl pe_int (pv 3)) pe_int))) (pa_cons (pe_op op_shl pe_int (pv 3)) pa_nil))) pa_nil)) (by rfl))
  (pss_one (ps_ret (pe_op op_sub (pe_op op_mul (pv 0) (pe_op op_sub (pv 2) (pv 3))) (pe_op op_sub (pv 5) (pe_op op_fdivW (pv 5) (pv 4)))))))), ?_⟩
  unfold farF at q
  refine ⟨_, rfl, _, rfl, _, _, rfl, rfl, _, rfl, ?_⟩
  by_cases hc : o > w
  · rw [decide_eq_true (show (o : Int) > (w : Int) by omega)]
    rw [if_pos hc] at q
    refine iteT ?_
    have hq := p2 (o - w)
    have hq2 : (2 : Int) ^ (o - w) ≤ 2 ^ 120 := p2_le (by omega)
    have ed : ((o : Int) - (w : Int)).toNat = o - w := by omega
    refine ⟨_, rfl, _, rfl, _, _, rfl, rfl, _, _, rfl, rfl, ⟨by omega, by omega, by decide⟩, _, rfl, _, rfl, _, _, rfl, rfl, by omega, _, _, rfl, ?_⟩
    dsimp only
    rw [ed, Int.one_mul, Int.toNat_natCast]
    refine ⟨_, rfl, _, rfl, _, rfl, _, _, rfl, rfl, _, _, rfl, rfl, .inl ⟨by omega, by omega⟩, _, rfl, _, _, rfl, rfl, ?_⟩
    refine ⟨_, rfl, _, rfl, _, rfl, _, _, rfl, rfl, _, _, rfl, rfl, .inl ⟨by omega, by omega⟩, _, _, rfl, rfl, _, rfl, _, _, rfl, hq, by omega, _, _, rfl, rfl, q⟩
  · rw [decide_eq_false (show ¬ (o : Int) > (w : Int) by omega)]
    rw [if_neg hc] at q
    refine iteF ?_
    have hq := p2 (w - o)
    have hp := p2 o
    have hp2 : (2 : Int) ^ o ≤ 2 ^ 120 := p2_le (by omega)
    have hq2 : (2 : Int) ^ (w - o) ≤ 2 ^ 120 := p2_le (by omega)
    have ed : ((w : Int) - (o : Int)).toNat = w - o := by omega
    refine ⟨_, rfl, _, rfl, _, _, rfl, rfl, _, _, rfl, rfl, ⟨by omega, by omega, by decide⟩, ?_⟩
    dsimp only
    rw [ed, Int.one_mul]
    refine ⟨_, rfl, _, rfl, _, rfl, _, _, rfl, rfl, ⟨by omega, by omega, by decide⟩, _, _, rfl, rfl, ?_⟩
    dsimp only
    rw [Int.one_mul, Int.toNat_natCast]
    refine ⟨_, _, rfl, rfl, .inl ⟨by omega, by omega⟩, _, _, rfl, rfl, _, rfl, _, _, rfl, rfl, ⟨by omega, by omega, by decide⟩, ?_⟩
    dsimp only
    rw [Int.one_mul, Int.toNat_natCast]
    refine ⟨_, _, rfl, hp, by omega, _, _, rfl, ?_⟩
    refine ⟨_, rfl, _, rfl, _, rfl, _, _, rfl, rfl, _, _, rfl, rfl, .inl ⟨by omega, by omega⟩, _, rfl, _, rfl, _, rfl, _, _, rfl, rfl, wide_div (b := 200) hq (by omega) (by decide) (by decide), _, _, rfl, rfl, _, _, rfl, rfl, q⟩
theorem bits_le {t : Int} {m : Nat} (h : t.natAbs < 2 ^ m) : Builtin.Int.intBits t ≤ m := intBits_le_iff.mpr h
theorem bits_lt {t : Int} (h : 0 ≤ t) : t < 2 ^ Builtin.Int.intBits t := by
  have := intBits_le_iff.mp (Nat.le_refl (Builtin.Int.intBits t))
  have e : ((2 ^ Builtin.Int.intBits t : Nat) : Int) = 2 ^ Builtin.Int.intBits t := by rw [Int.natCast_pow]; rfl
  omega
def sp_worst_other : Sp := fun vs H Q _ => ∃ (m t : Int) (w : Nat), vs = [.int m, .int t, .int w] ∧ 0 ≤ m ∧ m ≤ 10 ^ 12 ∧ 0 ≤ t ∧ t < 2 ^ 100 ∧ w ≤ 120 ∧ ∀ H' p, Same H H' → H' p = some (.tup [.int (lossF m t w (Builtin.Int.intBits t + 2)), .int (othF m t w (Builtin.Int.intBits t + 2))]) → Q (.ref p) H'
theorem G_worst_other (T : Top K mg) : FnOk P w K mg base CX0 3 T.f_worst_other T.fd_worst_other ["many", "total", "width"] sp_worst_other := by
  refine T.F_worst_other.ok sc_worst_other (fun vs H Q E h => by obtain ⟨m, t, w, rfl, _⟩ := h; rfl) (fun cdv A outer s H vs Q E hr h => ?_)
  obtain ⟨m, t, w, rfl, hm, hm2, ht, ht2, hw, q⟩ := h
  refine ⟨_, PSs.nox (pss_cons (ps_setLc (i := 3) (own := [("other", 5)]) (g := gName 5) (tt := tYes) (by rfl) sc_worst_other.nd rfl rfl (sw_true rfl rfl rfl (by decide +kernel)) (pi_range1 (by rfl) T.n_range (pa_cons (pe_op op_add (pe_bits (pv 1)) pe_int) pa_nil)) (blkOk_by (own := [("other", 5)]) (N := N_worst_other) (sc := defScope s_worst_other) (by decide +kernel)) (fun _ _ _ _ _ => (pg_name (i := 5) sc_worst_other.nd rfl (by first | exact Or.inl rfl | exact Or.inr rfl))) (fun _ _ _ _ _ => pts_nil) (fun _ _ _ _ _ => (pe_tup (pa_cons (pe_call (G_far_loss T) (hr.mono (by decide)) (by rfl) T.g_far_loss T.F_far_loss.kp T.b_far_loss .nil pass0 (pa_cons (pv 0) (pa_cons (pv 1) (pa_cons (pv 2) (pa_cons (pv 5) pa_nil))))) (pa_cons (pe_un un_neg (pv 5)) pa_nil)))))
  (pss_cons (ps_asg (pe_callB (k_maxP K rfl rfl (huM hr)) (by rfl) T.n_max (by decide +kernel) (pa_cons (pv 3) pa_nil)) (k_pgT K rfl (by rfl) (pgs_cons (pg_name (i := 4) sc_worst_other.nd rfl (by first | exact Or.inl rfl | exact Or.inr rfl)) (pgs_cons (pg_name (i := 5) sc_worst_other.nd rfl (by first | exact Or.inl rfl | exact Or.inr rfl)) pgs_nil))))
  (pss_one (ps_ret (pe_ifExp (pt_cmpR op_gt (pv 4) pe_int (nomark _)) (pe_tup (pa_cons (pv 4) (pa_cons (pe_un un_neg (pv 5)) pa_nil))) (pe_tup (pa_cons pe_int (pa_cons (pv 2) pa_nil)))))))), ?_⟩
  have hb := bits_le (m := 100) (t := t) (by omega)
  refine ⟨_, rfl, _, rfl, _, _, rfl, rfl, _, rfl, ?_⟩
  have eb : ((Builtin.Int.intBits t : Nat) : Int) + 2 = ((Builtin.Int.intBits t + 2 : Nat) : Int) := by omega
  generalize Builtin.Int.intBits t = b at *
  dsimp only
  rw [eb]
  refine ⟨by omega, by omega, fun D nD => ?_⟩
  rw [Int.toNat_natCast]
  refine lc_relR (lo := 0) (n := b + 2) (fun i y H' => ∃ p, y = .ref p ∧ p ≠ D ∧ H' p = some (.tup [.int (farF m t w i), .int (-(i : Int))])) nD (small1000 (by omega)) ?_ (fun x => rfl) ?_ ?_
  · rintro i y H1 H2 o ⟨p, rfl, np, hp⟩
    exact ⟨p, rfl, np, o _ _ np hp⟩
  · intro i H' xs hi s hD Qt qt
    refine ⟨_, rfl, _, rfl, _, rfl, _, rfl, m, t, w, i, ?_, hm, hm2, ht, hw, by omega, ?_⟩
    · show [V.int m, V.int t, V.int w, V.int (0 + (i : Int))] = _
      rw [Int.zero_add]
    refine ⟨_, rfl, _, rfl, (show 2 ≤ sizeLine by decide), fun p np => ?_⟩
    refine qt _ _ (same_upd np) ⟨p, rfl, (ne_of_none hD np).symm, ?_⟩
    rw [upd_same]
    dsimp only
    rw [Int.zero_add]
  intro H1 ys s1 hD hyl hR
  have hPairs : PairsAt K H1 D (farP m t w (b + 2)) := by
    have hex : ∀ i, i < ys.length → ∃ p, ys[i]? = some (V.ref p) ∧ H1 p = some (.tup [.int (farF m t w i), .int (-(i : Int))]) := fun i hi => by
      obtain ⟨p, e, _, hp⟩ := hR i ys[i] (List.getElem?_eq_getElem hi)
      exact ⟨p, by rw [List.getElem?_eq_getElem hi, e], hp⟩
    refine ⟨ys.map fun y => match y with | .ref p => p | _ => 0, .inl (.inl ?_), by unfold farP; rw [List.length_map, List.length_map, List.length_range, hyl], fun i p pr hp hpr => ?_⟩
    · rw [hD, List.map_map]
      congr 2
      refine List.ext_getElem? fun i => ?_
      rw [List.getElem?_map]
      by_cases hi : i < ys.length
      · obtain ⟨p, e, _⟩ := hex i hi
        rw [e]
        rfl
      · rw [List.getElem?_eq_none (by omega)]
        rfl
    · rw [List.getElem?_map] at hp
      obtain ⟨y, hy, rfl⟩ := Option.map_eq_some_iff.mp hp
      have hi : i < ys.length := (List.getElem?_eq_some_iff.mp hy).1
      obtain ⟨p, e, hp2⟩ := hex i hi
      rw [hy] at e
      cases e
      unfold farP at hpr
      rw [List.getElem?_map, List.getElem?_range (by omega)] at hpr
      cases hpr
      exact .inl (.inl hp2)
  rw [farP_cons m t w (b + 2) (by omega)] at hPairs
  refine ⟨_, rfl, D, _, _, rfl, hPairs, fun p hp => ?_⟩
  refine ⟨p, _, rfl, hp, rfl, _, _, rfl, _, _, rfl, rfl, ?_⟩
  have eB : maxP (farF m t w 0, 0) ((List.range (b + 2 - 1)).map fun (o : Nat) => (farF m t w (o + 1), -((o : Int) + 1))) = bestP m t w (b + 2) := rfl
  rw [eB]
  unfold lossF othF at q
  refine ⟨_, rfl, _, _, rfl, rfl, _, rfl, ?_⟩
  by_cases hc : (bestP m t w (b + 2)).1 > 0
  · rw [decide_eq_true hc]
    rw [if_pos hc, if_pos hc] at q
    refine iteT ⟨_, rfl, _, rfl, _, rfl, (show 2 ≤ sizeLine by decide), fun p2 np2 => ?_⟩
    exact q _ p2 (s1.trans (same_upd np2)) upd_same
  · rw [decide_eq_false hc]
    rw [if_neg hc, if_neg hc] at q
    refine iteF ⟨_, rfl, (show 2 ≤ sizeLine by decide), fun p2 np2 => ?_⟩
    exact q _ p2 (s1.trans (same_upd np2)) upd_same
def sp_loss : Sp := fun vs H Q _ => ∃ (m t : Int) (w : Nat), vs = [.int m, .int t, .int w] ∧ 1 ≤ m ∧ m ≤ 10 ^ 12 ∧ 0 ≤ t ∧ t < 2 ^ 100 ∧ w ≤ 120 ∧ ∀ H', Same H H' → Q (.int (lossF m t w (Builtin.Int.intBits t + 2))) H'
theorem G_loss (T : Top K mg) : FnOk P w K mg base CX0 5 T.f_loss T.fd_loss ["many", "total", "width"] sp_loss := by
  refine T.F_loss.ok sc_loss (fun vs H Q E h => by obtain ⟨m, t, w, rfl, _⟩ := h; rfl) (fun cdv A outer s H vs Q E hr h => ?_)
  obtain ⟨m, t, w, rfl, hm, hm2, ht, ht2, hw, q⟩ := h
  refine ⟨_, PSs.nox (pss_cons (ps_expr (pe_call (G_check_sum T) (hr.mono (by decide)) (by rfl) T.g_check_sum T.F_check_sum.kp T.b_check_sum .nil pass0 (pa_cons (pv 0) (pa_cons (pv 1) pa_nil))))
  (pss_cons (ps_expr (pe_call (G_check_width T) (hr.mono (by decide)) (by rfl) T.g_check_width T.F_check_width.kp T.b_check_width .nil pass0 (pa_cons (pv 2) pa_nil)))
  (pss_one (ps_ret (pe_ix (k_ixT K rfl) (pe_call (G_worst_other T) (hr.mono (by decide)) (by rfl) T.g_worst_other T.F_worst_other.kp T.b_worst_other .nil pass0 (pa_cons (pv 0) (pa_cons (pv 1) (pa_cons (pv 2) pa_nil)))) pe_int (fun _ _ => rfl)))))), ?_⟩
  refine ⟨_, rfl, _, rfl, m, t, rfl, hm, ht, ?_⟩
  refine ⟨_, rfl, _, rfl, by omega, by omega, ?_⟩
  refine ⟨_, rfl, _, rfl, _, rfl, m, t, w, rfl, by omega, hm2, ht, ht2, hw, fun H1 p s1 hp => ?_⟩
  exact ⟨p, _, _, _, rfl, rfl, .inl (.inl hp), rfl, q _ s1⟩
def sp_safest : Sp := fun vs H Q _ => ∃ (m t : Int), vs = [.int m, .int t] ∧ 1 ≤ m ∧ m ≤ 10 ^ 12 ∧ 0 ≤ t ∧ t < 2 ^ 100 ∧ ∀ H' p, Same H H' → H' p = some (.tup ([(safeP m t (Builtin.Int.intBits t + 2)).2, (safeP m t (Builtin.Int.intBits t + 2)).1].map V.int)) → Q (.ref p) H'
theorem G_safest (T : Top K mg) : FnOk P w K mg base CX0 5 T.f_safest T.fd_safest ["many", "total"] sp_safest := by
  refine T.F_safest.ok sc_safest (fun vs H Q E h => by obtain ⟨m, t, rfl, _⟩ := h; rfl) (fun cdv A outer s H vs Q E hr h => ?_)
  obtain ⟨m, t, rfl, hm, hm2, ht, ht2, q⟩ := h
  refine ⟨_, PSs.nox (pss_cons (ps_expr (pe_call (G_check_sum T) (hr.mono (by decide)) (by rfl) T.g_check_sum T.F_check_sum.kp T.b_check_sum .nil pass0 (pa_cons (pv 0) (pa_cons (pv 1) pa_nil))))
  (pss_cons (ps_setLc (i := 2) (own := [("width", 4)]) (g := gName 4) (tt := tYes) (by rfl) sc_safest.nd rfl rfl (sw_true rfl rfl rfl (by decide +kernel)) (pi_range1 (by rfl) T.n_range (pa_cons (pe_op op_add (pe_bits (pv 1)) pe_int) pa_nil)) (blkOk_by (own := [("width", 4)]) (N := N_safest) (sc := defScope s_safest) (by decide +kernel)) (fun _ _ _ _ _ => (pg_name (i := 4) sc_safest.nd rfl (by first | exact Or.inl rfl | exact Or.inr rfl))) (fun _ _ _ _ _ => pts_nil) (fun _ _ _ _ _ => (pe_tup (pa_cons (pe_ix (k_ixT K rfl) (pe_call (G_worst_other T) (hr.mono (by decide)) (by rfl) T.g_worst_other T.F_worst_other.kp T.b_worst_other .nil pass0 (pa_cons (pv 0) (pa_cons (pv 1) (pa_cons (pv 4) pa_nil)))) pe_int (fun _ _ => rfl)) (pa_cons (pv 4) pa_nil)))))
  (pss_cons (ps_asg (pe_callB (k_minP K rfl rfl (huM hr)) (by rfl) T.n_min (by decide +kernel) (pa_cons (pv 2) pa_nil)) (k_pgT K rfl (by rfl) (pgs_cons (pg_name (i := 3) sc_safest.nd rfl (by first | exact Or.inl rfl | exact Or.inr rfl)) (pgs_cons (pg_name (i := 4) sc_safest.nd rfl (by first | exact Or.inl rfl | exact Or.inr rfl)) pgs_nil))))
  (pss_one (ps_ret (pe_tup (pa_cons (pv 4) (pa_cons (pv 3) pa_nil)))))))), ?_⟩
  refine ⟨_, rfl, _, rfl, m, t, rfl, hm, ht, ?_⟩
  have hb := bits_le (m := 100) (t := t) (by omega)
  refine ⟨_, rfl, _, rfl, _, _, rfl, rfl, _, rfl, ?_⟩
  have eb : ((Builtin.Int.intBits t : Nat) : Int) + 2 = ((Builtin.Int.intBits t + 2 : Nat) : Int) := by omega
  dsimp only
  rw [eb]
  refine ⟨by omega, by omega, fun D nD => ?_⟩
  rw [Int.toNat_natCast]
  refine lc_relR (lo := 0) (n := Builtin.Int.intBits t + 2) (fun i y H' => ∃ p, y = .ref p ∧ p ≠ D ∧ H' p = some (.tup [.int (lossF m t i (Builtin.Int.intBits t + 2)), .int (i : Int)])) nD (small1000 (by omega)) ?_ (fun x => rfl) ?_ ?_
  · rintro i y H1 H2 o ⟨p, rfl, np, hp⟩
    exact ⟨p, rfl, np, o _ _ np hp⟩
  · intro i H' xs hi s hD Qt qt
    refine ⟨_, rfl, _, rfl, _, rfl, m, t, i, ?_, by omega, hm2, ht, ht2, by omega, fun H1 p1 s1 hp1 => ?_⟩
    · show [V.int m, V.int t, V.int (0 + (i : Int))] = _
      rw [Int.zero_add]
    refine ⟨p1, _, _, _, rfl, rfl, .inl (.inl hp1), rfl, _, rfl, (show 2 ≤ sizeLine by decide), fun p np => ?_⟩
    refine qt _ _ (s1.trans (same_upd np)) ⟨p, rfl, (ne_of_none (s1 _ _ hD) np).symm, ?_⟩
    rw [upd_same, Int.zero_add]
  intro H1 ys s1 hD hyl hR
  have hPairs : PairsAt K H1 D (lossP m t (Builtin.Int.intBits t + 2)) := by
    have hex : ∀ i, i < ys.length → ∃ p, ys[i]? = some (V.ref p) ∧ H1 p = some (.tup [.int (lossF m t i (Builtin.Int.intBits t + 2)), .int (i : Int)]) := fun i hi => by
      obtain ⟨p, e, _, hp⟩ := hR i ys[i] (List.getElem?_eq_getElem hi)
      exact ⟨p, by rw [List.getElem?_eq_getElem hi, e], hp⟩
    refine ⟨ys.map fun y => match y with | .ref p => p | _ => 0, .inl (.inl ?_), by unfold lossP; rw [List.length_map, List.length_map, List.length_range, hyl], fun i p pr hp hpr => ?_⟩
    · rw [hD, List.map_map]
      congr 2
      refine List.ext_getElem? fun i => ?_
      rw [List.getElem?_map]
      by_cases hi : i < ys.length
      · obtain ⟨p, e, _⟩ := hex i hi
        rw [e]
        rfl
      · rw [List.getElem?_eq_none (by omega)]
        rfl
    · rw [List.getElem?_map] at hp
      obtain ⟨y, hy, rfl⟩ := Option.map_eq_some_iff.mp hp
      have hi : i < ys.length := (List.getElem?_eq_some_iff.mp hy).1
      obtain ⟨p, e, hp2⟩ := hex i hi
      rw [hy] at e
      cases e
      unfold lossP at hpr
      rw [List.getElem?_map, List.getElem?_range (by omega)] at hpr
      cases hpr
      exact .inl (.inl hp2)
  rw [lossP_cons m t _ (by omega)] at hPairs
  refine ⟨_, rfl, D, _, _, rfl, hPairs, fun p hp => ?_⟩
  refine ⟨p, _, rfl, hp, rfl, _, _, rfl, _, _, rfl, rfl, ?_⟩
  refine ⟨_, rfl, _, rfl, (show 2 ≤ sizeLine by decide), fun p2 np2 => ?_⟩
  exact q _ p2 (s1.trans (same_upd np2)) upd_same
end
end My

namespace My
open PySem PySem.Spec PyProof.Rows L2 Pre
theorem rep0 (m : Nat) : (List.replicate m [V.int 0]).flatten = (List.replicate m (0 : Int)).map V.int := by
  induction m with
  | zero => rfl
  | succ n ih => rw [List.replicate_succ, List.flatten_cons, ih, List.replicate_succ]; rfl
theorem ix_ints {l : List Int} {k : Nat} (h : k < l.length) : ixN (l.map V.int).length (k : Int) = some k := by
  rw [List.length_map]
  unfold ixN
  rw [if_pos (by omega), Int.toNat_natCast, if_pos (by omega)]
theorem set0 {ns : List Int} {e : Int} (h : 1 ≤ ns.length) : ixN (ns.map V.int).length 0 = some 0 ∧ atI (ns.map V.int) 0 = some (.int (ns.getD 0 0)) ∧ (ns.map V.int).set 0 (.int (ns.getD 0 0 + e)) = (putF ns e).map V.int := by
  cases ns with
  | nil => simp at h
  | cons n ns =>
    refine ⟨?_, at_of (j := 0) (by simp) rfl, rfl⟩
    exact ix_ints (l := n :: ns) (k := 0) (by simp)
theorem mem_sum : ∀ {l : List Int}, (∀ n ∈ l, 0 ≤ n) → 0 ≤ l.sum ∧ ∀ n ∈ l, n ≤ l.sum
  | [], _ => ⟨Int.le_refl _, fun _ h => nomatch h⟩
  | a :: l, h => by
    obtain ⟨h1, h2⟩ := mem_sum fun n hn => h n (List.mem_cons_of_mem _ hn)
    have ha := h a List.mem_cons_self
    rw [List.sum_cons]
    refine ⟨by omega, fun n hn => ?_⟩
    rcases List.mem_cons.mp hn with rfl | hn
    · omega
    · have := h2 n hn
      omega
theorem put_in {l : List Int} {C : Int} (h : ∀ n ∈ l, 0 ≤ n) (hs : l.sum ≤ C) : ∀ n ∈ putF l (C - l.sum), 0 ≤ n ∧ n ≤ C := by
  obtain ⟨h1, h2⟩ := mem_sum h
  cases l with
  | nil => intro n hn; cases hn
  | cons a l =>
    intro n hn
    rw [put_cons] at hn
    rcases List.mem_cons.mp hn with rfl | hn
    · have := h2 a List.mem_cons_self
      have := h a List.mem_cons_self
      omega
    · have := h2 n (List.mem_cons_of_mem _ hn)
      have := h n (List.mem_cons_of_mem _ hn)
      omega
theorem put_len (l : List Int) (e : Int) : (putF l e).length = l.length := by unfold putF; rw [List.length_set]
section
variable {P : Program} {w : World} {K : PySem.W.Frag} {mg : Str → Option Value} {base : Heap}
def sp_loss_row (K : PySem.W.Frag) : Sp := fun vs H Q _ => ∃ (m : Nat) (t : Int) (w : Nat), vs = [.int m, .int t, .int w] ∧ 1 ≤ m ∧ m ≤ 100 ∧ 0 ≤ t ∧ t < 2 ^ 60 ∧ w ≤ 120 ∧ ∀ H' p, Same H H' → H p = none → H' p = some (.lst ((rowF m t w (Builtin.Int.intBits t + 2)).map V.int)) → Q (.ref p) H'
theorem G_loss_row (T : Top K mg) : FnOk P w K mg base CX0 5 T.f_loss_row T.fd_loss_row ["many", "total", "width"] (sp_loss_row K) := by
  refine T.F_loss_row.ok sc_loss_row (fun vs H Q E h => by obtain ⟨m, t, w, rfl, _⟩ := h; rfl) (fun cdv A outer s H vs Q E hr h => ?_)
  obtain ⟨m, t, w, rfl, hm, hm2, ht, ht2, hw, q⟩ := h
  refine ⟨_, PSs.nox (pss_cons (ps_expr (pe_call (G_check_sum T) (hr.mono (by decide)) (by rfl) T.g_check_sum T.F_check_sum.kp T.b_check_sum .nil pass0 (pa_cons (pv 0) (pa_cons (pv 1) pa_nil))))
  (pss_cons (ps_expr (pe_call (G_check_width T) (hr.mono (by decide)) (by rfl) T.g_check_width T.F_check_width.kp T.b_check_width .nil pass0 (pa_cons (pv 2) pa_nil)))
  (pss_cons (ps_set (i := 3) sc_loss_row.nd rfl (by first | exact Or.inl rfl | exact Or.inr rfl) (pe_ix (k_ixT K rfl) (pe_call (G_worst_other T) (hr.mono (by decide)) (by rfl) T.g_worst_other T.F_worst_other.kp T.b_worst_other .nil pass0 (pa_cons (pv 0) (pa_cons (pv 1) (pa_cons (pv 2) pa_nil)))) pe_int (fun _ _ => rfl)))
  (pss_cons (ps_if (pt_cmpR op_gt (pv 3) (pv 2) (nomark _))
    (pss_cons (ps_par (by rfl) sc_loss_row.nd (i := 4) (j := 6) rfl rfl (by decide) rfl rfl (pa_cons (pe_op op_shr (pv 1) (pv 2)) (pa_cons (pe_op op_shl pe_int (pe_op op_sub (pv 3) (pv 2))) pa_nil)) (by rfl))
  (pss_cons (ps_set (i := 5) sc_loss_row.nd rfl (by first | exact Or.inl rfl | exact Or.inr rfl) (pe_call (G_filled T) (hr.mono (by decide)) (by rfl) T.g_filled T.F_filled.kp T.b_filled .nil pass0 (pa_cons (pe_op op_rep (pe_lst (pa_cons pe_int pa_nil)) (pv 0)) (pa_cons (pe_op op_sub (pv 6) pe_int) (pa_cons (pv 4) pa_nil)))))
  (pss_cons (ps_asg (pe_op op_sub (pe_op op_add (pe_ix (k_ixL K rfl) (pv 5) pe_int (fun _ _ => rfl)) (pv 4)) (pe_callB (k_sum K rfl rfl) (by rfl) T.n_sum (by decide +kernel) (pa_cons (pv 5) pa_nil))) (pg_sub (pv 5) pe_int set_list))
  (pss_cons (ps_setLc (i := 5) (own := [("unit", 7)]) (g := gName 7) (tt := tYes) (by rfl) sc_loss_row.nd rfl rfl (sw_true rfl rfl rfl (by decide +kernel)) (k_piL K rfl (pv 5)) (blkOk_by (own := [("unit", 7)]) (N := N_loss_row) (sc := defScope s_loss_row) (by decide +kernel)) (fun _ _ _ _ _ => (pg_name (i := 7) sc_loss_row.nd rfl (by first | exact Or.inl rfl | exact Or.inr rfl))) (fun _ _ _ _ _ => pts_nil) (fun _ _ _ _ _ => (pe_op op_shl (pv 7) (pv 2))))
  (pss_cons (ps_asg (pe_op op_sub (pe_op op_add (pe_ix (k_ixL K rfl) (pv 5) pe_int (fun _ _ => rfl)) (pv 1)) (pe_op op_shl (pv 4) (pv 2))) (pg_sub (pv 5) pe_int set_list))
  (pss_one (ps_ret (pv 5))))))))
    pss_nil)
  (pss_cons (ps_set (i := 4) sc_loss_row.nd rfl (by first | exact Or.inl rfl | exact Or.inr rfl) (pe_call (G_rounded_up T) (hr.mono (by decide)) (by rfl) T.g_rounded_up T.F_rounded_up.kp T.b_rounded_up .nil pass0 (pa_cons (pe_op op_sub (pv 1) (pe_op op_mul (pv 0) (pe_op op_sub (pe_op op_shl pe_int (pv 3)) pe_int))) (pa_cons (pe_op op_shl pe_int (pv 3)) pa_nil))))
  (pss_cons (ps_set (i := 5) sc_loss_row.nd rfl (by first | exact Or.inl rfl | exact Or.inr rfl) (pe_call (G_filled T) (hr.mono (by decide)) (by rfl) T.g_filled T.F_filled.kp T.b_filled .nil pass0 (pa_cons (pe_op op_rep (pe_lst (pa_cons pe_int pa_nil)) (pv 0)) (pa_cons (pe_op op_sub (pe_op op_shl pe_int (pv 3)) pe_int) (pa_cons (pe_op op_sub (pv 1) (pe_op op_shl (pv 4) (pv 3))) pa_nil)))))
  (pss_cons (ps_asg (pe_op op_sub (pe_op op_add (pe_ix (k_ixL K rfl) (pv 5) pe_int (fun _ _ => rfl)) (pv 1)) (pe_callB (k_sum K rfl rfl) (by rfl) T.n_sum (by decide +kernel) (pa_cons (pv 5) pa_nil))) (pg_sub (pv 5) pe_int set_list))
  (pss_one (ps_ret (pv 5)))))))))), ?_⟩
  refine ⟨_, rfl, _, rfl, m, t, rfl, by omega, ht, ?_⟩
  refine ⟨_, rfl, _, rfl, by omega, by omega, ?_⟩
  refine ⟨_, rfl, _, rfl, _, rfl, m, t, w, rfl, by omega, by omega, ht, by omega, hw, fun H1 p1 s1 hp1 => ?_⟩
  refine ⟨p1, _, _, _, rfl, rfl, .inl (.inl hp1), rfl, ?_⟩
  have hb := bits_le (m := 100) (t := t) (by omega)
  obtain ⟨o, eo, ho, _⟩ := oth_nat (m : Int) t w (Builtin.Int.intBits t + 2) (by omega)
  unfold rowF at q
  rw [eo] at q ⊢
  rw [Int.toNat_natCast] at q
  refine ⟨_, rfl, _, rfl, _, _, rfl, rfl, _, rfl, ?_⟩
  have small : ∀ {l : List Int}, l.length = m → (l.map V.int).length < sizeLine := fun {l} h => by rw [List.length_map]; exact small1000 (by omega)
  by_cases hc : (o : Int) > w
  · rw [decide_eq_true hc]
    rw [if_pos hc] at q
    unfold rowHi at q
    refine iteT ?_
    have hq := p2 (o - w)
    have ed : ((o : Int) - (w : Int)).toNat = o - w := by omega
    refine ⟨_, rfl, _, rfl, _, _, rfl, rfl, by omega, _, rfl, _, rfl, _, _, rfl, rfl, _, _, rfl, rfl, ⟨by omega, by omega, by decide⟩, _, _, rfl, ?_⟩
    dsimp only
    rw [ed, Int.one_mul, Int.toNat_natCast]
    refine ⟨(show 1 ≤ sizeLine by decide), fun z nz => ?_⟩
    obtain ⟨H2, e2, s2, h2⟩ := fresh (.lst [V.int 0]) nz
    rw [e2]
    refine ⟨_, rfl, z, _, _, rfl, rfl, h2, by omega, by omega, by rw [Int.toNat_natCast]; show 1 * m ≤ _; rw [sizeLine_eq]; omega, fun z2 nz2 => ?_⟩
    rw [Int.toNat_natCast, rep0]
    obtain ⟨H3, e3, s3, h3⟩ := fresh (.lst ((List.replicate m (0 : Int)).map V.int)) nz2
    rw [e3]
    refine ⟨_, rfl, _, _, rfl, rfl, _, rfl, z2, m, _, _, rfl, .inl (.inl h3), by omega, fun H4 f s4 nf hf => ?_⟩
    have hfl := fill_len (2 ^ (o - w) - 1) m (t / 2 ^ w)
    have hC0 : 0 ≤ t / 2 ^ w := Int.ediv_nonneg ht (Int.le_of_lt (p2 w))
    have hCt : t / 2 ^ w ≤ t := Int.ediv_le_self _ ht
    have hFi := fill_in (2 ^ (o - w) - 1) (by omega) m (t / 2 ^ w) hC0
    have hFs := fill_sum (2 ^ (o - w) - 1) (by omega) m (t / 2 ^ w) hC0
    generalize fillF (2 ^ (o - w) - 1) m (t / 2 ^ w) = F at *
    have hG := put_in (l := F) (C := t / 2 ^ w) (fun n hn => (hFi n hn).1) (by omega)
    have s14 := ((s1.trans s2).trans s3).trans s4
    have nHf : H f = none := s1.free (s2.free (s3.free nf))
    obtain ⟨x1, x2, x3⟩ := set0 (ns := F) (e := t / 2 ^ w - F.sum) (by omega)
    refine ⟨_, rfl, f, _, _, _, rfl, rfl, .inl (.inl hf), x2, _, rfl, _, _, rfl, rfl, _, rfl, f, F, rfl, .inl (.inl hf), ?_⟩
    refine ⟨_, _, rfl, rfl, _, rfl, f, _, _, 0, rfl, rfl, hf, x1, ?_⟩
    have ev : (F.getD 0 0 + t / 2 ^ w - F.sum) = F.getD 0 0 + (t / 2 ^ w - F.sum) := by omega
    dsimp only
    rw [ev, x3]
    have s1G : Same H (upd H4 f (.lst ((putF F (t / 2 ^ w - F.sum)).map V.int))) := same_over nHf s14
    have hfG : (upd H4 f (.lst ((putF F (t / 2 ^ w - F.sum)).map V.int))) f = some (.lst ((putF F (t / 2 ^ w - F.sum)).map V.int)) := upd_same
    have hGl := put_len F (t / 2 ^ w - F.sum)
    generalize upd H4 f (.lst ((putF F (t / 2 ^ w - F.sum)).map V.int)) = H5 at s1G hfG
    generalize putF F (t / 2 ^ w - F.sum) = G at *
    have hS5 : SqL K H5 f (G.map V.int) := .inl (.inl hfG)
    refine ⟨_, rfl, f, rfl, ⟨_, hS5⟩, fun D nD => ?_⟩
    refine lc_mapL (K := K) (xs := G.map V.int) ((G.map fun n => n * 2 ^ w).map V.int) nD hS5 (by simp) (small (by omega)) (fun x => rfl) ?_ ?_
    · intro i x y H' hx hy s Qt qt
      obtain ⟨n, hn, rfl⟩ := int_at hx
      rw [List.getElem?_map, List.getElem?_map, hn] at hy
      cases hy
      have hnb := hG n (List.mem_of_getElem? hn)
      refine ⟨_, rfl, _, rfl, _, _, rfl, rfl, ⟨by omega, by omega, by omega⟩, ?_⟩
      dsimp only
      rw [Int.toNat_natCast]
      exact qt _ (Same.refl _)
    intro H6 s6 hD6
    obtain ⟨y1, y2, y3⟩ := set0 (ns := G.map fun n => n * 2 ^ w) (e := t - t / 2 ^ w * 2 ^ w) (by rw [List.length_map]; omega)
    refine ⟨_, rfl, D, _, _, _, rfl, rfl, .inl (.inl hD6), y2, _, rfl, _, _, rfl, rfl, _, rfl, _, rfl, _, _, rfl, rfl, ⟨by omega, by omega, by omega⟩, _, _, rfl, rfl, ?_⟩
    refine ⟨_, rfl, D, _, _, 0, rfl, rfl, hD6, y1, ?_⟩
    have nHD : H D = none := s1G.free nD
    refine ⟨_, rfl, q _ D (same_over nHD (s1G.trans s6)) nHD ?_⟩
    rw [upd_same, ← y3]
    dsimp only
    rw [Int.toNat_natCast]
    congr 4
    omega
  · rw [decide_eq_false hc]
    rw [if_neg hc] at q
    unfold rowLo at q
    refine iteF ?_
    have hp := p2 o
    have hp2 : (2 : Int) ^ o ≤ 2 ^ 120 := p2_le (by omega)
    obtain ⟨l1, l2⟩ := lo_nn (m := m) (t := t) (o := o) hm ht
    have hr0 := rup_nn (t - (m : Int) * (2 ^ o - 1)) (2 ^ o)
    have hrt : rup (t - (m : Int) * (2 ^ o - 1)) (2 ^ o) ≤ t := by
      have : rup (t - (m : Int) * (2 ^ o - 1)) (2 ^ o) * 1 ≤ rup (t - (m : Int) * (2 ^ o - 1)) (2 ^ o) * 2 ^ o := Int.mul_le_mul_of_nonneg_left (by omega) hr0
      omega
    refine ⟨_, rfl, _, rfl, _, rfl, _, _, rfl, rfl, ⟨by omega, by omega, by decide⟩, _, _, rfl, rfl, _, _, rfl, rfl, .inl ⟨by omega, by omega⟩, _, _, rfl, rfl, ?_⟩
    dsimp only
    rw [Int.one_mul, Int.toNat_natCast]
    refine ⟨_, rfl, _, _, rfl, rfl, ⟨by omega, by omega, by decide⟩, ?_⟩
    dsimp only
    rw [Int.one_mul, Int.toNat_natCast]
    refine ⟨_, _, rfl, hp, by omega, ?_⟩
    refine ⟨(show 1 ≤ sizeLine by decide), fun z nz => ?_⟩
    obtain ⟨H2, e2, s2, h2⟩ := fresh (.lst [V.int 0]) nz
    rw [e2]
    refine ⟨_, rfl, z, _, _, rfl, rfl, h2, by omega, by omega, by rw [Int.toNat_natCast]; show 1 * m ≤ _; rw [sizeLine_eq]; omega, fun z2 nz2 => ?_⟩
    rw [Int.toNat_natCast, rep0]
    obtain ⟨H3, e3, s3, h3⟩ := fresh (.lst ((List.replicate m (0 : Int)).map V.int)) nz2
    rw [e3]
    refine ⟨_, rfl, _, _, rfl, rfl, ⟨by omega, by omega, by decide⟩, _, _, rfl, rfl, ?_⟩
    dsimp only
    rw [Int.one_mul, Int.toNat_natCast]
    refine ⟨_, rfl, _, rfl, _, rfl, _, _, rfl, rfl, ⟨by omega, by omega, by omega⟩, _, _, rfl, rfl, ?_⟩
    dsimp only
    rw [Int.toNat_natCast]
    refine ⟨z2, m, _, _, rfl, .inl (.inl h3), by omega, fun H4 f s4 nf hf => ?_⟩
    have hfl := fill_len (2 ^ o - 1) m (t - rup (t - (m : Int) * (2 ^ o - 1)) (2 ^ o) * 2 ^ o)
    generalize fillF (2 ^ o - 1) m (t - rup (t - (m : Int) * (2 ^ o - 1)) (2 ^ o) * 2 ^ o) = F at *
    have s14 := ((s1.trans s2).trans s3).trans s4
    have nHf : H f = none := s1.free (s2.free (s3.free nf))
    obtain ⟨x1, x2, x3⟩ := set0 (ns := F) (e := t - F.sum) (by omega)
    refine ⟨_, rfl, f, _, _, _, rfl, rfl, .inl (.inl hf), x2, _, rfl, _, _, rfl, rfl, _, rfl, f, F, rfl, .inl (.inl hf), ?_⟩
    refine ⟨_, _, rfl, rfl, _, rfl, f, _, _, 0, rfl, rfl, hf, x1, ?_⟩
    refine ⟨_, rfl, q _ f (same_over nHf s14) nHf ?_⟩
    rw [upd_same, ← x3]
    dsimp only
    congr 4
    omega
end
end My

namespace My
open PySem PySem.Spec PyProof.Rows L2 Pre
theorem at_ints {l : List Int} {k : Nat} (h : k < l.length) : atI (l.map V.int) (k : Int) = some (.int (l.getD k 0)) := by
  refine at_of (j := k) (by omega) ?_
  rw [List.getElem?_map, List.getElem?_eq_getElem h, List.getD_eq_getElem?_getD, List.getElem?_eq_getElem h]
  rfl
theorem price_take (ns : List Int) (w : Nat) {i : Nat} {n : Int} (h : ns[i]? = some n) : price (ns.take (i + 1)) w = price (ns.take i) w + n / 2 ^ w + 1 + (w : Int) := by
  unfold price
  rw [List.take_add_one, h, List.map_append, List.sum_append]
  show _ + ([n / 2 ^ w + 1 + (w : Int)]).sum = _
  rw [List.sum_singleton]
  omega
section
variable {P : Program} {w : World} {K : PySem.W.Frag} {mg : Str → Option Value} {base : Heap}
def sp_law_price (K : PySem.W.Frag) : Sp := fun vs H Q _ => ∃ (a : Addr) (ns : List Int) (v : Nat), vs = [.ref a, .int v] ∧ SqL K H a (ns.map V.int) ∧ v ≤ 200 ∧ Q (.int (price ns v)) H
theorem G_law_price (T : Top K mg) : FnOk P w K mg base CX0 1 T.f_law_price T.fd_law_price ["_law_folds", "_law_width"] (sp_law_price K) := by
  refine T.F_law_price.ok sc_law_price (fun vs H Q E h => by obtain ⟨a, ns, v, rfl, _⟩ := h; rfl) (fun cdv A outer s H vs Q E hr h => ?_)
  obtain ⟨a, ns, v, rfl, hA, hv, q⟩ := h
  refine ⟨_, PSs.nox (pss_cons (ps_set (i := 2) sc_law_price.nd rfl (by first | exact Or.inl rfl | exact Or.inr rfl) pe_int)
  (pss_cons (ps_for PassesOwn.never rfl (k_piL K rfl (pv 0)) (pg_name (i := 3) sc_law_price.nd rfl (by first | exact Or.inl rfl | exact Or.inr rfl))
    (pss_one (ps_set (i := 2) sc_law_price.nd rfl (by first | exact Or.inl rfl | exact Or.inr rfl) (pe_op op_add (pe_op op_add (pe_op op_add (pv 2) (pe_op op_fdivW (pv 3) (pe_op op_shl pe_int (pv 1)))) pe_int) (pv 1)))))
  (pss_one (ps_ret (pv 2))))), ?_⟩
  refine ⟨_, rfl, a, rfl, ⟨_, hA⟩, for_list (K := K) (a := a) (xs := ns.map V.int) (fun i σ H1 => ∃ v3, σ = [some (.ref a), some (.int v), some (.int (price (ns.take i) v)), v3] ∧ H1 = H) ⟨none, rfl, rfl⟩ (fun i σ H1 _ ⟨_, _, e⟩ => by rw [e]; exact hA) ?_ ?_⟩
  · rintro i x σ H1 hx ⟨v3, rfl, rfl⟩
    obtain ⟨n, hn, rfl⟩ := int_at hx
    have hp := pow_pos' v
    have hp2 : (2 : Int) ^ v ≤ 2 ^ 200 := pow2_le hv
    refine ⟨_, rfl, _, rfl, _, rfl, _, _, rfl, rfl, ⟨by omega, by omega, by decide⟩, _, _, rfl, rfl, ?_, ?_⟩
    · show CDivW n (1 * 2 ^ ((v : Int)).toNat)
      rw [Int.one_mul, Int.toNat_natCast]
      exact wide_div (b := 201) hp (by omega) (by decide) (by decide)
    dsimp only
    rw [Int.one_mul, Int.toNat_natCast]
    refine ⟨_, _, rfl, rfl, _, _, rfl, rfl, _, rfl, _, _, rfl, rfl, some (.int n), ?_, rfl⟩
    rw [price_take ns v hn]
    rfl
  · rintro σ H1 ⟨v3, rfl, rfl⟩
    rw [List.length_map, List.take_length]
    exact ⟨_, rfl, q⟩
/-- what is lost by a width, against the best of 118 -/
def IsLost (ns : List Int) (v : Nat) (k : Nat) (z : Int) : Prop := (∃ o : Nat, o < k ∧ z = price ns v - price ns o) ∧ ∀ o : Nat, o < k → price ns v - price ns o ≤ z
def sp_law_lost (K : PySem.W.Frag) : Sp := fun vs H Q _ => ∃ (a : Addr) (ns : List Int) (v : Nat), vs = [.ref a, .int v] ∧ SqL K H a (ns.map V.int) ∧ v ≤ 200 ∧ ∀ z H', Same H H' → IsLost ns v 118 z → Q (.int z) H'
theorem G_law_lost (T : Top K mg) : FnOk P w K mg base CX0 2 T.f_law_lost T.fd_law_lost ["_law_folds", "_law_width"] (sp_law_lost K) := by
  refine T.F_law_lost.ok sc_law_lost (fun vs H Q E h => by obtain ⟨a, ns, v, rfl, _⟩ := h; rfl) (fun cdv A outer s H vs Q E hr h => ?_)
  obtain ⟨a, ns, v, rfl, hA, hv, q⟩ := h
  refine ⟨_, PSs.nox (pss_one (ps_ret (pe_op op_sub (pe_call (G_law_price T) (hr.mono (by decide)) (by rfl) T.g_law_price T.F_law_price.kp T.b_law_price .nil pass0 (pa_cons (pv 0) (pa_cons (pv 1) pa_nil))) (pe_callB (k_min K rfl rfl) (by rfl) T.n_min (by decide +kernel) (pa_cons (pe_lc (own := [("_law_one", 2)]) (g := gName 2) (tt := tYes) (by rfl) sc_law_lost.nd (pi_range1 (by rfl) T.n_range (pa_cons pe_int pa_nil)) (blkOk_by (own := [("_law_one", 2)]) (N := N_law_lost) (sc := defScope s_law_lost) (by decide +kernel)) (fun _ _ _ _ _ => (pg_name (i := 2) sc_law_lost.nd rfl (by first | exact Or.inl rfl | exact Or.inr rfl))) (fun _ _ _ _ _ => pts_nil) (fun _ _ _ _ _ => (pe_call (G_law_price T) (hr.mono (by decide)) (by rfl) T.g_law_price T.F_law_price.kp T.b_law_price .nil pass0 (pa_cons (pv 0) (pa_cons (pv 2) pa_nil))))) pa_nil))))), ?_⟩
  refine ⟨_, rfl, _, rfl, a, ns, v, rfl, hA, hv, ?_⟩
  refine ⟨_, rfl, by decide, by decide, fun D nD => ?_⟩
  refine lc_mapR (lo := 0) (n := 118) (((List.range 118).map fun (o : Nat) => price ns o).map V.int) nD (by rw [List.length_map, List.length_map, List.length_range]) (small1000 (by decide)) (fun x => rfl) ?_ ?_
  · intro j y H' hj hy s Qt qt
    rw [List.getElem?_map, List.getElem?_map, List.getElem?_range hj] at hy
    cases hy
    refine ⟨_, rfl, _, rfl, a, ns, j, ?_, s.seq hA, by omega, qt _ (Same.refl _)⟩
    show [V.ref a, V.int (0 + (j : Int))] = _
    rw [Int.zero_add]
  · intro H1 s1 hD
    refine ⟨D, _, rfl, .inl (.inl hD), by rw [List.length_map, List.length_range]; decide, fun M hM hle => ?_⟩
    obtain ⟨o, ho, rfl⟩ := List.mem_map.mp hM
    refine ⟨_, _, rfl, rfl, q _ _ s1 ⟨⟨o, List.mem_range.mp ho, rfl⟩, fun o' ho' => ?_⟩⟩
    have := hle (price ns o') (List.mem_map.mpr ⟨o', List.mem_range.mpr ho', rfl⟩)
    omega
end
end My

namespace My
open PySem PySem.Spec PyProof.Rows L2 Pre
theorem flat_next {α β : Type} (f : α → List β) (l : List α) (i : Nat) (x : α) (h : l[i]? = some x) : (l.take (i + 1)).flatMap f = (l.take i).flatMap f ++ f x := by
  rw [List.take_add_one, h, List.flatMap_append]
  simp
theorem RowsIn.app {H : Hp} {p p1 p2 : Addr} {r1 r2 : List (List Int)} {as bs : List Addr} (h1 : as.length = r1.length) (k1 : ∀ (i : Nat) (a : Addr) (r : List Int), as[i]? = some a → r1[i]? = some r → H a = some (.lst (r.map V.int)))
    (h2 : bs.length = r2.length) (k2 : ∀ (i : Nat) (a : Addr) (r : List Int), bs[i]? = some a → r2[i]? = some r → H a = some (.lst (r.map V.int))) (hp : H p = some (.lst (as.map V.ref ++ bs.map V.ref))) : RowsIn H p (r1 ++ r2) := by
  refine ⟨as ++ bs, by rw [hp, List.map_append], by rw [List.length_append, List.length_append, h1, h2], fun i a r ha hr => ?_⟩
  by_cases hi : i < as.length
  · rw [List.getElem?_append_left hi] at ha
    rw [List.getElem?_append_left (by omega)] at hr
    exact k1 i a r ha hr
  · rw [List.getElem?_append_right (by omega)] at ha
    rw [List.getElem?_append_right (by omega), ← h1] at hr
    exact k2 _ a r ha hr
section
variable {P : Program} {w : World} {K : PySem.W.Frag} {mg : Str → Option Value} {base : Heap}
def sp_rows (k : Nat) : Sp := fun vs H Q _ => ∃ (j t : Nat), vs = [.int ((j : Int) + 1), .int t] ∧ j < k ∧ j ≤ 3 ∧ t ≤ 12 ∧ ∀ H' p, Same H H' → RowsIn H' p (rowsK j t) → Q (.ref p) H'
theorem rows_fn (T : Top K mg) : ∀ k, FnOk P w K mg base CX0 k T.f_law_all_rows T.fd_law_all_rows ["_law_many", "_law_total"] (sp_rows k)
  | 0 => ⟨fun vs H Q E h => by obtain ⟨j, t, _, hj, _⟩ := h; omega, fun _ _ _ _ _ _ _ _ _ _ _ _ _ h => by obtain ⟨j, t, _, hj, _⟩ := h; omega⟩
  | k + 1 => by
    have ih := rows_fn T k
    refine T.F_law_all_rows.ok sc_law_all_rows (fun vs H Q E h => by obtain ⟨j, t, rfl, _⟩ := h; rfl) (fun cdv A outer s H vs Q E hr h => ?_)
    obtain ⟨j, t, rfl, hj, hj3, ht, q⟩ := h
    refine ⟨_, PSs.nox (pss_cons (ps_set (i := 2) sc_law_all_rows.nd rfl (by first | exact Or.inl rfl | exact Or.inr rfl) (pe_lst (pa_cons (pe_lst (pa_cons (pv 1) pa_nil)) pa_nil)))
  (pss_cons (ps_if (pt_cmpR op_gt (pv 0) pe_int (nomark _))
    (pss_cons (ps_set (i := 2) sc_law_all_rows.nd rfl (by first | exact Or.inl rfl | exact Or.inr rfl) (pe_lst pa_nil))
  (pss_one (ps_for PassesOwn.never rfl (pi_range1 (by rfl) T.n_range (pa_cons (pe_op op_add (pv 1) pe_int) pa_nil)) (pg_name (i := 3) sc_law_all_rows.nd rfl (by first | exact Or.inl rfl | exact Or.inr rfl))
    (pss_one (ps_set (i := 2) sc_law_all_rows.nd rfl (by first | exact Or.inl rfl | exact Or.inr rfl) (pe_op op_cat (pv 2) (pe_lc (own := [("_law_row", 4)]) (g := gName 4) (tt := tYes) (by rfl) sc_law_all_rows.nd (k_piL K rfl (pe_call ih hr (by rfl) T.g_law_all_rows T.F_law_all_rows.kp T.b_law_all_rows .nil pass0 (pa_cons (pe_op op_sub (pv 0) pe_int) (pa_cons (pe_op op_sub (pv 1) (pv 3)) pa_nil)))) (blkOk_by (own := [("_law_row", 4)]) (N := N_law_all_rows) (sc := defScope s_law_all_rows) (by decide +kernel)) (fun _ _ _ _ _ => (pg_name (i := 4) sc_law_all_rows.nd rfl (by first | exact Or.inl rfl | exact Or.inr rfl))) (fun _ _ _ _ _ => pts_nil) (fun _ _ _ _ _ => (pe_op op_cat (pe_lst (pa_cons (pv 3) pa_nil)) (pv 4))))))))))
    pss_nil)
  (pss_one (ps_ret (pv 2))))), ?_⟩
    refine ⟨_, rfl, (show 1 ≤ sizeLine by decide), fun c nc => ?_⟩
    obtain ⟨H1, e1, s1, h1⟩ := fresh (.lst [V.int (t : Int)]) nc
    rw [e1]
    refine ⟨(show 1 ≤ sizeLine by decide), fun f nf => ?_⟩
    obtain ⟨H2, e2, s2, h2⟩ := fresh (.lst [V.ref c]) nf
    rw [e2]
    refine ⟨_, rfl, _, _, rfl, rfl, _, rfl, ?_⟩
    cases j with
    | zero =>
      rw [decide_eq_false (by omega)]
      refine iteF ⟨_, rfl, q _ f (s1.trans s2) ⟨[c], h2, rfl, fun i a r ha hr => ?_⟩⟩
      have hi : i = 0 := by
        have := (List.getElem?_eq_some_iff.mp ha).1
        rw [List.length_singleton] at this
        omega
      subst hi
      cases ha
      cases hr
      exact s2 _ _ h1
    | succ j =>
      rw [decide_eq_true (show ((j + 1 : Nat) : Int) + 1 > 1 by omega)]
      refine iteT ⟨Nat.zero_le _, fun f2 nf2 => ?_⟩
      obtain ⟨H3, e3, s3, h3⟩ := fresh (.lst []) nf2
      rw [e3]
      have s13 := (s1.trans s2).trans s3
      refine ⟨_, rfl, _, _, rfl, rfl, _, rfl, by omega, by omega, ?_⟩
      have en : ((t : Int) + 1).toNat = t + 1 := by omega
      rw [en]
      have hlen := rowsK_len (j + 1) t ht
      have h13 : 13 ^ (j + 1) ≤ 13 ^ 3 := Nat.pow_le_pow_right (by decide) (by omega)
      refine for_range (lo := 0) (n := t + 1) (fun i σ H4 => ∃ (p : Addr) (v3 v4 : Option V), σ = [some (.int (((j + 1 : Nat) : Int) + 1)), some (.int t), some (.ref p), v3, v4] ∧ Same H H4 ∧ RowsIn H4 p (((List.range (t + 1)).take i).flatMap fun o => (rowsK j (t - o)).map fun r => (o : Int) :: r)) ⟨f2, none, none, rfl, s13, [], h3, rfl, fun i a r ha _ => by simp at ha⟩ ?_ ?_
      · rintro i σ H4 hi ⟨p, v3, v4, rfl, s4, as, hp, hal, hat⟩
        refine ⟨_, rfl, _, rfl, _, _, rfl, rfl, _, rfl, _, rfl, _, _, rfl, rfl, j, t - i, ?_, by omega, by omega, by omega, fun H5 p5 s5 hR5 => ?_⟩
        · show [V.int (((j + 1 : Nat) : Int) + 1 - 1), V.int ((t : Int) - (0 + (i : Int)))] = _
          rw [show ((j + 1 : Nat) : Int) + 1 - 1 = (j : Int) + 1 by omega, show (t : Int) - (0 + (i : Int)) = ((t - i : Nat) : Int) by omega]
        obtain ⟨bs, hp5, hbl, hbt⟩ := hR5
        have hS5 : SqL K H5 p5 (bs.map V.ref) := .inl (.inl hp5)
        have hjl := rowsK_len j (t - i) (by omega)
        have h13j : 13 ^ j ≤ 13 ^ 3 := Nat.pow_le_pow_right (by decide) (by omega)
        refine ⟨p5, rfl, ⟨_, hS5⟩, fun D nD => ?_⟩
        refine lc_relL (K := K) (xs := bs.map V.ref) (fun m y H' => ∃ c, y = .ref c ∧ c ≠ D ∧ ∀ r, (rowsK j (t - i))[m]? = some r → H' c = some (.lst (((i : Int) :: r).map V.int))) nD hS5 (by rw [List.length_map, sizeLine_eq]; omega) ?_ (fun x => rfl) ?_ ?_
        · rintro m y H6 H7 o ⟨c, rfl, nc, hc⟩
          exact ⟨c, rfl, nc, fun r hr => o _ _ nc (hc r hr)⟩
        · intro m x H' zs hx s hD Qt qt
          rw [List.getElem?_map] at hx
          obtain ⟨rb, hrb, rfl⟩ := Option.map_eq_some_iff.mp hx
          have hm : m < bs.length := (List.getElem?_eq_some_iff.mp hrb).1
          obtain ⟨r, hr⟩ : ∃ r, (rowsK j (t - i))[m]? = some r := ⟨_, List.getElem?_eq_getElem (by omega)⟩
          have hrb' := s _ _ (hbt m rb r hrb hr)
          refine ⟨_, rfl, (show 1 ≤ sizeLine by decide), fun c nc => ?_⟩
          obtain ⟨H6, e6, s6, h6⟩ := fresh (.lst [V.int (0 + (i : Int))]) nc
          rw [e6]
          refine ⟨_, rfl, c, rb, _, _, rfl, rfl, h6, s6 _ _ hrb', ?_, fun c2 nc2 => ?_⟩
          · rw [List.length_map, rowsK_row j (t - i) r (List.mem_of_getElem? hr), sizeLine_eq]
            show 1 + (j + 1) ≤ _
            omega
          · refine qt _ _ (s6.trans (same_upd nc2)) ⟨c2, rfl, (ne_of_none (s6 _ _ hD) nc2).symm, fun r' hr' => ?_⟩
            rw [hr] at hr'
            cases hr'
            rw [upd_same, Int.zero_add]
            rfl
        intro H6 ys s6 hD6 hyl hR6
        rw [List.length_map] at hyl
        have hex : ∀ m, m < ys.length → ∃ c, ys[m]? = some (V.ref c) ∧ ∀ r, (rowsK j (t - i))[m]? = some r → H6 c = some (.lst (((i : Int) :: r).map V.int)) := fun m hm => by
          obtain ⟨c, e, _, hc⟩ := hR6 m ys[m] (List.getElem?_eq_getElem hm)
          exact ⟨c, by rw [List.getElem?_eq_getElem hm, e], hc⟩
        have eys : ys = (ys.map fun y => match y with | .ref c => c | _ => 0).map V.ref := by
          rw [List.map_map]
          refine List.ext_getElem? fun m => ?_
          rw [List.getElem?_map]
          by_cases hm : m < ys.length
          · obtain ⟨c, e, _⟩ := hex m hm
            rw [e]
            rfl
          · rw [List.getElem?_eq_none (by omega)]
            rfl
        have hal2 := flat_len (fun o => (rowsK j (t - o)).map fun r => (o : Int) :: r) (13 ^ j) ((List.range (t + 1)).take i) (fun o _ => by rw [List.length_map]; exact rowsK_len j (t - o) (by omega))
        have htk : ((List.range (t + 1)).take i).length ≤ 13 := by rw [List.length_take, List.length_range]; omega
        have hb : ((List.range (t + 1)).take i).length * 13 ^ j ≤ 13 * 13 ^ 3 := Nat.mul_le_mul htk h13j
        refine ⟨p, D, _, _, rfl, rfl, s6 _ _ (s5 _ _ hp), hD6, by rw [List.length_map, sizeLine_eq]; omega, fun p7 np7 => ?_⟩
        obtain ⟨H7, e7, s7, h7⟩ := fresh (.lst (as.map V.ref ++ ys)) np7
        rw [e7]
        have s47 := (s5.trans s6).trans s7
        refine ⟨p7, some (.int (0 + (i : Int))), v4, rfl, s4.trans s47, ?_⟩
        rw [flat_next _ (List.range (t + 1)) i i (List.getElem?_range hi)]
        rw [eys] at h7
        refine RowsIn.app (p1 := p) (p2 := D) hal (fun m a r ha hr => s47 _ _ (hat m a r ha hr)) (by rw [List.length_map, List.length_map, hyl, hbl]) (fun m a r ha hr => ?_) h7
        rw [List.getElem?_map] at ha hr
        obtain ⟨y, hy, rfl⟩ := Option.map_eq_some_iff.mp ha
        obtain ⟨r', hr', rfl⟩ := Option.map_eq_some_iff.mp hr
        obtain ⟨c, e, hc⟩ := hex m (List.getElem?_eq_some_iff.mp hy).1
        rw [hy] at e
        cases e
        exact s7 _ _ (hc r' hr')
      · rintro σ H4 ⟨p, v3, v4, rfl, s4, hR⟩
        rw [List.take_of_length_le (by rw [List.length_range]; exact Nat.le_refl _)] at hR
        exact ⟨_, rfl, q _ p s4 hR⟩
theorem G_law_all_rows (T : Top K mg) : FnOk P w K mg base CX0 5 T.f_law_all_rows T.fd_law_all_rows ["_law_many", "_law_total"] (sp_rows 5) := rows_fn T 5
end
end My

namespace My
open PySem PySem.Spec PyProof.Rows L2 Pre
theorem bits_nat (t : Nat) : Builtin.Int.intBits (t : Int) = bitsN t := by
  unfold Builtin.Int.intBits bitsN
  by_cases h : t = 0
  · subst h; rfl
  · rw [if_neg h, if_neg (by simpa using h), Int.natAbs_natCast]
theorem at_last {α : Type} (xs : List α) (x : α) : atI (xs ++ [x]) (-1) = some x := by
  have e : ixN (xs ++ [x]).length (-1) = some xs.length := by
    unfold ixN
    rw [List.length_append]
    show (if (0 : Int) ≤ -1 then _ else _) = _
    rw [if_neg (by omega)]
    simp
    omega
  unfold atI
  rw [e]
  show (xs ++ [x])[xs.length]? = some x
  rw [List.getElem?_append_right (Nat.le_refl _), Nat.sub_self]
  rfl
section
variable {P : Program} {w : World} {K : PySem.W.Frag} {mg : Str → Option Value} {base : Heap}
def sp_law_small_right (K : PySem.W.Frag) : Sp := fun vs H Q _ => ∃ (j t : Nat), vs = [.int ((j : Int) + 1), .int t] ∧ j ≤ 3 ∧ t ≤ 11 ∧ smallB j t = true ∧ ∀ H', Same H H' → Q (.bl true) H'
theorem G_law_small_right (T : Top K mg) : FnOk P w K mg base CX0 6 T.f_law_small_right T.fd_law_small_right ["_law_many", "_law_total"] (sp_law_small_right K) := by
  refine T.F_law_small_right.ok sc_law_small_right (fun vs H Q E h => by obtain ⟨j, t, rfl, _⟩ := h; rfl) (fun cdv A outer s H vs Q E hr h => ?_)
  obtain ⟨j, t, rfl, hj, ht, hB, q⟩ := h
  refine ⟨_, PSs.nox (pss_cons (ps_par (by rfl) sc_law_small_right.nd (i := 3) (j := 4) rfl rfl (by decide) rfl rfl (pa_cons (pe_call (G_law_all_rows T) (hr.mono (by decide)) (by rfl) T.g_law_all_rows T.F_law_all_rows.kp T.b_law_all_rows .nil pass0 (pa_cons (pv 0) (pa_cons (pv 1) pa_nil))) (pa_cons (pe_lst pa_nil) pa_nil)) (by rfl))
  (pss_cons (ps_for PassesOwn.never rfl (pi_range1 (by rfl) T.n_range (pa_cons pe_int pa_nil)) (pg_name (i := 2) sc_law_small_right.nd rfl (by first | exact Or.inl rfl | exact Or.inr rfl))
    (pss_cons (ps_setLc (i := 5) (own := [("_law_row", 7)]) (g := gName 7) (tt := tYes) (by rfl) sc_law_small_right.nd rfl rfl (sw_true rfl rfl rfl (by decide +kernel)) (k_piL K rfl (pv 3)) (blkOk_by (own := [("_law_row", 7)]) (N := N_law_small_right) (sc := defScope s_law_small_right) (by decide +kernel)) (fun _ _ _ _ _ => (pg_name (i := 7) sc_law_small_right.nd rfl (by first | exact Or.inl rfl | exact Or.inr rfl))) (fun _ _ _ _ _ => pts_nil) (fun _ _ _ _ _ => (pe_op op_sub (pe_call (G_law_price T) (hr.mono (by decide)) (by rfl) T.g_law_price T.F_law_price.kp T.b_law_price .nil pass0 (pa_cons (pv 7) (pa_cons (pv 2) pa_nil))) (pe_callB (k_min K rfl rfl) (by rfl) T.n_min (by decide +kernel) (pa_cons (pe_lc (own := [("_law_one", 8)]) (g := gName 8) (tt := tYes) (by rfl) sc_law_small_right.nd (pi_range1 (by rfl) T.n_range (pa_cons pe_int pa_nil)) (blkOk_by (own := [("_law_one", 8)]) (N := N_law_small_right) (by kernel_rfl)) (fun _ _ _ _ _ => (pg_name (i := 8) sc_law_small_right.nd rfl (by first | exact Or.inl rfl | exact Or.inr rfl))) (fun _ _ _ _ _ => pts_nil) (fun _ _ _ _ _ => (pe_call (G_law_price T) (hr.mono (by decide)) (by rfl) T.g_law_price T.F_law_price.kp T.b_law_price .nil pass0 (pa_cons (pv 7) (pa_cons (pv 8) pa_nil))))) pa_nil)))))
  (pss_cons (ps_expr (pe_bm PySem.F.plainAttrs_list PySem.F.slot_list_append PySem.F.type_list_append mt_append (pv 4) (pa_cons (pe_callB (k_max K rfl rfl) (by rfl) T.n_max (by decide +kernel) (pa_cons (pv 5) pa_nil)) pa_nil)))
  (pss_cons (ps_set (i := 6) sc_law_small_right.nd rfl (by first | exact Or.inl rfl | exact Or.inr rfl) (pe_call (G_loss_row T) (hr.mono (by decide)) (by rfl) T.g_loss_row T.F_loss_row.kp T.b_loss_row .nil pass0 (pa_cons (pv 0) (pa_cons (pv 1) (pa_cons (pv 2) pa_nil)))))
  (pss_one (ps_if (PW.pt (pw_or (pt_cmpR op_ne (pe_call (G_loss T) (hr.mono (by decide)) (by rfl) T.g_loss T.F_loss.kp T.b_loss .nil pass0 (pa_cons (pv 0) (pa_cons (pv 1) (pa_cons (pv 2) pa_nil)))) (pe_ix (k_ixL K rfl) (pv 4) (pe_un un_neg pe_int) (fun _ _ => rfl)) (nomark _)) (pw_or (pt_cmpR (k_notInD K rfl (huD hr)) (pv 6) (pv 3) (by rfl)) (pw_or1 (pt_cmpR op_ne (pe_ix (k_ixL K rfl) (pv 5) (pe_bm PySem.F.plainAttrs_list PySem.F.slot_list_index PySem.F.type_list_index (k_indexD K rfl (huD hr)) (pv 3) (pa_cons (pv 6) pa_nil)) (fun _ _ => rfl)) (pe_ix (k_ixL K rfl) (pv 4) (pe_un un_neg pe_int) (fun _ _ => rfl)) (nomark _))))))
    (pss_one (ps_ret pe_bl))
    pss_nil))))))
  (pss_one (ps_ret (pe_cmpR (k_eqD K rfl hr.units) (pe_call (G_safest T) (hr.mono (by decide)) (by rfl) T.g_safest T.F_safest.kp T.b_safest .nil pass0 (pa_cons (pv 0) (pa_cons (pv 1) pa_nil))) (pe_tup (pa_cons (pe_bm PySem.F.plainAttrs_list PySem.F.slot_list_index PySem.F.type_list_index (k_index K rfl) (pv 4) (pa_cons (pe_callB (k_min K rfl rfl) (by rfl) T.n_min (by decide +kernel) (pa_cons (pv 4) pa_nil)) pa_nil)) (pa_cons (pe_callB (k_min K rfl rfl) (by rfl) T.n_min (by decide +kernel) (pa_cons (pv 4) pa_nil)) pa_nil))) (nomark _)))))), ?_⟩
  refine ⟨_, rfl, _, rfl, j, t, rfl, by omega, hj, by omega, fun H1 pr s1 hR => ?_⟩
  refine ⟨Nat.zero_le _, fun pl npl => ?_⟩
  obtain ⟨H2, e2, s2, h2⟩ := fresh (.lst []) npl
  rw [e2]
  refine ⟨_, _, rfl, ?_⟩
  have nHpl : H pl = none := s1.free npl
  obtain ⟨as, hpr, hal, hat⟩ := id hR
  have nprl : pr ≠ pl := ne_of_none hpr npl
  have hlen := rowsK_len j t (by omega)
  have h13 : 13 ^ j ≤ 13 ^ 3 := Nat.pow_le_pow_right (by decide) hj
  obtain ⟨hB1, hB2⟩ := Bool.and_eq_true_iff.mp hB
  refine ⟨_, rfl, by decide, by decide, ?_⟩
  refine for_range (lo := 0) (n := 7) (fun i σ H3 => ∃ (v2 v5 v6 v7 v8 : Option V), σ = [some (.int ((j : Int) + 1)), some (.int t), v2, some (.ref pr), some (.ref pl), v5, v6, v7, v8] ∧ Same H H3 ∧ (∀ b o, b ≠ pl → H2 b = some o → H3 b = some o) ∧ H3 pl = some (.lst (((List.range i).map fun (v : Nat) => maxI (lostL j t v)).map V.int))) ⟨none, none, none, none, none, rfl, s1.trans s2, (fun _ _ _ h => h), h2⟩ ?_ ?_
  · rintro v σ H3 hv ⟨v2, v5, v6, v7, v8, rfl, s3, k3, h3⟩
    have hB1v := List.all_eq_true.mp hB1 v (List.mem_range.mpr hv)
    obtain ⟨hBa, hBb⟩ := Bool.and_eq_true_iff.mp hB1v
    have hBa := of_decide_eq_true hBa
    have hpr3 := k3 _ _ nprl (s2 _ _ hpr)
    have nas : ∀ i a, as[i]? = some a → a ≠ pl := fun i a ha => by
      have hi : i < as.length := (List.getElem?_eq_some_iff.mp ha).1
      exact ne_of_none (hat i a _ ha (List.getElem?_eq_getElem (by omega))) npl
    have hat3 : ∀ (i : Nat) (a : Addr) (r : List Int), as[i]? = some a → (rowsK j t)[i]? = some r → H3 a = some (.lst (r.map V.int)) := fun i a r ha hr => k3 _ _ (nas i a ha) (s2 _ _ (hat i a r ha hr))
    have hS3 : SqL K H3 pr (as.map V.ref) := .inl (.inl hpr3)
    refine ⟨_, rfl, pr, rfl, ⟨_, hS3⟩, fun D nD => ?_⟩
    refine lc_mapL (K := K) (xs := as.map V.ref) ((lostL j t v).map V.int) nD hS3 (by unfold lostL; simp [hal]) (by rw [List.length_map, sizeLine_eq]; omega) (fun x => rfl) ?_ ?_
    · intro i x y H' hx hy s Qt qt
      rw [List.getElem?_map] at hx
      obtain ⟨ra, hra, rfl⟩ := Option.map_eq_some_iff.mp hx
      have hi : i < as.length := (List.getElem?_eq_some_iff.mp hra).1
      obtain ⟨r, hr⟩ : ∃ r, (rowsK j t)[i]? = some r := ⟨_, List.getElem?_eq_getElem (by omega)⟩
      unfold lostL at hy
      rw [List.getElem?_map, List.getElem?_map, hr] at hy
      cases hy
      have hra' : SqL K H' ra (r.map V.int) := .inl (.inl (s _ _ (hat3 i ra r hra hr)))
      refine ⟨_, rfl, _, rfl, ra, r, v, ?_, hra', by omega, ?_⟩
      · show [V.ref ra, V.int (0 + (v : Int))] = _
        rw [Int.zero_add]
      refine ⟨_, rfl, by decide, by decide, fun D2 nD2 => ?_⟩
      refine lc_mapR (lo := 0) (n := 7) (((List.range 7).map fun (o : Nat) => price r o).map V.int) nD2 (by rw [List.length_map, List.length_map, List.length_range]) (small1000 (by decide)) (fun x => rfl) ?_ ?_
      · intro m y2 H'' hm hy2 s' Qt2 qt2
        rw [List.getElem?_map, List.getElem?_map, List.getElem?_range hm] at hy2
        cases hy2
        refine ⟨_, rfl, _, rfl, ra, r, m, ?_, s'.seq hra', by omega, qt2 _ (Same.refl _)⟩
        show [V.ref ra, V.int (0 + (m : Int))] = _
        rw [Int.zero_add]
      · intro H5 s5 hD5
        refine ⟨D2, _, rfl, .inl (.inl hD5), by rw [List.length_map, List.length_range]; decide, fun M hM hle => ?_⟩
        rw [min_uniq hM hle]
        exact ⟨_, _, rfl, rfl, qt _ s5⟩
    intro H4 s4 hD4
    have h34 := s4 _ _ h3
    have nDpl : D ≠ pl := (ne_of_none h3 nD).symm
    have hne : 0 < (lostL j t v).length := by
      unfold lostL
      rw [List.length_map]
      have : ∀ j t, 0 < (rowsK j t).length := fun j => by
        induction j with
        | zero => intro t; simp [rowsK]
        | succ j ih =>
          intro t
          rw [List.length_pos_iff_exists_mem]
          obtain ⟨r, hr⟩ := List.length_pos_iff_exists_mem.mp (ih (t - 0))
          exact ⟨_, List.mem_flatMap.mpr ⟨0, by simp, List.mem_map.mpr ⟨r, hr, rfl⟩⟩⟩
      exact this j t
    refine ⟨_, rfl, .inl ⟨rfl, _, .inl (.inl h34)⟩, _, rfl, D, lostL j t v, rfl, .inl (.inl hD4), hne, fun M hM hle => ?_⟩
    rw [max_uniq hM hle]
    refine ⟨pl, _, _, rfl, rfl, h34, by rw [List.length_map, List.length_map, List.length_range]; exact small1000 (by omega), ?_⟩
    have eL : ((List.range v).map fun (v : Nat) => maxI (lostL j t v)).map V.int ++ [V.int (maxI (lostL j t v))] = ((List.range (v + 1)).map fun (v : Nat) => maxI (lostL j t v)).map V.int := by
      rw [List.range_succ, List.map_append, List.map_append]
      rfl
    rw [eL]
    have k5 : ∀ b o, b ≠ pl → H4 b = some o → (upd H4 pl (.lst (((List.range (v + 1)).map fun (v : Nat) => maxI (lostL j t v)).map V.int))) b = some o := fun b o nb hb => by rw [upd_ne nb]; exact hb
    have h5 : (upd H4 pl (.lst (((List.range (v + 1)).map fun (v : Nat) => maxI (lostL j t v)).map V.int))) pl = _ := upd_same
    have s5 : Same H (upd H4 pl (.lst (((List.range (v + 1)).map fun (v : Nat) => maxI (lostL j t v)).map V.int))) := same_over nHpl (s3.trans s4)
    generalize upd H4 pl (.lst (((List.range (v + 1)).map fun (v : Nat) => maxI (lostL j t v)).map V.int)) = H5 at k5 h5 s5
    have hD5 := k5 _ _ nDpl hD4
    have hpr5 := k5 _ _ nprl (s4 _ _ hpr3)
    have hat5 : ∀ (i : Nat) (a : Addr) (r : List Int), as[i]? = some a → (rowsK j t)[i]? = some r → H5 a = some (.lst (r.map V.int)) := fun i a r ha hr => k5 _ _ (nas i a ha) (s4 _ _ (hat3 i a r ha hr))
    have ev : (0 : Int) + (v : Int) = (v : Int) := by omega
    rw [ev]
    refine ⟨_, rfl, _, rfl, _, rfl, j + 1, t, v, rfl, by omega, by omega, by omega, by omega, by omega, fun H6 pt s6 npt hpt => ?_⟩
    rw [bits_nat] at hpt
    have h6 := s6 _ _ h5
    have aLast : atI (((List.range (v + 1)).map fun (v : Nat) => maxI (lostL j t v)).map V.int) (-1) = some (.int (maxI (lostL j t v))) := by
      rw [← eL]
      exact at_last _ _
    refine ⟨_, rfl, _, rfl, _, rfl, (j : Int) + 1, t, v, rfl, by omega, by omega, by omega, by omega, by omega, fun H7 s7 => ?_⟩
    rw [bits_nat, hBa]
    have h7 := s7 _ _ h6
    refine ⟨_, rfl, _, rfl, pl, _, _, _, rfl, rfl, .inl (.inl h7), aLast, rfl, _, rfl, ?_⟩
    rw [decide_eq_true rfl]
    refine iteF ?_
    have hpt7 := s7 _ _ hpt
    have hpr7 := s7 _ _ (s6 _ _ hpr5)
    have hat7 : ∀ (i : Nat) (a : Addr) (r : List Int), as[i]? = some a → (rowsK j t)[i]? = some r → H7 a = some (.lst (r.map V.int)) := fun i a r ha hr => s7 _ _ (s6 _ _ (hat5 i a r ha hr))
    cases hf : (rowsK j t).findIdx? (fun r => decide (r = rowF (j + 1) t v (bitsN t + 2))) with
    | none => rw [hf] at hBb; cases hBb
    | some ix =>
      rw [hf] at hBb
      have hBb := of_decide_eq_true hBb
      obtain ⟨hix, hix1, hix2⟩ := List.findIdx?_eq_some_iff_getElem.mp hf
      have hDr : Dp K H7 (.ref pr) (.list ((rowsK j t).map rowD)) := .lst (.inl (.inl hpr7)) (rows_dp hal hat7)
      have hDt : Dp K H7 (.ref pt) (rowD (rowF (j + 1) t v (bitsN t + 2))) := .lst (.inl (.inl hpt7)) (Pre.dp_ints _)
      refine ⟨_, rfl, _, rfl, _, _, hDt, hDr, shaped_ints _, rows_shaped _, _, rfl, ?_⟩
      have hin : (((rowsK j t).map rowD).any fun z => PyData.eqv z (rowD (rowF (j + 1) t v (bitsN t + 2)))) = true := by
        rw [List.any_map, List.any_eq_true]
        refine ⟨_, List.getElem_mem hix, ?_⟩
        show PyData.eqv (rowD _) (rowD _) = true
        rw [rowD_eqv]
        exact hix1
      rw [hin]
      refine iteF ?_
      have hzz : ((rowsK j t).map rowD)[ix]? = some (rowD (rowsK j t)[ix]) := by rw [List.getElem?_map, List.getElem?_eq_getElem hix]; rfl
      refine ⟨_, rfl, _, rfl, .inl ⟨rfl, _, .inl (.inl hpr7)⟩, _, rfl, pr, _, _, _, ix, _, rfl, rfl, hDr, hDt, rows_shaped _, shaped_ints _, hzz, ?_, ?_, ?_⟩
      · rw [rowD_eqv]
        exact hix1
      · intro m z' hm hz'
        rw [List.getElem?_map, List.getElem?_eq_getElem (by omega)] at hz'
        cases hz'
        show PyData.eqv (rowD _) (rowD _) = false
        rw [rowD_eqv]
        have := hix2 m hm
        simpa using this
      · have hil : ix < (lostL j t v).length := by unfold lostL; rw [List.length_map]; exact hix
        refine ⟨D, _, _, _, rfl, rfl, .inl (.inl (s7 _ _ (s6 _ _ hD5))), at_ints hil, _, rfl, _, rfl, pl, _, _, _, rfl, rfl, .inl (.inl h7), aLast, rfl, _, rfl, ?_⟩
        rw [hBb, decide_eq_true rfl]
        refine iteF ⟨_, _, _, _, _, rfl, (s5.trans s6).trans s7, fun b o nb hb => s7 _ _ (s6 _ _ (k5 _ _ nb (s4 _ _ (k3 _ _ nb hb)))), h7⟩
  · rintro σ H3 ⟨v2, v5, v6, v7, v8, rfl, s3, k3, h3⟩
    cases hf : ((List.range 7).map fun (v : Nat) => maxI (lostL j t v)).findIdx? (fun z => decide (z = minI ((List.range 7).map fun (v : Nat) => maxI (lostL j t v)))) with
    | none => rw [hf] at hB2; cases hB2
    | some ix =>
      rw [hf] at hB2
      have hB2 := of_decide_eq_true hB2
      obtain ⟨hix, hix1, hix2⟩ := List.findIdx?_eq_some_iff_getElem.mp hf
      refine ⟨_, rfl, _, rfl, (j : Int) + 1, t, rfl, by omega, by omega, by omega, by omega, fun H4 p4 s4 h4 => ?_⟩
      rw [bits_nat, hB2] at h4
      have h34 := s4 _ _ h3
      generalize ((List.range 7).map fun (v : Nat) => maxI (lostL j t v)) = L at *
      have hL : 0 < L.length := by omega
      have flat : (L.map V.int).all flatV = true := by
        rw [List.all_map, List.all_eq_true]
        intro x _
        rfl
      refine ⟨_, rfl, .inl ⟨rfl, _, .inl (.inl h34)⟩, _, rfl, pl, L, rfl, .inl (.inl h34), hL, fun M hM hle => ?_⟩
      rw [min_uniq hM hle]
      refine ⟨pl, L.map V.int, .int (minI L), ix, .int L[ix], rfl, rfl, .inl (.inl h34), rfl, flat, by rw [List.getElem?_map, List.getElem?_eq_getElem hix]; rfl, ?_, ?_, ?_⟩
      · show (L[ix] == minI L) = true
        exact beq_iff_eq.mpr (of_decide_eq_true hix1)
      · intro m z' hm hz'
        rw [List.getElem?_map, List.getElem?_eq_getElem (by omega)] at hz'
        cases hz'
        show (L[m] == minI L) = false
        have := hix2 m hm
        rw [beq_eq_false_iff_ne]
        intro z
        exact this (decide_eq_true z)
      · refine ⟨_, rfl, pl, L, rfl, .inl (.inl h34), hL, fun M2 hM2 hle2 => ?_⟩
        rw [min_uniq hM2 hle2]
        refine ⟨(show 2 ≤ sizeLine by decide), fun p5 np5 => ?_⟩
        refine eq_tup (ns := [(ix : Int), minI L]) (.inl (.inl (same_upd np5 _ _ h4))) (.inl (.inl upd_same)) ?_
        exact q _ ((s3.trans s4).trans (same_upd np5))
end
end My

namespace My
open PySem PySem.Spec PyProof.Rows L2 Pre
section
variable {P : Program} {w : World} {K : PySem.W.Frag} {mg : Str → Option Value} {base : Heap}
def sp_law_drawn_row : Sp := fun vs H Q _ => ∃ (g : Addr) (m n : Nat) (t : Int), vs = [.ref g, .int m, .int t] ∧ GenAt H g n ∧ n ≤ 10 ^ 8 ∧ 1 ≤ m ∧ m ≤ 100 ∧ 0 ≤ t ∧ t < 2 ^ 60 ∧ ∀ H' p ns, H p = none → But g H H' → GenAt H' g (n + 100000) → H' p = some (.lst (ns.map V.int)) → Row m t ns → Q (.ref p) H'
theorem G_law_drawn_row (T : Top K mg) : FnOk P w K mg base CX0 3 T.f_law_drawn_row T.fd_law_drawn_row ["_law_generator_here", "_law_many", "_law_total"] sp_law_drawn_row := by
  refine T.F_law_drawn_row.ok sc_law_drawn_row (fun vs H Q E h => by obtain ⟨g, m, n, t, rfl, _⟩ := h; rfl) (fun cdv A outer s H vs Q E hr h => ?_)
  obtain ⟨g, m, n, t, rfl, hG, hn, hm, hm2, ht, ht2, q⟩ := h
  refine ⟨_, PSs.nox (pss_cons (ps_par3 (by rfl) sc_law_drawn_row.nd (i := 4) (j := 5) (l := 6) rfl rfl rfl (by decide) (by decide) (by decide) rfl rfl rfl (pa_cons (pe_op op_rep (pe_lst (pa_cons pe_int pa_nil)) (pv 1)) (pa_cons (pv 2) (pa_cons (pe_call (G_law_random T) (hr.mono (by decide)) (by rfl) T.g_law_random T.F_law_random.kp T.b_law_random .nil pass0 (pa_cons (pv 0) (pa_cons pe_int pa_nil))) pa_nil))) (by rfl))
  (pss_cons (ps_for PassesOwn.never rfl (pi_range1 (by rfl) T.n_range (pa_cons (pv 1) pa_nil)) (pg_name (i := 3) sc_law_drawn_row.nd rfl (by first | exact Or.inl rfl | exact Or.inr rfl))
    (pss_cons (ps_set (i := 7) sc_law_drawn_row.nd rfl (by first | exact Or.inl rfl | exact Or.inr rfl) (pe_ix (k_ixL K rfl) (pe_lst (pa_cons (pe_op op_fdivW (pv 5) (pe_op op_sub (pv 1) (pv 3))) (pa_cons (pe_call (G_law_random T) (hr.mono (by decide)) (by rfl) T.g_law_random T.F_law_random.kp T.b_law_random .nil pass0 (pa_cons (pv 0) (pa_cons (pe_op op_add (pv 5) pe_int) pa_nil))) (pa_cons (pe_op op_mul (pv 5) (pe_callTy call_int1 (by rfl) T.n_int (by decide +kernel) (pa_cons (pe_cmpR op_eq (pv 3) (pe_op op_sub (pv 1) pe_int) (nomark _)) pa_nil))) pa_nil)))) (pv 6) (fun _ _ => rfl)))
  (pss_cons (ps_if (PW.pt (pw_and (pt_cmpR op_eq (pv 6) pe_int (nomark _)) (pw_and1 (pt_cmpR op_eq (pv 3) (pe_op op_sub (pv 1) pe_int) (nomark _)))))
    (pss_one (ps_set (i := 7) sc_law_drawn_row.nd rfl (by first | exact Or.inl rfl | exact Or.inr rfl) (pv 5)))
    pss_nil)
  (pss_cons (ps_asg (pv 7) (pg_sub (pv 4) (pv 3) set_list))
  (pss_one (ps_set (i := 5) sc_law_drawn_row.nd rfl (by first | exact Or.inl rfl | exact Or.inr rfl) (pe_op op_sub (pv 5) (pv 7))))))))
  (pss_one (ps_ret (pv 4))))), ?_⟩
  refine ⟨(show 1 ≤ sizeLine by decide), fun z nz => ?_⟩
  obtain ⟨H1, e1, s1, h1⟩ := fresh (.lst [V.int 0]) nz
  rw [e1]
  refine ⟨_, rfl, z, _, _, rfl, rfl, h1, by omega, by omega, by rw [Int.toNat_natCast]; show 1 * m ≤ _; rw [sizeLine_eq]; omega, fun f nf => ?_⟩
  rw [Int.toNat_natCast, rep0]
  obtain ⟨H2, e2, s2, h2⟩ := fresh (.lst ((List.replicate m (0 : Int)).map V.int)) nf
  rw [e2]
  have nHf : H f = none := s1.free nf
  have nfg : f ≠ g := (hG.same s1).ne nf
  refine ⟨_, rfl, _, rfl, g, _, _, rfl, (hG.same s1).same s2, by omega, by decide, small_2900 (by decide), fun kd H3 k0 k1 g3 b3 => ?_⟩
  refine ⟨_, _, _, rfl, ?_⟩
  refine ⟨_, rfl, _, rfl, by omega, by omega, ?_⟩
  rw [Int.toNat_natCast]
  have b03 : But g H H3 := (But.of (s1.trans s2)).trans b3
  refine for_range (lo := 0) (n := m) (fun i σ H4 => ∃ (v3 v7 : Option V) (xs : List Int) (l : Int), σ = [some (.ref g), some (.int m), some (.int t), v3, some (.ref f), some (.int l), some (.int kd), v7] ∧ But g H H4 ∧ GenAt H4 g (n + 100 + 100 * i) ∧ H4 f = some (.lst ((xs ++ List.replicate (m - i) 0).map V.int)) ∧ xs.length = i ∧ (∀ x ∈ xs, 0 ≤ x) ∧ xs.sum = t - l ∧ 0 ≤ l ∧ l ≤ t ∧ (i = m → l = 0))
    ⟨none, none, [], t, rfl, b03, g3, b3 _ _ nfg h2, rfl, (fun _ h => nomatch h), by show (0 : Int) = _; omega, ht, Int.le_refl _, by omega⟩ ?_ ?_
  · rintro i σ H4 hi ⟨v3, v7, xs, l, rfl, b4, g4, hf4, hxl, hxn, hxs, hl0, hlt, _⟩
    have hd : (0 : Int) < (m : Int) - (0 + (i : Int)) := by omega
    refine ⟨_, rfl, _, rfl, _, rfl, _, _, rfl, rfl, _, _, rfl, rfl, wide_div (b := 60) hd (by omega) (by decide) (by decide), ?_⟩
    refine ⟨_, rfl, _, rfl, _, _, rfl, rfl, g, _, _, rfl, g4, by omega, by omega, small_2900 (by omega), fun r1 H5 r10 r11 g5 b5 => ?_⟩
    refine ⟨_, rfl, _, rfl, _, rfl, _, _, rfl, rfl, rfl, .inr ⟨_, rfl, ?_⟩⟩
    refine ⟨_, _, rfl, rfl, .inl ⟨by omega, by omega⟩, (show 3 ≤ sizeLine by decide), fun c nc => ?_⟩
    have hdec : decide (V.int (0 + (i : Int)) = V.int ((m : Int) - 1)) = decide (i + 1 = m) := by
      by_cases e : i + 1 = m
      · rw [decide_eq_true e, decide_eq_true (congrArg V.int (by omega))]
      · rw [decide_eq_false e, decide_eq_false (fun z => e (by have := V.int.inj z; omega))]
    dsimp only
    rw [hdec]
    obtain ⟨H6, e6, s6, h6⟩ := fresh (.lst [V.int (l / ((m : Int) - (0 + (i : Int)))), V.int r1, V.int (l * (if decide (i + 1 = m) = true then 1 else 0))]) nc
    rw [e6]
    have hq0 : 0 ≤ l / ((m : Int) - (0 + (i : Int))) := Int.ediv_nonneg hl0 (by omega)
    have hq1 : l / ((m : Int) - (0 + (i : Int))) ≤ l := Int.ediv_le_self _ hl0
    have hx : ∃ y : Int, atI [V.int (l / ((m : Int) - (0 + (i : Int)))), V.int r1, V.int (l * (if decide (i + 1 = m) = true then 1 else 0))] kd = some (.int y) ∧ 0 ≤ y ∧ y ≤ l ∧ (i + 1 = m → kd ≠ 1 → y = l) := by
      have hk : kd = 0 ∨ kd = 1 ∨ kd = 2 := by omega
      rcases hk with rfl | rfl | rfl
      · refine ⟨_, rfl, hq0, hq1, fun e _ => ?_⟩
        rw [show (m : Int) - (0 + (i : Int)) = 1 by omega, Int.ediv_one]
      · exact ⟨_, rfl, r10, by omega, fun _ z => absurd rfl z⟩
      · refine ⟨_, rfl, ?_, ?_, fun e _ => ?_⟩
        · by_cases e : i + 1 = m
          · rw [decide_eq_true e, if_pos rfl]; omega
          · rw [decide_eq_false e, if_neg (by decide)]; omega
        · by_cases e : i + 1 = m
          · rw [decide_eq_true e, if_pos rfl]; omega
          · rw [decide_eq_false e, if_neg (by decide)]; omega
        · rw [decide_eq_true e, if_pos rfl]; omega
    obtain ⟨y, ay, y0, y1, y2⟩ := hx
    refine ⟨_, rfl, c, _, _, _, rfl, rfl, .inl (.inl h6), ay, ?_⟩
    have b46 : But g H4 H6 := b5.same s6
    have hf6 := b46 _ _ nfg hf4
    have g6 := g5.same s6
    have hfl : (xs ++ List.replicate (m - i) (0 : Int)).length = m := by rw [List.length_append, List.length_replicate, hxl]; omega
    have ixi : ixN ((xs ++ List.replicate (m - i) (0 : Int)).map V.int).length (0 + (i : Int)) = some i := by
      rw [Int.zero_add]
      exact ix_ints (by omega)
    have setx : ∀ y' : Int, ((xs ++ List.replicate (m - i) (0 : Int)).map V.int).set i (.int y') = ((xs ++ [y']) ++ List.replicate (m - (i + 1)) 0).map V.int := fun y' => by
      rw [show m - i = (m - (i + 1)) + 1 by omega, List.replicate_succ, ← List.map_set, List.set_append_right _ _ (by omega), hxl, Nat.sub_self, List.set_cons_zero, List.append_assoc]
      rfl
    have bfin : ∀ o : HO, But g H (upd H6 f o) := fun o b u nb hb => by
      rw [upd_ne (ne_of_none hb nHf)]
      exact b46 _ _ nb (b4 _ _ nb hb)
    have gfin : ∀ o : HO, GenAt (upd H6 f o) g (n + 100 + 100 * (i + 1)) := fun o => by
      obtain ⟨a1, a2, a3, e, r⟩ := g6
      exact ⟨a1, a2, a3, by rw [upd_ne nfg.symm]; exact e, by omega⟩
    refine ⟨_, rfl, rfl, _, rfl, ?_⟩
    by_cases hk1 : kd = 1
    · rw [decide_eq_true (congrArg V.int hk1)]
      refine iteT ⟨_, rfl, _, rfl, _, _, rfl, rfl, rfl, _, rfl, ?_⟩
      rw [hdec]
      by_cases e : i + 1 = m
      · rw [decide_eq_true e]
        refine iteT ⟨_, rfl, ?_⟩
        refine ⟨_, rfl, _, rfl, _, rfl, f, _, _, i, rfl, rfl, hf6, ixi, ?_⟩
        refine ⟨_, rfl, _, rfl, _, _, rfl, rfl, some (.int (0 + (i : Int))), some (.int l), xs ++ [l], l - l, rfl, bfin _, gfin _, ?_, by rw [List.length_append, hxl]; rfl, ?_, ?_, by omega, by omega, (fun _ => by omega)⟩
        · rw [upd_same, setx]
        · intro x hx
          rcases List.mem_append.mp hx with hx | hx
          · exact hxn x hx
          · rw [List.mem_singleton.mp hx]; omega
        · rw [List.sum_append, List.sum_singleton]; omega
      · rw [decide_eq_false e]
        refine iteF ?_
        refine ⟨_, rfl, _, rfl, _, rfl, f, _, _, i, rfl, rfl, hf6, ixi, ?_⟩
        refine ⟨_, rfl, _, rfl, _, _, rfl, rfl, some (.int (0 + (i : Int))), some (.int y), xs ++ [y], l - y, rfl, bfin _, gfin _, ?_, by rw [List.length_append, hxl]; rfl, ?_, ?_, by omega, by omega, (fun z => absurd z e)⟩
        · rw [upd_same, setx]
        · intro x hx
          rcases List.mem_append.mp hx with hx | hx
          · exact hxn x hx
          · rw [List.mem_singleton.mp hx]; omega
        · rw [List.sum_append, List.sum_singleton]; omega
    · rw [decide_eq_false (fun z => hk1 (V.int.inj z))]
      refine iteF ?_
      refine ⟨_, rfl, _, rfl, _, rfl, f, _, _, i, rfl, rfl, hf6, ixi, ?_⟩
      refine ⟨_, rfl, _, rfl, _, _, rfl, rfl, some (.int (0 + (i : Int))), some (.int y), xs ++ [y], l - y, rfl, bfin _, gfin _, ?_, by rw [List.length_append, hxl]; rfl, ?_, ?_, by omega, by omega, (fun z => by have := y2 z hk1; omega)⟩
      · rw [upd_same, setx]
      · intro x hx
        rcases List.mem_append.mp hx with hx | hx
        · exact hxn x hx
        · rw [List.mem_singleton.mp hx]; omega
      · rw [List.sum_append, List.sum_singleton]; omega
  · rintro σ H4 ⟨v3, v7, xs, l, rfl, b4, g4, hf4, hxl, hxn, hxs, hl0, hlt, hlm⟩
    rw [Nat.sub_self, List.replicate_zero, List.append_nil] at hf4
    exact ⟨_, rfl, q _ f xs nHf b4 (g4.mono (by omega)) hf4 ⟨hxl, by have := hlm rfl; omega, hxn⟩⟩
end
end My

namespace My
open PySem PySem.Spec PyProof.Rows L2 Pre
theorem lost_le {m : Nat} {t : Int} {ns : List Int} (h : Row m t ns) {b : Nat} (hb : t < 2 ^ b) {o : Nat} {z : Int} (hz : IsLost ns o 118 z) : z ≤ lossF m t o (b + 2) := by
  obtain ⟨⟨o', _, rfl⟩, _⟩ := hz
  exact loss_ge h hb o o'
theorem lost_row {m : Nat} {t : Int} (hm : 1 ≤ m) (ht : 0 ≤ t) {b : Nat} (hb : t < 2 ^ b) {o : Nat} {z : Int} (hb2 : b ≤ 100) (ho : o < 118) (hz : IsLost (rowF m t o (b + 2)) o 118 z) : z = lossF m t o (b + 2) := by
  obtain ⟨h1, o', h2, h3⟩ := rowF_ok hm ht o (b + 2) (by omega)
  have h4 := lost_le h1 hb hz
  have h5 := hz.2 o' (by omega)
  omega
local macro_rules | `(tactic| walk_at "go") => `(tactic| repeat (first | refine ⟨_, rfl, ?_⟩ | refine ⟨_, _, rfl, rfl, ?_⟩ | refine ⟨_, _, rfl, ?_⟩ | refine ⟨rfl, ?_⟩ | refine iteT ?_ | refine iteF ?_ | refine .inl ⟨_, rfl, ?_⟩ | refine .inr ⟨_, rfl, ?_⟩ | refine iteET (by omega) ?_ | refine iteEF (by omega) ?_ | refine iteENT (by omega) ?_ | refine iteENF (by omega) ?_ | refine iteDT (by omega) ?_ | refine iteDF (by omega) ?_ | refine iteNT (by omega) ?_ | refine iteNF (by omega) ?_))
local macro_rules | `(tactic| walk_at "b") => `(tactic| try dsimp (config := { proj := false, iota := false, eta := false, zeta := false }) only)
section
variable {P : Program} {w : World} {K : PySem.W.Frag} {mg : Str → Option Value} {base : Heap}
def sp_law_great_right (K : PySem.W.Frag) : Sp := fun vs H Q _ => ∃ (g : Addr) (m n : Nat) (t : Int), vs = [.ref g, .int m, .int t] ∧ GenAt H g n ∧ n ≤ 10 ^ 6 ∧ 1 ≤ m ∧ m ≤ 100 ∧ 0 ≤ t ∧ t < 2 ^ 50 ∧ ∀ H', But g H H' → Q (.bl true) H'
theorem G_law_great_right (T : Top K mg) : FnOk P w K mg base CX0 6 T.f_law_great_right T.fd_law_great_right ["_law_generator_here", "_law_many", "_law_total"] (sp_law_great_right K) := by
  refine T.F_law_great_right.ok sc_law_great_right (fun vs H Q E h => by obtain ⟨g, m, n, t, rfl, _⟩ := h; rfl) (fun cdv A outer s H vs Q E hr h => ?_)
  obtain ⟨g, m, n, t, rfl, hG, hn, hm, hm2, ht, ht2, q⟩ := h
  refine ⟨_, PSs.nox (pss_cons (ps_asg (pe_call (G_safest T) (hr.mono (by decide)) (by rfl) T.g_safest T.F_safest.kp T.b_safest .nil pass0 (pa_cons (pv 1) (pa_cons (pv 2) pa_nil))) (k_pgT K rfl (by rfl) (pgs_cons (pg_name (i := 4) sc_law_great_right.nd rfl (by first | exact Or.inl rfl | exact Or.inr rfl)) (pgs_cons (pg_name (i := 5) sc_law_great_right.nd rfl (by first | exact Or.inl rfl | exact Or.inr rfl)) pgs_nil))))
  (pss_cons (ps_if (pt_cmpR op_ne (pe_call (G_loss T) (hr.mono (by decide)) (by rfl) T.g_loss T.F_loss.kp T.b_loss .nil pass0 (pa_cons (pv 1) (pa_cons (pv 2) (pa_cons (pv 4) pa_nil)))) (pv 5) (nomark _))
    (pss_one (ps_ret pe_bl))
    pss_nil)
  (pss_cons (ps_for PassesOwn.never rfl (pi_range1 (by rfl) T.n_range (pa_cons (pe_op op_add (pe_bits (pv 2)) pe_int) pa_nil)) (pg_name (i := 3) sc_law_great_right.nd rfl (by first | exact Or.inl rfl | exact Or.inr rfl))
    (pss_one (ps_if (pt_cmpR op_lt (pe_call (G_loss T) (hr.mono (by decide)) (by rfl) T.g_loss T.F_loss.kp T.b_loss .nil pass0 (pa_cons (pv 1) (pa_cons (pv 2) (pa_cons (pv 3) pa_nil)))) (pe_op op_add (pv 5) (pe_callTy call_int1 (by rfl) T.n_int (by decide +kernel) (pa_cons (pe_cmpR op_lt (pv 3) (pv 4) (nomark _)) pa_nil))) (nomark _))
    (pss_one (ps_ret pe_bl))
    pss_nil)))
  (pss_cons (ps_for PassesOwn.never rfl (k_piL K rfl (pe_lst (pa_cons (pv 4) (pa_cons (pe_op op_add (pv 4) pe_int) (pa_cons (pe_callB (call_max2 rfl) (by rfl) T.n_max (by decide +kernel) (pa_cons pe_int (pa_cons (pe_op op_sub (pv 4) pe_int) pa_nil))) (pa_cons (pe_call (G_law_random T) (hr.mono (by decide)) (by rfl) T.g_law_random T.F_law_random.kp T.b_law_random .nil pass0 (pa_cons (pv 0) (pa_cons pe_int pa_nil))) pa_nil)))))) (pg_name (i := 3) sc_law_great_right.nd rfl (by first | exact Or.inl rfl | exact Or.inr rfl))
    (pss_cons (ps_par (by rfl) sc_law_great_right.nd (i := 7) (j := 8) rfl rfl (by decide) rfl rfl (pa_cons (pe_call (G_loss T) (hr.mono (by decide)) (by rfl) T.g_loss T.F_loss.kp T.b_loss .nil pass0 (pa_cons (pv 1) (pa_cons (pv 2) (pa_cons (pv 3) pa_nil)))) (pa_cons (pe_call (G_loss_row T) (hr.mono (by decide)) (by rfl) T.g_loss_row T.F_loss_row.kp T.b_loss_row .nil pass0 (pa_cons (pv 1) (pa_cons (pv 2) (pa_cons (pv 3) pa_nil)))) pa_nil)) (by rfl))
  (pss_cons (ps_if (PW.pt (pw_or (pt_cmpR op_ne (pe_callB (k_len K rfl) (by rfl) T.n_len (by decide +kernel) (pa_cons (pv 8) pa_nil)) (pv 1) (nomark _)) (pw_or (pt_cmpR op_ne (pe_callB (k_sum K rfl rfl) (by rfl) T.n_sum (by decide +kernel) (pa_cons (pv 8) pa_nil)) (pv 2) (nomark _)) (pw_or (pt_cmpR op_lt (pe_callB (k_min K rfl rfl) (by rfl) T.n_min (by decide +kernel) (pa_cons (pv 8) pa_nil)) pe_int (nomark _)) (pw_or1 (pt_cmpR op_ne (pe_call (G_law_lost T) (hr.mono (by decide)) (by rfl) T.g_law_lost T.F_law_lost.kp T.b_law_lost .nil pass0 (pa_cons (pv 8) (pa_cons (pv 3) pa_nil))) (pv 7) (nomark _)))))))
    (pss_one (ps_ret pe_bl))
    pss_nil)
  (pss_one (ps_for PassesOwn.never rfl (pi_range1 (by rfl) T.n_range (pa_cons pe_int pa_nil)) (pg_name (i := 6) sc_law_great_right.nd rfl (by first | exact Or.inl rfl | exact Or.inr rfl))
    (pss_one (ps_if (pt_cmpR op_gt (pe_call (G_law_lost T) (hr.mono (by decide)) (by rfl) T.g_law_lost T.F_law_lost.kp T.b_law_lost .nil pass0 (pa_cons (pe_call (G_law_drawn_row T) (hr.mono (by decide)) (by rfl) T.g_law_drawn_row T.F_law_drawn_row.kp T.b_law_drawn_row .nil pass0 (pa_cons (pv 0) (pa_cons (pv 1) (pa_cons (pv 2) pa_nil)))) (pa_cons (pv 3) pa_nil))) (pv 7) (nomark _))
    (pss_one (ps_ret pe_bl))
    pss_nil)))))))
  (pss_one (ps_ret pe_bl)))))), ?_⟩
  have hbt := bits_lt ht
  have hbb := bits_le (m := 50) (t := t) (by omega)
  refine ⟨_, rfl, _, rfl, (m : Int), t, rfl, by omega, by omega, ht, by omega, fun H1 p1 s1 h1 => ?_⟩
  obtain ⟨v, hv, ev, hsafe⟩ := safe_spec (m := m) hm ht hbt
  rw [ev] at h1
  refine ⟨p1, _, rfl, .inl (.inl h1), rfl, _, _, rfl, _, _, rfl, rfl, ?_⟩
  dsimp only
  walk_at "go"
  refine ⟨(m : Int), t, v, rfl, by omega, by omega, ht, by omega, by omega, fun H2 s2 => ?_⟩
  walk_at "go"
  refine ⟨by omega, by omega, ?_⟩
  have s02 := s1.trans s2
  have hG2 := hG.same s02
  have eb : (((Builtin.Int.intBits t : Nat) : Int) + 3).toNat = Builtin.Int.intBits t + 3 := by omega
  rw [eb]
  refine for_range (lo := 0) (n := Builtin.Int.intBits t + 3) (fun i σ H3 => ∃ (v3 : Option V), σ = [some (.ref g), some (.int m), some (.int t), v3, some (.int v), some (.int (lossF m t v (Builtin.Int.intBits t + 2))), none, none, none] ∧ Same H H3) ⟨none, rfl, s02⟩ ?_ ?_
  · rintro i σ H3 hi ⟨v3, rfl, s3⟩
    walk_at "go"
    refine ⟨(m : Int), t, i, ?_, by omega, by omega, ht, by omega, by omega, fun H4 s4 => ?_⟩
    · rw [Int.zero_add]; rfl
    have h5 := hsafe i hi
    rw [show (0 : Int) + (i : Int) = i by omega]
    walk_at "go"
    dsimp only
    rw [int_if]
    have h6 : (if (i : Int) < (v : Int) then (1 : Int) else 0) = if i < v then 1 else 0 := by
      by_cases h : i < v
      · rw [if_pos h, if_pos (by omega)]
      · rw [if_neg h, if_neg (by omega)]
    rw [h6]
    refine iteDF (by omega) ?_
    exact ⟨_, rfl, s3.trans s4⟩
  · rintro σ H3 ⟨v3, rfl, s3⟩
    have hG3 := hG.same s3
    walk_at "go"
    refine ⟨g, _, _, rfl, hG3, by omega, by decide, small_2900 (by decide), fun r H4 r0 r1 g4 b4 => ?_⟩
    refine ⟨(show 4 ≤ sizeLine by decide), fun pl npl => ?_⟩
    walk_at "go"
    obtain ⟨ws, ews, hws⟩ : ∃ ws : List Nat, [V.int v, V.int (v + 1), V.int (if (v : Int) - 1 > 0 then (v : Int) - 1 else 0), V.int r] = ws.map (fun (x : Nat) => V.int x) ∧ ∀ x ∈ ws, x ≤ 100 := by
      refine ⟨[v, v + 1, v - 1, r.toNat], ?_, ?_⟩
      · show _ = [V.int (v : Nat), V.int ((v + 1 : Nat) : Int), V.int ((v - 1 : Nat) : Int), V.int ((r.toNat : Nat) : Int)]
        have e1 : (if (v : Int) - 1 > 0 then (v : Int) - 1 else 0) = ((v - 1 : Nat) : Int) := by
          by_cases h : (v : Int) - 1 > 0
          · rw [if_pos h]; omega
          · rw [if_neg h]; omega
        rw [e1, Int.toNat_of_nonneg r0]
        rfl
      · intro x hx
        simp only [List.mem_cons, List.not_mem_nil, or_false] at hx
        omega
    walk_at "b"
    rw [ews]
    obtain ⟨H5, e5, s5, h5⟩ := fresh (.lst (ws.map (fun (x : Nat) => V.int x))) npl
    rw [e5]
    have npg : pl ≠ g := g4.ne npl
    refine ⟨⟨_, .inl (.inl h5)⟩, for_list (K := K) (a := pl) (xs := ws.map (fun (x : Nat) => V.int x)) (fun i σ H6 => ∃ (v3 v6 v7 v8 : Option V), σ = [some (.ref g), some (.int m), some (.int t), v3, some (.int v), some (.int (lossF m t v (Builtin.Int.intBits t + 2))), v6, v7, v8] ∧ But g H H6 ∧ GenAt H6 g (n + 100 + 200000 * i) ∧ H6 pl = some (.lst (ws.map (fun (x : Nat) => V.int x)))) ⟨v3, none, none, none, rfl, ((But.of s3).trans b4).same s5, g4.same s5, h5⟩ (fun i σ H2 _ ⟨_, _, _, _, _, _, _, s⟩ => .inl (.inl s)) ?_ ?_⟩
    · rintro i x σ H6 hx ⟨v3, v6, v7, v8, rfl, b6, g6, h6⟩
      rw [List.getElem?_map] at hx
      obtain ⟨o, ho, rfl⟩ := Option.map_eq_some_iff.mp hx
      have hi := (List.getElem?_eq_some_iff.mp ho).1
      have ho2 := hws o (List.mem_of_getElem? ho)
      have hi4 : i < 4 := by
        have := congrArg List.length ews
        rw [List.length_map] at this
        simp at this
        omega
      walk_at "go"
      refine ⟨(m : Int), t, o, rfl, by omega, by omega, ht, by omega, by omega, fun H7 s7 => ?_⟩
      walk_at "go"
      refine ⟨m, t, o, rfl, by omega, by omega, ht, by omega, by omega, fun H8 p8 s8 np8 h8 => ?_⟩
      obtain ⟨⟨rl, rs, rp⟩, rx⟩ := rowF_ok hm ht o (Builtin.Int.intBits t + 2) (by omega)
      walk_at "go"
      refine ⟨p8, _, rfl, .inl (.inl (.inl h8)), ?_⟩
      walk_at "go"
      rw [List.length_map, rl]
      walk_at "go"
      refine ⟨p8, _, rfl, .inl (.inl h8), ?_⟩
      walk_at "go"
      refine ⟨p8, _, rfl, .inl (.inl h8), by omega, fun M hM hle => ?_⟩
      have hM0 := rp M hM
      walk_at "go"
      refine ⟨p8, _, o, rfl, .inl (.inl h8), by omega, fun z H9 s9 hz => ?_⟩
      have ez := lost_row (m := m) hm ht hbt (o := o) (b := Builtin.Int.intBits t) (by omega) (by omega) hz
      walk_at "go"
      refine ⟨by decide, by decide, ?_⟩
      have s69 := (s7.trans s8).trans s9
      refine for_range (lo := 0) (n := 2) (fun k σ H6' => ∃ (v6 : Option V), σ = [some (.ref g), some (.int m), some (.int t), some (.int o), some (.int v), some (.int (lossF m t v (Builtin.Int.intBits t + 2))), v6, some (.int (lossF m t o (Builtin.Int.intBits t + 2))), some (.ref p8)] ∧ But g H H6' ∧ GenAt H6' g (n + 100 + 200000 * i + 100000 * k) ∧ H6' pl = some (.lst (ws.map (fun (x : Nat) => V.int x)))) ⟨v6, rfl, b6.same s69, g6.same s69, s69 _ _ h6⟩ ?_ ?_
      · rintro k σ H10 hk ⟨v6', rfl, b10, g10, h10⟩
        walk_at "go"
        refine ⟨g, m, _, t, rfl, g10, by omega, by omega, by omega, by omega, by omega, fun H11 p11 ns np11 b11 g11 h11 hR => ?_⟩
        walk_at "go"
        refine ⟨p11, ns, o, rfl, .inl (.inl h11), by omega, fun z2 H12 s12 hz2 => ?_⟩
        have hle2 := lost_le (b := Builtin.Int.intBits t) hR hbt hz2
        walk_at "go"
        exact ⟨(b10.trans b11).same s12, (g11.same s12).mono (by omega), s12 _ _ (b11 _ _ npg h10)⟩
      · rintro σ H10 ⟨v6', rfl, b10, g10, h10⟩
        exact ⟨_, _, _, _, rfl, b10, g10.mono (by omega), h10⟩
    · rintro σ H6 ⟨v3, v6, v7, v8, rfl, b6, g6, h6⟩
      walk_at "go"
      exact q _ b6
end
end My

namespace My
open PySem PySem.Spec PyProof.Rows L2 Pre
local macro_rules | `(tactic| walk_at "go") => `(tactic| repeat (first | refine ⟨_, rfl, ?_⟩ | refine ⟨_, _, rfl, rfl, ?_⟩ | refine ⟨_, _, rfl, ?_⟩ | refine ⟨rfl, ?_⟩ | refine iteT ?_ | refine iteF ?_ | refine .inl ⟨_, rfl, ?_⟩ | refine .inr ⟨_, rfl, ?_⟩ | refine iteET (by omega) ?_ | refine iteEF (by omega) ?_ | refine iteENT (by omega) ?_ | refine iteENF (by omega) ?_ | refine iteDT (by omega) ?_ | refine iteDF (by omega) ?_ | refine iteNT (by omega) ?_ | refine iteNF (by omega) ?_))
local macro_rules | `(tactic| walk_at "b") => `(tactic| try dsimp (config := { proj := false, iota := false, eta := false, zeta := false }) only)
section
variable {P : Program} {w : World} {K : PySem.W.Frag} {mg : Str → Option Value} {base : Heap}
def sp_law (K : PySem.W.Frag) : Sp := fun vs H Q _ => ∃ (a : Addr) (ns : List Int), vs = [.ref a] ∧ SqL K H a (ns.map V.int) ∧ ns.length ≤ 63 ∧ ∀ H', Q (.bl true) H'
theorem G_law (T : Top K mg) : FnOk P w K mg base CX0 7 T.f_law T.fd_law ["_law_script"] (sp_law K) := by
  refine T.F_law.ok sc_law (fun vs H Q E h => by obtain ⟨a, ns, rfl, _⟩ := h; rfl) (fun cdv A outer s H vs Q E hr h => ?_)
  obtain ⟨a, ns, rfl, hS, hn, q⟩ := h
  refine ⟨_, PSs.nox (pss_cons (ps_set (i := 1) sc_law.nd rfl (by first | exact Or.inl rfl | exact Or.inr rfl) (pe_call (G_law_generator T) (hr.mono (by decide)) (by rfl) T.g_law_generator T.F_law_generator.kp T.b_law_generator .nil pass0 (pa_cons (pv 0) (pa_cons pe_int pa_nil))))
  (pss_cons (ps_set (i := 2) sc_law.nd rfl (by first | exact Or.inl rfl | exact Or.inr rfl) (pe_op op_add pe_int (pe_call (G_law_random T) (hr.mono (by decide)) (by rfl) T.g_law_random T.F_law_random.kp T.b_law_random .nil pass0 (pa_cons (pv 1) (pa_cons pe_int pa_nil)))))
  (pss_cons (ps_if (pt_not (pt_val (pe_call (G_law_small_right T) (hr.mono (by decide)) (by rfl) T.g_law_small_right T.F_law_small_right.kp T.b_law_small_right .nil pass0 (pa_cons (pv 2) (pa_cons (pe_call (G_law_random T) (hr.mono (by decide)) (by rfl) T.g_law_random T.F_law_random.kp T.b_law_random .nil pass0 (pa_cons (pv 1) (pa_cons (pe_op op_sub pe_int (pe_op op_mul pe_int (pv 2))) pa_nil))) pa_nil)))))
    (pss_one (ps_ret pe_bl))
    pss_nil)
  (pss_cons (ps_if (pt_not (pt_val (pe_call (G_law_small_right T) (hr.mono (by decide)) (by rfl) T.g_law_small_right T.F_law_small_right.kp T.b_law_small_right .nil pass0 (pa_cons pe_int (pa_cons (pe_call (G_law_random T) (hr.mono (by decide)) (by rfl) T.g_law_random T.F_law_random.kp T.b_law_random .nil pass0 (pa_cons (pv 1) (pa_cons pe_int pa_nil))) pa_nil)))))
    (pss_one (ps_ret pe_bl))
    pss_nil)
  (pss_cons (ps_par (by rfl) sc_law.nd (i := 2) (j := 3) rfl rfl (by decide) rfl rfl (pa_cons (pe_op op_add pe_int (pe_call (G_law_random T) (hr.mono (by decide)) (by rfl) T.g_law_random T.F_law_random.kp T.b_law_random .nil pass0 (pa_cons (pv 1) (pa_cons (pe_ix (k_ixL K rfl) (pe_lst (pa_cons pe_int (pa_cons pe_int pa_nil))) (pe_call (G_law_random T) (hr.mono (by decide)) (by rfl) T.g_law_random T.F_law_random.kp T.b_law_random .nil pass0 (pa_cons (pv 1) (pa_cons pe_int pa_nil))) (fun _ _ => rfl)) pa_nil)))) (pa_cons (pe_call (G_law_random T) (hr.mono (by decide)) (by rfl) T.g_law_random T.F_law_random.kp T.b_law_random .nil pass0 (pa_cons (pv 1) (pa_cons pe_int pa_nil))) pa_nil)) (by rfl))
  (pss_cons (ps_if (pt_not (pt_val (pe_call (G_law_great_right T) (hr.mono (by decide)) (by rfl) T.g_law_great_right T.F_law_great_right.kp T.b_law_great_right .nil pass0 (pa_cons (pv 1) (pa_cons (pv 2) (pa_cons (pe_call (G_law_random T) (hr.mono (by decide)) (by rfl) T.g_law_random T.F_law_random.kp T.b_law_random .nil pass0 (pa_cons (pv 1) (pa_cons (pe_op op_shl pe_int (pv 3)) pa_nil))) pa_nil))))))
    (pss_one (ps_ret pe_bl))
    pss_nil)
  (pss_cons (ps_if (pt_cmpR (k_neD K rfl hr.units) (pe_lst (pa_cons (pe_call (G_loss T) (hr.mono (by decide)) (by rfl) T.g_loss T.F_loss.kp T.b_loss .nil pass0 (pa_cons pe_int (pa_cons pe_int (pa_cons pe_int pa_nil)))) (pa_cons (pe_call (G_loss T) (hr.mono (by decide)) (by rfl) T.g_loss T.F_loss.kp T.b_loss .nil pass0 (pa_cons pe_int (pa_cons pe_int (pa_cons pe_int pa_nil)))) (pa_cons (pe_call (G_loss T) (hr.mono (by decide)) (by rfl) T.g_loss T.F_loss.kp T.b_loss .nil pass0 (pa_cons pe_int (pa_cons pe_int (pa_cons pe_int pa_nil)))) (pa_cons (pe_call (G_safest T) (hr.mono (by decide)) (by rfl) T.g_safest T.F_safest.kp T.b_safest .nil pass0 (pa_cons pe_int (pa_cons pe_int pa_nil))) (pa_cons (pe_call (G_safest T) (hr.mono (by decide)) (by rfl) T.g_safest T.F_safest.kp T.b_safest .nil pass0 (pa_cons pe_int (pa_cons pe_int pa_nil))) pa_nil)))))) (pe_lst (pa_cons pe_int (pa_cons pe_int (pa_cons pe_int (pa_cons (pe_tup (pa_cons pe_int (pa_cons pe_int pa_nil))) (pa_cons (pe_tup (pa_cons pe_int (pa_cons pe_int pa_nil))) pa_nil)))))) (nomark _))
    (pss_one (ps_ret pe_bl))
    pss_nil)
  (pss_one (ps_ret (pe_and (pe_cmpR op_eq (pe_call (G_loss T) (hr.mono (by decide)) (by rfl) T.g_loss T.F_loss.kp T.b_loss .nil pass0 (pa_cons (pe_op op_powW pe_int pe_int) (pa_cons pe_int (pa_cons pe_int pa_nil)))) (pe_op op_mul pe_int (pe_op op_powW pe_int pe_int)) (nomark _)) (pe_and (pe_cmpR (k_eqD K rfl hr.units) (pe_call (G_loss_row T) (hr.mono (by decide)) (by rfl) T.g_loss_row T.F_loss_row.kp T.b_loss_row .nil pass0 (pa_cons pe_int (pa_cons pe_int (pa_cons pe_int pa_nil)))) (pe_lst (pa_cons pe_int (pa_cons pe_int (pa_cons pe_int pa_nil)))) (nomark _)) (pe_one (pe_cmpR (k_eqD K rfl hr.units) (pe_call (G_safest T) (hr.mono (by decide)) (by rfl) T.g_safest T.F_safest.kp T.b_safest .nil pass0 (pa_cons (pe_op op_powW pe_int pe_int) (pa_cons pe_int pa_nil))) (pe_tup (pa_cons pe_int (pa_cons pe_int pa_nil))) (nomark _)))))))))))))), ?_⟩
  walk_at "go"
  refine ⟨a, ns, 0, rfl, hS, fun H1 g s1 ng g1 => ?_⟩
  walk_at "go"
  refine ⟨g, _, _, rfl, g1, by omega, by decide, small_2900 (by decide), fun r1 H2 r10 r11 g2 b2 => ?_⟩
  walk_at "go"
  obtain ⟨j, hj⟩ : ∃ j : Nat, r1 = (j : Int) := ⟨r1.toNat, by omega⟩
  subst hj
  refine ⟨.inl ⟨by decide, by decide⟩, ?_⟩
  walk_at "go"
  refine ⟨g, _, _, rfl, g2, by omega, by omega, small_2900 (by omega), fun r2 H3 r20 r21 g3 b3 => ?_⟩
  obtain ⟨t, ht⟩ : ∃ t : Nat, r2 = (t : Int) := ⟨r2.toNat, by omega⟩
  subst ht
  walk_at "go"
  refine ⟨j, t, ?_, by omega, by omega, small_ok ⟨j, by omega⟩ ⟨t, by omega⟩ (.inl (by show t < 11 - 2 * j; omega)), fun H4 s4 => ?_⟩
  · show [V.int (1 + (j : Int)), V.int t] = _
    rw [Int.add_comm]
  walk_at "go"
  refine ⟨g, _, _, rfl, g3.same s4, by omega, by omega, small_2900 (by omega), fun r3 H5 r30 r31 g5 b5 => ?_⟩
  obtain ⟨t2, ht2⟩ : ∃ t : Nat, r3 = (t : Int) := ⟨r3.toNat, by omega⟩
  subst ht2
  walk_at "go"
  refine ⟨by omega, by omega, small_ok ⟨1, by omega⟩ ⟨t2, by omega⟩ (.inr rfl), fun H6 s6 => ?_⟩
  walk_at "go"
  refine ⟨(show 2 ≤ sizeLine by decide), fun p np => ?_⟩
  obtain ⟨H7, e7, s7, h7⟩ := fresh (.lst ([(4 : Int), 30].map V.int)) np
  have e7' : upd H6 p (.lst [V.int 4, V.int 30]) = H7 := e7
  rw [e7']
  have g7 := (g5.same s6).same s7
  walk_at "go"
  refine ⟨g, _, _, rfl, g7, by omega, by omega, small_2900 (by omega), fun r4 H8 r40 r41 g8 b8 => ?_⟩
  have npg : p ≠ g := (g5.same s6).ne np
  have h8 := b8 _ _ npg h7
  obtain ⟨u, hu, hu1, hu2⟩ : ∃ u : Int, atI (([(4 : Int), 30].map V.int)) r4 = some (.int u) ∧ 1 ≤ u ∧ u ≤ 30 := by
    have : r4 = 0 ∨ r4 = 1 := by omega
    rcases this with rfl | rfl
    · exact ⟨4, rfl, by decide, by decide⟩
    · exact ⟨30, rfl, by decide, by decide⟩
  refine ⟨p, _, r4, _, rfl, rfl, .inl (.inl h8), hu, ?_⟩
  walk_at "go"
  refine ⟨g, _, _, rfl, g8, by omega, by omega, small_2900 (by omega), fun r5 H9 r50 r51 g9 b9 => ?_⟩
  obtain ⟨m, hm⟩ : ∃ m : Nat, r5 = (m : Int) := ⟨r5.toNat, by omega⟩
  subst hm
  walk_at "go"
  refine ⟨g, _, _, rfl, g9, by omega, by omega, small_2900 (by omega), fun r6 H10 r60 r61 g10 b10 => ?_⟩
  obtain ⟨d, hd⟩ : ∃ m : Nat, r6 = (m : Int) := ⟨r6.toNat, by omega⟩
  subst hd
  have hp := pow_pos' d
  have hp2 : (2 : Int) ^ d ≤ 2 ^ 49 := pow2_le (by omega)
  walk_at "go"
  refine ⟨⟨by omega, by omega, by decide⟩, ?_⟩
  walk_at "b"
  rw [Int.one_mul, Int.toNat_natCast]
  walk_at "go"
  refine ⟨g, _, _, rfl, g10, by omega, by omega, small_2900 (by omega), fun r7 H11 r70 r71 g11 b11 => ?_⟩
  walk_at "go"
  refine ⟨g, 1 + m, _, r7, ?_, g11, by omega, by omega, by omega, by omega, by omega, fun H12 b12 => ?_⟩
  · show [V.ref g, V.int (1 + (m : Int)), V.int r7] = [V.ref g, V.int ((1 + m : Nat) : Int), V.int r7]
    rw [Int.natCast_add]
    rfl
  walk_at "go"
  refine ⟨2, 4, 0, rfl, by decide, by decide, by decide, by decide, by decide, fun H13 s13 => ?_⟩
  walk_at "go"
  refine ⟨2, 4, 1, rfl, by decide, by decide, by decide, by decide, by decide, fun H14 s14 => ?_⟩
  walk_at "go"
  refine ⟨2, 6, 0, rfl, by decide, by decide, by decide, by decide, by decide, fun H15 s15 => ?_⟩
  walk_at "go"
  refine ⟨by decide, by decide, by decide, by decide, fun H16 p16 s16 h16 => ?_⟩
  walk_at "go"
  refine ⟨by decide, by decide, by decide, by decide, fun H17 p17 s17 h17 => ?_⟩
  have k1 : lossF 2 4 0 (Builtin.Int.intBits 4 + 2) = 1 := by decide +kernel
  have k2 : lossF 2 4 (1 : Nat) (Builtin.Int.intBits 4 + 2) = 0 := by decide +kernel
  have k3 : lossF 2 6 0 (Builtin.Int.intBits 6 + 2) = 2 := by decide +kernel
  have k4 : safeP 2 4 (Builtin.Int.intBits 4 + 2) = (0, 1) := by decide +kernel
  have k5 : safeP 2 6 (Builtin.Int.intBits 6 + 2) = (0, 1) := by decide +kernel
  have k6 : lossF (10 ^ 12) 0 5 (Builtin.Int.intBits 0 + 2) = 5 * 10 ^ 12 := by decide +kernel
  have k7 : rowF 3 0 4 (Builtin.Int.intBits 0 + 2) = [0, 0, 0] := by decide +kernel
  have k8 : safeP (10 ^ 12) 0 (Builtin.Int.intBits 0 + 2) = (0, 0) := by decide +kernel
  rw [k4] at h16
  rw [k5] at h17
  rw [k1, k2, k3]
  refine ⟨(show 5 ≤ sizeLine by decide), fun pa npa => ?_⟩
  obtain ⟨H18, e18, s18, h18⟩ := fresh (.lst [V.int 1, V.int 0, V.int 2, V.ref p16, V.ref p17]) npa
  rw [e18]
  walk_at "go"
  refine ⟨(show 2 ≤ sizeLine by decide), fun pb npb => ?_⟩
  obtain ⟨H19, e19, s19, h19⟩ := fresh (.tup [V.int 1, V.int 0]) npb
  rw [e19]
  walk_at "go"
  refine ⟨(show 2 ≤ sizeLine by decide), fun pc npc => ?_⟩
  obtain ⟨H20, e20, s20, h20⟩ := fresh (.tup [V.int 1, V.int 0]) npc
  rw [e20]
  walk_at "go"
  refine ⟨(show 5 ≤ sizeLine by decide), fun pd npd => ?_⟩
  obtain ⟨H21, e21, s21, h21⟩ := fresh (.lst [V.int 1, V.int 0, V.int 2, V.ref pb, V.ref pc]) npd
  rw [e21]
  refine ⟨.list [.int 1, .int 0, .int 2, .tuple [.int 1, .int 0], .tuple [.int 1, .int 0]], .list [.int 1, .int 0, .int 2, .tuple [.int 1, .int 0], .tuple [.int 1, .int 0]], ?_, ?_, by decide +kernel, by decide +kernel, ?_⟩
  · exact .lst (.inl (.inl (s21 _ _ (s20 _ _ (s19 _ _ h18))))) (.cons (.int _) (.cons (.int _) (.cons (.int _) (.cons (.tup (.inl (.inl (s21 _ _ (s20 _ _ (s19 _ _ (s18 _ _ (s17 _ _ h16))))))) (.cons (.int _) (.cons (.int _) .nil))) (.cons (.tup (.inl (.inl (s21 _ _ (s20 _ _ (s19 _ _ (s18 _ _ h17)))))) (.cons (.int _) (.cons (.int _) .nil))) .nil)))))
  · exact .lst (.inl (.inl h21)) (.cons (.int _) (.cons (.int _) (.cons (.int _) (.cons (.tup (.inl (.inl (s21 _ _ (s20 _ _ h19)))) (.cons (.int _) (.cons (.int _) .nil))) (.cons (.tup (.inl (.inl (s21 _ _ h20))) (.cons (.int _) (.cons (.int _) .nil))) .nil)))))
  rw [show PyData.eqv (.list [.int 1, .int 0, .int 2, .tuple [.int 1, .int 0], .tuple [.int 1, .int 0]]) (.list [.int 1, .int 0, .int 2, .tuple [.int 1, .int 0], .tuple [.int 1, .int 0]]) = true by decide +kernel]
  walk_at "go"
  have cp : CPowW 10 12 := ⟨by decide, by decide +kernel⟩
  refine ⟨cp, ?_⟩
  walk_at "go"
  refine ⟨10 ^ 12, 0, 5, rfl, by decide, by decide, by decide, by decide, by decide, fun H22 s22 => ?_⟩
  rw [k6]
  walk_at "go"
  refine ⟨cp, ?_⟩
  walk_at "go"
  refine ⟨.inl ⟨by decide, by decide⟩, ?_⟩
  refine ⟨rfl, ?_⟩
  refine ⟨_, rfl, iteT ?_⟩
  walk_at "go"
  refine ⟨3, 0, 4, rfl, by decide, by decide, by decide, by decide, by decide, fun H23 p23 s23 np23 h23 => ?_⟩
  rw [k7] at h23
  walk_at "go"
  refine ⟨(show 3 ≤ sizeLine by decide), fun pe npe => ?_⟩
  obtain ⟨H24, e24, s24, h24⟩ := fresh (.lst ([(0 : Int), 0, 0].map V.int)) npe
  have e24' : upd H23 pe (.lst [V.int 0, V.int 0, V.int 0]) = H24 := e24
  rw [e24']
  refine eq_lst (ns := [(0 : Int), 0, 0]) (.inl (.inl (s24 _ _ h23))) (.inl (.inl h24)) ?_
  walk_at "go"
  refine ⟨cp, ?_⟩
  walk_at "go"
  refine ⟨by decide, by decide, by decide, by decide, fun H25 p25 s25 h25 => ?_⟩
  rw [show (10 : Int) ^ Int.toNat 12 = 10 ^ 12 from rfl, k8] at h25
  walk_at "go"
  refine ⟨(show 2 ≤ sizeLine by decide), fun pf npf => ?_⟩
  obtain ⟨H26, e26, s26, h26⟩ := fresh (.tup ([(0 : Int), 0].map V.int)) npf
  have e26' : upd H25 pf (.tup [V.int 0, V.int 0]) = H26 := e26
  rw [e26']
  refine eq_tup (ns := [(0 : Int), 0]) (.inl (.inl (s26 _ _ h25))) (.inl (.inl h26)) ?_
  exact q _
end
end My

open PySem PySem.W PySem.Calls PyProof.Rows
set_option maxRecDepth 100000 in
set_option maxHeartbeats 0 in
theorem PySem.Challenge.cw_wholesound_k43_losses_by_number_and_sum_holds : PySem.Challenge.rw_wholesound_k43_losses_by_number_and_sum.Holds := by
  w_on; o_law
  refine HandSHeadRun.head_any (r := OpenLaw.row PySem.Challenge.rw_wholesound_k43_losses_by_number_and_sum) (q := view (OpenLaw.row PySem.Challenge.rw_wholesound_k43_losses_by_number_and_sum).prog [30]) (H := My.hk) (ob := My.ob) (M := 8000) (loose := My.loose) (d := HandSHeadRun.topDef (OpenLaw.row PySem.Challenge.rw_wholesound_k43_losses_by_number_and_sum).prog 30) (kwd := []) My.ob_eq
    (by kernel_rfl) (fun s => by kernel_rfl) My.run (by kernel_rfl) (by kernel_rfl) (by kernel_rfl) (by rfl) (by first | assumption | decide +kernel) (by decide +kernel) ⟨rfl, rfl, rfl, rfl, rfl, by decide +kernel⟩ ?hw ?hc
  case hw => w_witness2
  case hc =>
    refine L2.walk_ofE (l := PySem.Challenge.rw_wholesound_k43_losses_by_number_and_sum) (n := 63) (k := 7) (x := "_law_script") (CX := L2.CX0) rfl (by decide) (by kernel_rfl) ⟨rfl, by decide, by decide⟩ ?F (fun _ _ _ _ z => z)
    intro w mg fa h Y G hmg0
    obtain ⟨K, KX, c⟩ := Y
    have hmg : mg ("law" : PySem.Str) = some (.ref fa) := by
      have e : (HandSHeadRun.topDef (OpenLaw.row PySem.Challenge.rw_wholesound_k43_losses_by_number_and_sum).prog 30).name = ("law" : PySem.Str) := by kernel_rfl
      rw [← e]
      exact hmg0
    have T : My.Top K mg := My.top_mk KX G c
    have e := hmg.symm.trans T.g_law
    cases e
    have b := L2.FunD.bindsA (ps := ["_law_script"]) T.F_law fun _ _ _ _ _ _ us hl => match us, hl with | [_], _ => rfl
    exact ⟨K, T.fd_law, My.sp_law K, KX, fun s v => b s [v] rfl, fun H a ns hl _ hS => ⟨a, ns, rfl, hS, hl, fun _ => rfl⟩, fun base _ _ => My.G_law T⟩


